import PyProof.Rows.All
import Wide.All
import OpenK.AllK
import Wide.FinOn
import HandS.ForMost
import HandS.ForExc
import HandS.Evl
import HandS.Steps
import HandS.IsInst
import HandS.SortInts
import HandS.Conv
import HandS.Style
import HandS.TupLe
import HandS.TupAny
import HandS.Deep
import HandS.ExcCtx
import HandS.ExcIs
import HandS.Codes
import HandS.Zip
import HandS.RaiseFrom
import HandS.SuiteRaise
import PySem.Challenge.RW_onewalls_k01_ties_and_prices

set_option Elab.async false
set_option linter.all false
set_option maxRecDepth 100000
set_option maxHeartbeats 4000000
/-! The base of our walk: operators by name, rules of our own, readings. -/
namespace OW
open PySem PySem.Spec PyProof.Rows L2 Evl

/-! ### operators by name -/
abbrev rPlus : R2 := rI0 fun i j => .int (i + j)
abbrev rMinus : R2 := rI0 fun i j => .int (i - j)
abbrev rTimes : R2 := rI CMul fun i j => .int (i * j)
abbrev rFdiv : R2 := rI CDiv fun i j => .int (i / j)
abbrev rMod : R2 := rI (fun _ j => 0 < j) fun i j => .int (i % j)
abbrev rPow : R2 := rI CPow fun i j => .int (i ^ j.toNat)
abbrev rNeg : V → Hp → VK → Prop := rU fun i => .int (-i)
abbrev rPlusS : R2 := fun x y H Q => ∃ i j, x = .str i ∧ y = .str j ∧ i.length + j.length ≤ sizeLine ∧ Q (.str (i ++ j)) H
abbrev rLt : R2 := rI0 fun i j => .bl (decide (i < j))
abbrev rLe : R2 := rI0 fun i j => .bl (decide (i ≤ j))
abbrev rGt1 : R2 := rI0 fun i j => .bl (decide (j < i))
abbrev rGe1 : R2 := rI0 fun i j => .bl (decide (j ≤ i))
abbrev RCt := List V → Hp → VK → Prop
abbrev rLenStr : RCt := fun xs H Q => ∃ z, xs = [.str z] ∧ z.length ≤ sizeLine ∧ Q (.int z.length) H
abbrev rLenD : RCt := fun xs H Q => ∃ a kvs, xs = [V.ref a] ∧ H a = some (.dK kvs) ∧ Q (.int kvs.length) H
abbrev rMin2 : RCt := fun xs H Q => ∃ i j, xs = [.int i, .int j] ∧ Q (.int (if j < i then j else i)) H
abbrev rInt1 : RCt := fun xs H Q => (∃ i, xs = [.int i] ∧ Q (.int i) H) ∨ ∃ k, xs = [.bl k] ∧ Q (.int (if k then 1 else 0)) H
abbrev rIntStr : RCt := fun xs H Q => ∃ a n, xs = [.str a] ∧ PySem.intText? a = some n ∧ a.length ≤ 640 ∧ Q (.int n) H
abbrev rStrI : RCt := fun xs H Q => ∃ i, xs = [.int i] ∧ i.natAbs.log2 < 1920 ∧ Q (.str (toString i)) H
abbrev rTupS (K : PySem.W.Frag) : RCt := fun xs H Q => ∃ p ys, xs = [.ref p] ∧ ((SqL K H p ys ∧ ∀ l, H l = none → Q (.ref l) (upd H l (.tup ys))) ∨ (SqT K H p ys ∧ Q (.ref p) H))
abbrev rSplit : V → List V → Hp → VK → Prop := fun x xs H Q => ∃ a b, x = .str a ∧ xs = [.str b] ∧ (b.length == 0) = false ∧ a.length + 2 ≤ sizeLine ∧ rNewStrs (Txt.split a b) H Q
abbrev rJoin (K : PySem.W.Frag) : V → List V → Hp → VK → Prop := fun x xs H Q => ∃ a p, ∃ ys : List Str, x = .str a ∧ xs = [.ref p] ∧ (SqL K H p (ys.map V.str) ∨ SqT K H p (ys.map V.str)) ∧ (ys.map (·.length)).sum + ys.length * a.length ≤ 16777216 ∧ Q (.str (Txt.join a ys)) H
def tRaiseE (E : XK) (c : Addr) : TS := fun _ _ H => E (.ref c) none H

/-! ### where our classes lie -/
structure Ads where
  C : Addr
  eWallError : Addr
  eNoNet : Addr
  eNoPlace : Addr
  eNoSide : Addr
  eNoText : Addr
structure NetC (K : PySem.W.Frag) (A : Ads) : Prop where
  cl : Cls K A.C
  nM : NoAttr K A.C "many"
  nK : NoAttr K A.C "kept"
  nS : NoAttr K A.C "summed"
  nN : NoAttr K A.C "near"
/-- an own exception class -/
structure ExcT (K : PySem.W.Frag) (mg : Str → Option Value) (x : Str) (C : Addr) : Prop where
  gC : mg x = some (.ref C)
  q : PySem.W.excIn K C [.type "ValueError", .type "Exception", .type "BaseException", .type "object"] "ValueError.__new__" = true
  kC : PySem.W.keepIn K (.ref C) = true
  b : PySem.W.subIn K (.ref C) (.type "BaseException") = some true
  t : PySem.W.typeIn K (.ref C) = some (.type "type")
section
variable {X : Cx}
theorem pe_gi {x : Str} {pos : Pos} {i : Int} (h : ∃ t, X.mg x = some (.int i t)) (hg : Gl X x := by rfl) (hd : (x == ("__debug__" : Str)) = false := by decide) : PE X (.Name x pos) (tC (.int i)) := by
  obtain ⟨t, h⟩ := h
  exact pe_glob hg h ⟨t, rfl⟩ hd
theorem pe_gs {x : Str} {pos : Pos} {i : Str} (h : ∃ t, X.mg x = some (.str i t)) (hg : Gl X x := by rfl) (hd : (x == ("__debug__" : Str)) = false := by decide) : PE X (.Name x pos) (tC (.str i)) := by
  obtain ⟨t, h⟩ := h
  exact pe_glob hg h ⟨t, rfl⟩ hd
theorem ExcT.pmk {x m : Str} {C : Addr} {j : Nat} {p p2 pos : Pos} (h : ExcT X.K X.mg x C) (hg : Gl X x) (hd : (x == ("__debug__" : Str)) = false := by decide) :
    L2N.PMk X (.Call (.Name x p) [.Constant (.str m) j p2] [] pos) (fun _ H Q => Q (.ref C) none H) :=
  L2N.pmk_own PySem.F.excBase_ValueError h.q h.gC h.kC (raises_own h.b h.t) hg hd
theorem passN : Passes (L2N.CX X.prog X.w) X E0 := fun _ _ _ _ _ _ _ h => by
  obtain ⟨_, _, _, _, _, _, _, _, _, _, _, _, z⟩ := h
  exact z.elim
theorem take0N : L2N.Takes X (fun _ _ _ _ => False) := fun _ _ x => by
  obtain ⟨_, _, _, _, _, _, _, _, _, _, _, _, _, _, _, _, z⟩ := x
  exact z.elim
end
section
variable {P : Program} {w : World} {K : PySem.W.Frag} {mg : Str → Option Value} {base : Heap}
/-- a def that may raise, the context of its error None -/
theorem fun_okN {x qual : Str} {st : Stmt} {f : Addr} {fd : FuncData} {N ps : List Str} {k : Nat} {sp : Sp} (F : Fun K x qual st f fd) (S : FnScope N ps (defScope st)) (len : ∀ vs H Q E, sp vs H Q E → vs.length = ps.length)
    (hbody : ∀ (cdv : Value) (A : Around) (outer : List Env) (s : Shared) (H : Hp) (vs : List V) (Q : VK) (E : XK), Room k (A.deeper (envOfC qual (defScope st) s.heap.objs.size f cdv)) → sp vs H Q E →
      ∃ t, PSs (cxOf (L2N.CX P w) P w K mg base N qual (defScope st) f cdv A outer s H E) (defBody st) t ∧ t { nx := fun _ H' => Q .non H', rt := Q } (start N vs) H) : FnOk P w K mg base (L2N.CX P w) (k + 1) f fd ps sp := by
  obtain ⟨oc, od, kV, doc, pm, an, cdv, ct, osl, rfl, lk, hcd⟩ := F.ex
  exact fn_of lk hcd S len fun A outer s H vs Q E hr hsp => hbody cdv A outer s H vs Q E hr hsp
end

/-! ### readings -/
section
variable {K : PySem.W.Frag} {σ : L2.St} {H H' : Hp} {ta tb tc te tx : TE} {t u : TT} {x y z v : V} {r r' : R2}
theorem ev_fld {a C dx : Addr} {fs : List (Str × V)} {f : Str} (ha : Ev ta σ H (.ref a)) (h : H a = some (.ins C dx fs)) (c : Cls K C) (n : NoAttr K C f) (l : fs.lookup f = some v) : Ev (tFld K ta f) σ H v := fun H1 e Q q =>
  ha H1 e _ fun H2 e2 => ⟨a, C, dx, fs, v, rfl, e2 a _ (e a _ h), c, n, l, q H2 e2⟩
theorem ev_chain {a b : Bool} (ha : Ev ta σ H x) (hb : Ev tb σ H y) (hr : RV r x y H (.bl a)) (hc : a = true → Ev tc σ H z) (hr' : a = true → RV r' y z H (.bl b)) : Ev (tChain r r' ta tb tc) σ H (.bl (a && b)) := fun H1 e Q q =>
  ha H1 e _ fun H2 e2 => hb H2 (e.trans e2) _ fun H3 e3 => hr H3 ((e.trans e2).trans e3) _ fun H4 e4 => ⟨a, rfl, by
    cases a with
    | true =>
      show tc σ H4 _
      exact hc rfl H4 (((e.trans e2).trans e3).trans e4) _ fun H5 e5 => hr' rfl H5 ((((e.trans e2).trans e3).trans e4).trans e5) Q fun H6 e6 => q H6 ((((e2.trans e3).trans e4).trans e5).trans e6)
    | false => exact q H4 ((e2.trans e3).trans e4)⟩
theorem ev_meth {C p dx : Addr} {fs : List (Str × V)} {m : Str} {sp : Sp} {dvs vs : List V} {E : XK} {t : TA} (ha : Ev ta σ H (.ref p)) (h : H p = some (.ins C dx fs)) (l : fs.lookup m = none) (hv : EvA t σ H vs) (hs : SpV sp (.ref p :: (vs ++ dvs)) H z) :
    Ev (tMeth C m sp dvs E ta t) σ H z := fun H1 e Q q =>
  ha H1 e _ fun H2 e2 => ⟨p, dx, fs, rfl, e2 p _ (e p _ h), l, hv H2 (e.trans e2) _ fun H3 e3 => hs H3 ((e.trans e2).trans e3) Q (fun H4 e4 => q H4 ((e2.trans e3).trans e4)) E⟩
theorem el_meth {C p dx : Addr} {fs : List (Str × V)} {m : Str} {sp : Sp} {dvs vs xs : List V} {E : XK} {t : TA} (ha : Ev ta σ H (.ref p)) (h : H p = some (.ins C dx fs)) (l : fs.lookup m = none) (hv : EvA t σ H vs) (hs : SpL sp (.ref p :: (vs ++ dvs)) H xs) :
    EvL (tMeth C m sp dvs E ta t) σ H xs := fun H1 e Q q =>
  ha H1 e _ fun H2 e2 => ⟨p, dx, fs, rfl, e2 p _ (e p _ h), l, hv H2 (e.trans e2) _ fun H3 e3 => hs H3 ((e.trans e2).trans e3) Q (fun a H4 ha e4 h4 => q a H4 (fresh_back (e2.trans e3) ha) ((e2.trans e3).trans e4) h4) E⟩
/-- a built-in of one new list -/
theorem ev_cbL {r : RCt} {xs : List V} (ha : EvL ta σ H xs) (hr : ∀ p H1, H1 p = some (.lst xs) → Ex H H1 → RC r [.ref p] H1 z) : Ev (tCB r (tCons ta tNil)) σ H z := fun H1 e Q q =>
  ha H1 e _ fun p H2 _ e2 hp => hr p H2 hp (e.trans e2) H2 (Ex.refl H2) Q fun H3 e3 => q H3 (e2.trans e3)
theorem el_cbL {r : RCt} {xs ys : List V} (ha : EvL ta σ H xs) (hr : ∀ p H1, H1 p = some (.lst xs) → Ex H H1 → RCL r [.ref p] H1 ys) : EvL (tCB r (tCons ta tNil)) σ H ys := fun H1 e Q q =>
  ha H1 e _ fun p H2 _ e2 hp => hr p H2 hp (e.trans e2) H2 (Ex.refl H2) Q fun b H3 hb e3 h3 => q b H3 (fresh_back e2 hb) (e2.trans e3) h3
theorem rv_plus {i j : Int} : RV rPlus (.int i) (.int j) H (.int (i + j)) := rv_I0
theorem rv_minus {i j : Int} : RV rMinus (.int i) (.int j) H (.int (i - j)) := rv_I0
theorem rv_times {i j : Int} (h : CMul i j) : RV rTimes (.int i) (.int j) H (.int (i * j)) := rv_I h
theorem rv_fdiv {i j : Int} (h : CDiv i j) : RV rFdiv (.int i) (.int j) H (.int (i / j)) := rv_I h
theorem rv_mod {i j : Int} (h : 0 < j) : RV rMod (.int i) (.int j) H (.int (i % j)) := rv_I h
theorem rv_lt {i j : Int} : RV rLt (.int i) (.int j) H (.bl (decide (i < j))) := rv_I0
theorem rv_le {i j : Int} : RV rLe (.int i) (.int j) H (.bl (decide (i ≤ j))) := rv_I0
theorem rv_gt {i j : Int} : RV rGt1 (.int i) (.int j) H (.bl (decide (j < i))) := rv_I0
theorem rv_ge {i j : Int} : RV rGe1 (.int i) (.int j) H (.bl (decide (j ≤ i))) := rv_I0
theorem deq_int (i j : Int) : decide (V.int i = V.int j) = decide (i = j) := by
  by_cases h : i = j
  · rw [decide_eq_true h, decide_eq_true (by rw [h])]
  · rw [decide_eq_false h, decide_eq_false (fun e => h (V.int.inj e))]
theorem deq_bl (i j : Bool) : decide (V.bl i = V.bl j) = decide (i = j) := by
  by_cases h : i = j
  · rw [decide_eq_true h, decide_eq_true (by rw [h])]
  · rw [decide_eq_false h, decide_eq_false (fun e => h (V.bl.inj e))]
theorem deq_str (i j : Str) : decide (V.str i = V.str j) = decide (i = j) := by
  by_cases h : i = j
  · rw [decide_eq_true h, decide_eq_true (by rw [h])]
  · rw [decide_eq_false h, decide_eq_false (fun e => h (V.str.inj e))]
theorem rv_eqI {i j : Int} : RV rEq (.int i) (.int j) H (.bl (decide (i = j))) := by
  rw [← deq_int]
  exact rv_eq rfl
theorem rv_neI {i j : Int} : RV rNe (.int i) (.int j) H (.bl (!decide (i = j))) := by
  rw [← deq_int]
  exact rv_ne rfl
theorem rv_eqB {i j : Bool} : RV rEq (.bl i) (.bl j) H (.bl (decide (i = j))) := by
  rw [← deq_bl]
  exact rv_eq rfl
theorem rv_neB {i j : Bool} : RV rNe (.bl i) (.bl j) H (.bl (!decide (i = j))) := by
  rw [← deq_bl]
  exact rv_ne rfl
theorem rv_eqS {i j : Str} : RV rEq (.str i) (.str j) H (.bl (decide (i = j))) := by
  rw [← deq_str]
  exact rv_eq rfl
theorem rv_neS {i j : Str} : RV rNe (.str i) (.str j) H (.bl (!decide (i = j))) := by
  rw [← deq_str]
  exact rv_ne rfl
theorem rc_min2 {i j : Int} : RC rMin2 [.int i, .int j] H (.int (min i j)) := fun H1 _ _ q => ⟨i, j, rfl, by
  have e : (if j < i then j else i) = min i j := by omega
  rw [e]
  exact q H1 (Ex.refl H1)⟩
theorem rc_max2 {i j : Int} : RC rMax2 [.int i, .int j] H (.int (max i j)) := fun H1 _ _ q => ⟨i, j, rfl, by
  have e : (if j > i then j else i) = max i j := by omega
  rw [e]
  exact q H1 (Ex.refl H1)⟩
theorem rc_lenL {p : Addr} {xs : List V} (h : SqL K H p xs) : RC (rLenS K) [.ref p] H (.int (xs.length : Int)) := fun H1 e _ q => ⟨p, xs, rfl, .inl (ex_l e h), q H1 (Ex.refl H1)⟩
theorem rc_lenT {p : Addr} {xs : List V} (h : SqT K H p xs) : RC (rLenS K) [.ref p] H (.int (xs.length : Int)) := fun H1 e _ q => ⟨p, xs, rfl, .inr (ex_t e h), q H1 (Ex.refl H1)⟩
theorem rc_sum {p : Addr} {ns : List Int} (h : SqL K H p (ns.map V.int)) : RC (rSum K) [.ref p] H (.int ns.sum) := fun H1 e _ q => ⟨p, ns, rfl, ex_l e h, q H1 (Ex.refl H1)⟩
theorem rcl_list {p : Addr} {xs : List V} (h : SqL K H p xs ∨ SqT K H p xs) : RCL (rListS K) [.ref p] H xs := fun H1 e _ q => ⟨p, xs, rfl, h.elim (fun h => .inl (ex_l e h)) (fun h => .inr (ex_t e h)), fun l hl => q l _ hl (Ex.new hl) upd_same⟩
/-- the sorted list -/
def srt (ns : List Int) : List Int := ns.mergeSort (fun x y => decide (x ≤ y))
theorem srt_perm (ns : List Int) : (srt ns).Perm ns := List.mergeSort_perm _ _
theorem srt_sorted (ns : List Int) : (srt ns).Pairwise (· ≤ ·) := by
  have h := List.pairwise_mergeSort (le := fun x y : Int => decide (x ≤ y)) (by intro x y z hxy hyz; simp only [decide_eq_true_eq] at *; omega) (by intro x y; simp only [Bool.or_eq_true, decide_eq_true_eq]; omega) ns
  exact h.imp (by intro a b hab; simpa using hab)
theorem srt_one {a b : List Int} (p : a.Perm b) (h : a.Pairwise (· ≤ ·)) : a = srt b :=
  List.Perm.eq_of_pairwise (le := (· ≤ ·)) (fun _ _ _ _ h1 h2 => Int.le_antisymm h1 h2) h (srt_sorted b) (p.trans (srt_perm b).symm)
theorem rcl_sorted {p : Addr} {ns : List Int} (h : SqL K H p (ns.map V.int)) : RCL (rSortedI K) [.ref p] H ((srt ns).map V.int) := fun H1 e _ q => ⟨p, ns, rfl, ex_l e h, fun ns' l hp hs hl => by
  rw [srt_one hp hs]
  exact q l _ hl (Ex.new hl) upd_same⟩
/-- a value's type is known -/
def Vt (K : PySem.W.Frag) (H : Hp) (v : V) (ty : String) : Prop := TyOf K H v (.type ty)
theorem ex_ty {ty : Value} (e : Ex H H') (h : TyOf K H v ty) : TyOf K H' v ty := by
  cases h with
  | non => exact .non
  | bl x => exact .bl x
  | int i => exact .int i
  | str x => exact .str x
  | flt x => exact .flt x
  | lst h => exact .lst (e _ _ h)
  | frz h => exact .frz (e _ _ h)
  | tup h => exact .tup (e _ _ h)
  | dK h => exact .dK (e _ _ h)
  | dT h => exact .dT (e _ _ h)
  | ins h cl ha hn htk hm => exact .ins (e _ _ h) cl ha hn htk hm
theorem Vt.mono {ty : String} (e : Ex H H') (h : Vt K H v ty) : Vt K H' v ty := ex_ty e h
theorem vt_int {i : Int} : Vt K H (.int i) "int" := .int i
theorem vt_bl {i : Bool} : Vt K H (.bl i) "bool" := .bl i
theorem vt_str {i : Str} : Vt K H (.str i) "str" := .str i
theorem vt_non : Vt K H .non "NoneType" := .non
theorem vt_lst {a : Addr} {xs : List V} (h : H a = some (.lst xs)) : Vt K H (.ref a) "list" := .lst h
theorem vt_tup {a : Addr} {xs : List V} (h : H a = some (.tup xs)) : Vt K H (.ref a) "tuple" := .tup h
theorem vt_is_tup {a : Addr} {xs : List V} {ty : String} (h : H a = some (.tup xs)) (t : Vt K H (.ref a) ty) : ty = "tuple" := by
  have key : ∀ T : Value, TyOf K H (.ref a) T → T = .type "tuple" := by
    intro T t
    cases t with
    | tup e => rfl
    | lst e => rw [h] at e; cases e
    | frz e => rw [h] at e; cases e
    | dK e => rw [h] at e; cases e
    | dT e => rw [h] at e; cases e
    | ins e => rw [h] at e; cases e
  exact Value.type.inj (key _ t)
theorem kitB_self (T : String) : kitB T T = some true := by
  unfold kitB
  rw [if_pos (by exact beq_self_eq_true _)]
theorem rc_isi {v : V} {ty T : String} {b : Bool} (h : Vt K H v ty) (hb : kitB ty T = some b) : RC (rIsi K) [v, .ty T] H (.bl b) := fun H1 e _ q =>
  ⟨v, .ty T, .type ty, .type T, b, rfl, .ty T, .base (ex_ty e h), kit_ty hb, q H1 (Ex.refl H1)⟩
/-- dict reads -/
theorem ev_get2 {d : Addr} {kvs : List (List Key × V)} {k : List Key} (hd : Ev ta σ H (.ref d)) (h : H d = some (.dT kvs)) (hk : EvU tb σ H (k.map kV)) (hx : Ev tc σ H z) : Ev (tDGet2 ta tb tc) σ H ((valV kvs k).getD z) := fun H1 e Q q =>
  hd H1 e _ fun H2 e2 => ⟨d, rfl, .inr ⟨kvs, .inl (e2 d _ (e d _ h))⟩, hk H2 (e.trans e2) _ fun a H3 _ e3 ha => hx H3 ((e.trans e2).trans e3) _ fun H4 e4 =>
    ⟨valV kvs k, .inr ⟨kvs, k, a, .inl (e4 d _ (e3 d _ (e2 d _ (e d _ h)))), rfl, e4 a _ ha, rfl⟩, q H4 ((e2.trans e3).trans e4)⟩⟩
theorem ev_getT {d a : Addr} {kvs : List (List Key × V)} {k : List Key} (hd : Ev ta σ H (.ref d)) (h : Rd H d (.dT kvs)) (hk : Ev tb σ H (.ref a)) (ha : H a = some (.tup (k.map kV))) (hv : valV kvs k = some v) : Ev (tDGet ta tb) σ H v := fun H1 e Q q =>
  hd H1 e _ fun H2 e2 => hk H2 (e.trans e2) _ fun H3 e3 => ⟨d, v, rfl, .inr ⟨kvs, k, a, ex_rd ((e.trans e2).trans e3) h, rfl, (((e.trans e2).trans e3)) a _ ha, hv.symm⟩, q H3 (e2.trans e3)⟩
theorem ev_getK {d : Addr} {kvs : List (Key × V)} {k : Key} (hd : Ev ta σ H (.ref d)) (h : Rd H d (.dK kvs)) (hk : Ev tb σ H (kV k)) (hv : valV kvs k = some v) : Ev (tDGet ta tb) σ H v := fun H1 e Q q =>
  hd H1 e _ fun H2 e2 => hk H2 (e.trans e2) _ fun H3 e3 => ⟨d, v, rfl, .inl ⟨kvs, k, ex_rd ((e.trans e2).trans e3) h, rfl, hv.symm⟩, q H3 (e2.trans e3)⟩
theorem ev_inK {d : Addr} {kvs : List (Key × V)} {k : Key} (hd : Ev ta σ H (.ref d)) (h : Rd H d (.dK kvs)) (hk : Ev tb σ H (kV k)) : Ev (tDIn tb ta) σ H (.bl (valV kvs k).isSome) := fun H1 e Q q =>
  hk H1 e _ fun H2 e2 => hd H2 (e.trans e2) _ fun H3 e3 => ⟨d, valV kvs k, rfl, .inl ⟨kvs, k, ex_rd ((e.trans e2).trans e3) h, rfl, rfl⟩, q H3 (e2.trans e3)⟩
theorem ev_notInK {d : Addr} {kvs : List (Key × V)} {k : Key} (hd : Ev ta σ H (.ref d)) (h : Rd H d (.dK kvs)) (hk : Ev tb σ H (kV k)) : Ev (tDNotIn tb ta) σ H (.bl (!(valV kvs k).isSome)) := fun H1 e Q q =>
  hk H1 e _ fun H2 e2 => hd H2 (e.trans e2) _ fun H3 e3 => ⟨d, valV kvs k, rfl, .inl ⟨kvs, k, ex_rd ((e.trans e2).trans e3) h, rfl, rfl⟩, q H3 (e2.trans e3)⟩
theorem ev_notInT {d a : Addr} {kvs : List (List Key × V)} {k : List Key} (hd : Ev ta σ H (.ref d)) (h : Rd H d (.dT kvs)) (hk : Ev tb σ H (.ref a)) (ha : H a = some (.tup (k.map kV))) : Ev (tDNotIn tb ta) σ H (.bl (!(valV kvs k).isSome)) := fun H1 e Q q =>
  hk H1 e _ fun H2 e2 => hd H2 (e.trans e2) _ fun H3 e3 => ⟨d, valV kvs k, rfl, .inr ⟨kvs, k, a, ex_rd ((e.trans e2).trans e3) h, rfl, ((e.trans e2).trans e3) a _ ha, rfl⟩, q H3 (e2.trans e3)⟩
theorem ev_inT {d a : Addr} {kvs : List (List Key × V)} {k : List Key} (hd : Ev ta σ H (.ref d)) (h : Rd H d (.dT kvs)) (hk : Ev tb σ H (.ref a)) (ha : H a = some (.tup (k.map kV))) : Ev (tDIn tb ta) σ H (.bl (valV kvs k).isSome) := fun H1 e Q q =>
  hk H1 e _ fun H2 e2 => hd H2 (e.trans e2) _ fun H3 e3 => ⟨d, valV kvs k, rfl, .inr ⟨kvs, k, a, ex_rd ((e.trans e2).trans e3) h, rfl, ((e.trans e2).trans e3) a _ ha, rfl⟩, q H3 (e2.trans e3)⟩
theorem rd_of {d : Addr} {u : HO} (h : H d = some u) : Rd H d u := .inl h
/-- the end of a reading: what is known passes on -/
theorem Ev.go {Q : VK} (h : Ev te σ H v) (k : ∀ H1, Ex H H1 → Q v H1) : te σ H Q := h H (Ex.refl H) Q k
theorem EvT.go {b : Bool} {Q : Bool → Hp → Prop} (h : EvT t σ H b) (k : ∀ H1, Ex H H1 → Q b H1) : t σ H Q := h H (Ex.refl H) Q k
/-- an if whose test is known -/
theorem s_yes {D : Ends} {tu tw : TS} (h : EvT t σ H true) (k : ∀ H1, Ex H H1 → tu D σ H1) : tIfS t tu tw D σ H := s_if h (fun _ => k) (fun q => nomatch q)
theorem s_no {D : Ends} {tu tw : TS} (h : EvT t σ H false) (k : ∀ H1, Ex H H1 → tw D σ H1) : tIfS t tu tw D σ H := s_if h (fun q => nomatch q) (fun _ => k)
theorem q_yes {D : Ends} {tu tw tz : TS} (h : EvT t σ H true) (k : ∀ H1, Ex H H1 → tu { D with nx := tz D } σ H1) : tSeq (tIfS t tu tw) tz D σ H := s_yes (D := { D with nx := tz D }) h k
theorem q_skip {D : Ends} {tu tz : TS} (h : EvT t σ H false) (k : ∀ H1, Ex H H1 → tz D σ H1) : tSeq (tIfS t tu tNext) tz D σ H := s_no (D := { D with nx := tz D }) h k
theorem q_no {D : Ends} {tu tw tz : TS} (h : EvT t σ H false) (k : ∀ H1, Ex H H1 → tw { D with nx := tz D } σ H1) : tSeq (tIfS t tu tw) tz D σ H := s_no (D := { D with nx := tz D }) h k
end
/-! ### statements by what follows -/
section
variable {K : PySem.W.Frag} {σ : L2.St} {H H' : Hp} {ta tb tc te tx : TE} {t u : TT} {x y z v : V} {D : Ends} {tu tw tz : TS}
theorem q_drop0 (h : te σ H fun _ H1 => tz D σ H1) : tSeq (tDrop te) tz D σ H := h
theorem s_drop0 (h : te σ H fun _ H1 => D.nx σ H1) : tDrop te D σ H := h
theorem s_ret0 (h : te σ H D.rt) : tRet te D σ H := h
theorem q_asg0 {i : Nat} (h : te σ H fun v H1 => tz D (σ.set i (some v)) H1) : tSeq (tAsg te (gName i)) tz D σ H := h
theorem s_asg0 {i : Nat} (h : te σ H fun v H1 => D.nx (σ.set i (some v)) H1) : tAsg te (gName i) D σ H := h
theorem q_seq0 (h : tu { D with nx := tz D } σ H) : tSeq tu tz D σ H := h
theorem c_meth {C p dx : Addr} {fs : List (Str × V)} {m : Str} {sp : Sp} {dvs vs : List V} {E : XK} {t : TA} {Q : VK} (ha : Ev ta σ H (.ref p)) (h : H p = some (.ins C dx fs)) (l : fs.lookup m = none) (hv : EvA t σ H vs) (hs : ∀ H1, Ex H H1 → sp (.ref p :: (vs ++ dvs)) H1 Q E) :
    tMeth C m sp dvs E ta t σ H Q :=
  ha H (Ex.refl H) _ fun H2 e2 => ⟨p, dx, fs, rfl, e2 p _ h, l, hv H2 e2 _ fun H3 e3 => hs H3 (e2.trans e3)⟩
theorem c_call {sp : Sp} {dvs vs : List V} {E : XK} {t : TA} {Q : VK} (hv : EvA t σ H vs) (hs : ∀ H1, Ex H H1 → sp (vs ++ dvs) H1 Q E) : tCall sp dvs E t σ H Q :=
  hv H (Ex.refl H) _ fun H3 e3 => hs H3 e3
theorem c_make {C : Addr} {sp : Sp} {dvs vs : List V} {E : XK} {t : TA} {Q : VK} (hv : EvA t σ H vs)
    (hs : ∀ H1, Ex H H1 → ∀ x dx, H1 x = none → H1 dx = none → dx ≠ x → sp (.ref x :: (vs ++ dvs)) (upd (upd H1 dx (.own x)) x (.ins C dx [])) (fun v H2 => v = .non ∧ Q (.ref x) H2) E) : tMake C sp dvs E t σ H Q :=
  hv H (Ex.refl H) _ fun H3 e3 => hs H3 e3
/-- e.f = v -/
theorem q_fld {C p dx : Addr} {fs : List (Str × V)} {f : Str} (hv : Ev tb σ H v) (ha : Ev ta σ H (.ref p)) (h : H p = some (.ins C dx fs)) (c : Cls K C) (n : NoAttr K C f) (hl : fs.length < 1000) (k : ∀ H1, Ex H H1 → tz D σ (upd H1 p (.ins C dx (putF f v fs)))) :
    tSeq (sFld K ta tb f) tz D σ H :=
  hv H (Ex.refl H) _ fun H1 e1 => ha H1 e1 _ fun H2 e2 => ⟨p, C, dx, fs, rfl, e2 p _ (e1 p _ h), c, n, hl, k H2 (e1.trans e2)⟩
/-- e.f = [..] -/
theorem q_fldL {C p dx : Addr} {fs : List (Str × V)} {f : Str} {xs : List V} (hv : EvL tb σ H xs) (ha : Ev ta σ H (.ref p)) (h : H p = some (.ins C dx fs)) (c : Cls K C) (n : NoAttr K C f) (hl : fs.length < 1000) (k : ∀ l H1, H l = none → Ex H H1 → H1 l = some (.lst xs) → tz D σ (upd H1 p (.ins C dx (putF f (.ref l) fs)))) :
    tSeq (sFld K ta tb f) tz D σ H :=
  hv H (Ex.refl H) _ fun l H1 hl1 e1 h1 => ha H1 e1 _ fun H2 e2 => ⟨p, C, dx, fs, rfl, e2 p _ (e1 p _ h), c, n, hl, k l H2 hl1 (e1.trans e2) (e2 l _ h1)⟩
theorem q_fld0 {f : Str} (h : tb σ H fun y H1 => ta σ H1 fun x H2 => ∃ a C dx fs, x = .ref a ∧ H2 a = some (.ins C dx fs) ∧ Cls K C ∧ NoAttr K C f ∧ fs.length < 1000 ∧ tz D σ (upd H2 a (.ins C dx (putF f y fs)))) : tSeq (sFld K ta tb f) tz D σ H := h
end
/-! ### comprehensions over a list that stands for data -/
section
variable {K : PySem.W.Frag} {σ : L2.St} {H H' : Hp} {ta tb tc te tx : TE} {t u : TT} {x y z v : V}
theorem given_cons (n : Nat) (f : Nat → Bool) (v : Nat → V) : given (n + 1) f v = (if f 0 then [v 0] else []) ++ given n (fun i => f (i + 1)) (fun i => v (i + 1)) := by
  unfold given
  rw [List.range_succ_eq_map, List.filter_cons]
  cases h : f 0 with
  | true => simp [List.filter_map, Function.comp_def]
  | false => simp [List.filter_map, Function.comp_def]
theorem given_list {α : Type} (d : α) (g : α → Bool) (h : α → V) : ∀ ts : List α, given ts.length (fun i => g (ts.getD i d)) (fun i => h (ts.getD i d)) = (ts.filter g).map h
  | [] => rfl
  | a :: r => by
    rw [List.length_cons, given_cons]
    have ih := given_list d g h r
    have e0 : (a :: r).getD 0 d = a := rfl
    have e1 : ∀ i, (a :: r).getD (i + 1) d = r.getD i d := fun i => rfl
    simp only [e0, e1, ih]
    cases hg : g a with
    | true => simp [hg]
    | false => simp [hg]
theorem el_lcF {α : Type} {a : Addr} {xs : List V} {tl : TE} {j : Nat} {vs : List Nat} (ts : List α) (g : α → Bool) (h : α → V) (hl : Ev tl σ H (.ref a)) (hx : SqL K H a xs) (hz : xs.length ≤ 40000) (hn : xs.length = ts.length) (hw : ∀ x, wipe ((wipe σ vs).set j (some x)) vs = wipe σ vs)
    (ht : ∀ (i : Nat) (x : V) (b : α) H1, Ex H H1 → xs[i]? = some x → ts[i]? = some b → EvT t ((wipe σ vs).set j (some x)) H1 (g b)) (he : ∀ (i : Nat) (x : V) (b : α) H1, Ex H H1 → xs[i]? = some x → ts[i]? = some b → g b = true → Ev te ((wipe σ vs).set j (some x)) H1 (h b)) :
    EvL (tLc (iList K tl) (gName j) t te vs) σ H ((ts.filter g).map h) := by
  cases ts with
  | nil =>
    have q := el_lcL (K := K) (te := te) (t := t) (fun _ => true) (fun _ => V.non) hl hx hz hw (fun i x H1 e hi => by
      have := (List.getElem?_eq_some_iff.mp hi).1
      rw [hn] at this
      exact absurd this (Nat.not_lt_zero _)) (fun i x H1 e hi => by
      have := (List.getElem?_eq_some_iff.mp hi).1
      rw [hn] at this
      exact absurd this (Nat.not_lt_zero _))
    rw [hn] at q
    exact q
  | cons d r =>
    have gt : ∀ (i : Nat) (x : V), xs[i]? = some x → ((d :: r)[i]? = some ((d :: r).getD i d)) := fun i x hi => by
      have := (List.getElem?_eq_some_iff.mp hi).1
      rw [hn] at this
      rw [List.getD, List.getElem?_eq_getElem this]
      rfl
    have q := el_lcL (K := K) (te := te) (t := t) (fun i => g ((d :: r).getD i d)) (fun i => h ((d :: r).getD i d)) hl hx hz hw (fun i x H1 e hi => ht i x _ H1 e hi (gt i x hi)) (fun i x H1 e hi hg => he i x _ H1 e hi (gt i x hi) hg)
    rw [hn, given_list d g h (d :: r)] at q
    exact q
end
/-! ### stores into dicts, calls at the slots -/
section
variable {K : PySem.W.Frag} {σ : L2.St} {H H' : Hp} {ta tb tc te tx : TE} {t u : TT} {x y z v : V} {D : Ends} {tu tw tz : TS}
theorem s_dputT {d q : Addr} {kvs : List (List Key × V)} {k : List Key} (hv : Ev tc σ H v) (hd : Ev ta σ H (.ref d)) (hk : Ev tb σ H (.ref q)) (h : H d = some (.dT kvs)) (hq : H q = some (.tup (k.map kV))) (hz : kvs.length < 100000)
    (n : ∀ H1, Ex H H1 → D.nx σ (upd H1 d (.dT (putK kvs k v)))) : sDPut ta tb tc D σ H :=
  hv H (Ex.refl H) _ fun H1 e1 => hd H1 e1 _ fun H2 e2 => hk H2 (e1.trans e2) _ fun H3 e3 => ⟨d, _, rfl, DPut.t (((e1.trans e2).trans e3) _ _ h) (((e1.trans e2).trans e3) _ _ hq) (sz_lt hz), n H3 ((e1.trans e2).trans e3)⟩
theorem q_dputT {d q : Addr} {kvs : List (List Key × V)} {k : List Key} (hv : Ev tc σ H v) (hd : Ev ta σ H (.ref d)) (hk : Ev tb σ H (.ref q)) (h : H d = some (.dT kvs)) (hq : H q = some (.tup (k.map kV))) (hz : kvs.length < 100000)
    (n : ∀ H1, Ex H H1 → tz D σ (upd H1 d (.dT (putK kvs k v)))) : tSeq (sDPut ta tb tc) tz D σ H := s_dputT (D := { D with nx := tz D }) hv hd hk h hq hz n
/-- the key a new tuple -/
theorem s_dputU {d : Addr} {kvs : List (List Key × V)} {k : List Key} (hv : Ev tc σ H v) (hd : Ev ta σ H (.ref d)) (hk : EvU tb σ H (k.map kV)) (h : H d = some (.dT kvs)) (hz : kvs.length < 100000)
    (n : ∀ H1, Ex H H1 → D.nx σ (upd H1 d (.dT (putK kvs k v)))) : sDPut ta tb tc D σ H :=
  hv H (Ex.refl H) _ fun H1 e1 => hd H1 e1 _ fun H2 e2 => hk H2 (e1.trans e2) _ fun q H3 _ e3 hq => ⟨d, _, rfl, DPut.t (((e1.trans e2).trans e3) _ _ h) hq (sz_lt hz), n H3 ((e1.trans e2).trans e3)⟩
theorem q_dputU {d : Addr} {kvs : List (List Key × V)} {k : List Key} (hv : Ev tc σ H v) (hd : Ev ta σ H (.ref d)) (hk : EvU tb σ H (k.map kV)) (h : H d = some (.dT kvs)) (hz : kvs.length < 100000)
    (n : ∀ H1, Ex H H1 → tz D σ (upd H1 d (.dT (putK kvs k v)))) : tSeq (sDPut ta tb tc) tz D σ H := s_dputU (D := { D with nx := tz D }) hv hd hk h hz n
theorem s_dputK {d : Addr} {kvs : List (Key × V)} {k : Key} (hv : Ev tc σ H v) (hd : Ev ta σ H (.ref d)) (hk : Ev tb σ H (kV k)) (h : H d = some (.dK kvs)) (hz : kvs.length < 100000)
    (n : ∀ H1, Ex H H1 → D.nx σ (upd H1 d (.dK (putK kvs k v)))) : sDPut ta tb tc D σ H :=
  hv H (Ex.refl H) _ fun H1 e1 => hd H1 e1 _ fun H2 e2 => hk H2 (e1.trans e2) _ fun H3 e3 => ⟨d, _, rfl, DPut.k (((e1.trans e2).trans e3) _ _ h) (sz_lt hz), n H3 ((e1.trans e2).trans e3)⟩
theorem q_dputK {d : Addr} {kvs : List (Key × V)} {k : Key} (hv : Ev tc σ H v) (hd : Ev ta σ H (.ref d)) (hk : Ev tb σ H (kV k)) (h : H d = some (.dK kvs)) (hz : kvs.length < 100000)
    (n : ∀ H1, Ex H H1 → tz D σ (upd H1 d (.dK (putK kvs k v)))) : tSeq (sDPut ta tb tc) tz D σ H := s_dputK (D := { D with nx := tz D }) hv hd hk h hz n
end
/-- all that stood in H stands, but for p -/
def Fr (p : Addr) (H H' : Hp) : Prop := ∀ b o, H b = some o → b ≠ p → H' b = some o
section
variable {p q : Addr} {H H1 H2 : Hp} {o : HO}
theorem Fr.ex (h : Fr p H H1) (e : Ex H1 H2) : Fr p H H2 := fun b u hb hp => e b u (h b u hb hp)
theorem Ex.fr (e : Ex H H1) : Fr p H H1 := fun b u hb _ => e b u hb
theorem Fr.mut (h : Fr p H H1) (hq : H q = none ∨ q = p) : Fr p H (upd H1 q o) := fun b u hb hp => by
  rw [upd_ne (fun z => by
    subst z
    rcases hq with hq | hq
    · rw [hq] at hb; cases hb
    · exact hp hq)]
  exact h b u hb hp
theorem Fr.free (h : Fr p H H1) (hq : H1 q = none) (hp : q ≠ p) : H q = none := by
  cases e : H q with
  | none => rfl
  | some u => rw [h q u e hp] at hq; cases hq
/-- seen from a heap that does not know p -/
theorem Fr.toEx (h : Fr p H H1) (hp : H p = none) : Ex H H1 := fun b u hb => h b u hb (fun z => by subst z; rw [hp] at hb; cases hb)
end
section
variable {K : PySem.W.Frag} {σ : L2.St} {H H' : Hp} {D : Ends} {tu tw tz : TS} {g : TG}
theorem q_forZ {ta : TA} {a b : Addr} {xs ys : List V} (h : EvA ta σ H [.ref a, .ref b]) (hx : SqL K H a xs) (hy : SqL K H b ys) (hl : xs.length = ys.length) (Pv : Nat → L2.St → Hp → Prop) (h0 : ∀ H1, Ex H H1 → Pv 0 σ H1) (hq : ∀ i σ H, Pv i σ H → SqL K H a xs ∧ SqL K H b ys)
    (hs : ∀ (i : Nat) (x y : V) (T : Addr) (σ : L2.St) (H : Hp), xs[i]? = some x → ys[i]? = some y → Pv i σ H → H T = none → g (.ref T) σ (upd H T (.tup [x, y])) fun σ2 H2 => tu { D with nx := Pv (i + 1), ct := Pv (i + 1), bk := tz D } σ2 H2) (hd : ∀ σ H, Pv xs.length σ H → tz D σ H) :
    tSeq (tFor (iZip K ta) g tu) tz D σ H :=
  h H (Ex.refl H) _ fun H1 e1 => ⟨a, b, xs, ys, rfl, ex_l e1 hx, ex_l e1 hy, RZ.for_zipL (D := { D with nx := tz D }) hl Pv (h0 H1 e1) hq hs hd⟩
end

theorem Ex.get {H H' : Hp} {a : Addr} {o : HO} (e : Ex H H') (h : H a = some o) : H' a = some o := e a o h

/-! ### a net's attributes -/
def flds (m : Int) (kl sd nl : Addr) : List (Str × V) := [("many", .int m), ("kept", .ref kl), ("summed", .ref sd), ("near", .ref nl)]
theorem lk_here {k : Str} {v : V} {r : List (Str × V)} : List.lookup k ((k, v) :: r) = some v := by
  have e : (k == k) = true := beq_self_eq_true k
  simp only [List.lookup, e]
theorem lk_past {k g : Str} {v : V} {r : List (Str × V)} (h : (k == g) = false) : List.lookup k ((g, v) :: r) = List.lookup k r := by
  simp only [List.lookup, h]
section
variable {m : Int} {kl sd nl : Addr}
theorem lk_many : (flds m kl sd nl).lookup ("many" : Str) = some (.int m) := lk_here
theorem lk_kept : (flds m kl sd nl).lookup ("kept" : Str) = some (.ref kl) := (lk_past (by decide +kernel)).trans lk_here
theorem lk_summed : (flds m kl sd nl).lookup ("summed" : Str) = some (.ref sd) := (lk_past (by decide +kernel)).trans ((lk_past (by decide +kernel)).trans lk_here)
theorem lk_near : (flds m kl sd nl).lookup ("near" : Str) = some (.ref nl) := (lk_past (by decide +kernel)).trans ((lk_past (by decide +kernel)).trans ((lk_past (by decide +kernel)).trans lk_here))
theorem lk_no {f : Str} (h : (f == "many") = false ∧ (f == "kept") = false ∧ (f == "summed") = false ∧ (f == "near") = false) : (flds m kl sd nl).lookup f = none :=
  (lk_past h.1).trans ((lk_past h.2.1).trans ((lk_past h.2.2.1).trans ((lk_past h.2.2.2).trans rfl)))
end

/-! ### promises of the small defs -/
def isI : V → Bool
  | .int _ => true
  | _ => false
/-- a place of a net of so many -/
def isPl (m : Int) : V → Bool
  | .int i => decide (0 ≤ i) && decide (i < m)
  | _ => false
/-- a value of a known kind -/
def Kd (K : PySem.W.Frag) (H : Hp) (v : V) : Prop := ∃ (ty : String) (b1 b2 : Bool), Vt K H v ty ∧ kitB ty "int" = some b1 ∧ kitB ty "bool" = some b2 ∧ (b1 && !b2) = isI v
section
variable {K : PySem.W.Frag} {H H' : Hp}
theorem Kd.mono {v : V} (e : Ex H H') (h : Kd K H v) : Kd K H' v := let ⟨ty, b1, b2, a, b⟩ := h; ⟨ty, b1, b2, a.mono e, b⟩
theorem kd_int {i : Int} : Kd K H (.int i) := ⟨"int", true, false, vt_int, by decide +kernel, by decide +kernel, rfl⟩
theorem kd_bl {i : Bool} : Kd K H (.bl i) := ⟨"bool", true, true, vt_bl, by decide +kernel, by decide +kernel, rfl⟩
theorem kd_str {i : Str} : Kd K H (.str i) := ⟨"str", false, false, vt_str, by decide +kernel, by decide +kernel, rfl⟩
theorem kd_non : Kd K H .non := ⟨"NoneType", false, false, vt_non, by decide +kernel, by decide +kernel, rfl⟩
theorem kd_lst {a : Addr} {xs : List V} (h : H a = some (.lst xs)) : Kd K H (.ref a) := ⟨"list", false, false, vt_lst h, by decide +kernel, by decide +kernel, rfl⟩
theorem kd_tup {a : Addr} {xs : List V} (h : H a = some (.tup xs)) : Kd K H (.ref a) := ⟨"tuple", false, false, vt_tup h, by decide +kernel, by decide +kernel, rfl⟩
end
/-- an instance with the four attributes -/
def ObjAt (A : Ads) (H : Hp) (p : Addr) (m : Int) (kl sd nl : Addr) : Prop := ∃ dx, H p = some (.ins A.C dx (flds m kl sd nl))
theorem ObjAt.mono {A : Ads} {H H' : Hp} {p : Addr} {m : Int} {kl sd nl : Addr} (e : Ex H H') (h : ObjAt A H p m kl sd nl) : ObjAt A H' p m kl sd nl := let ⟨dx, h⟩ := h; ⟨dx, e _ _ h⟩

def sp_is_whole (K : PySem.W.Frag) (_ : Ads) : Sp := fun vs H Q _ => ∃ v, vs = [v] ∧ Kd K H v ∧ ∀ H', Ex H H' → Q (.bl (isI v)) H'
def sp_has (K : PySem.W.Frag) (A : Ads) : Sp := fun vs H Q _ => ∃ p m kl sd nl v, vs = [.ref p, v] ∧ ObjAt A H p m kl sd nl ∧ Kd K H v ∧ ∀ H', Ex H H' → Q (.bl (isPl m v)) H'
def sp_need (K : PySem.W.Frag) (A : Ads) : Sp := fun vs H Q E => ∃ p m kl sd nl v, vs = [.ref p, v] ∧ ObjAt A H p m kl sd nl ∧ Kd K H v ∧
  (isPl m v = true → ∀ H', Ex H H' → Q .non H') ∧ (isPl m v = false → ∀ H', Ex H H' → E (.ref A.eNoPlace) none H')
/-- two different places -/
def isTwo (m : Int) (v u : V) : Bool := isPl m v && isPl m u && !decide (v = u)
def sp_need_two (K : PySem.W.Frag) (A : Ads) : Sp := fun vs H Q E => ∃ p m kl sd nl v u, vs = [.ref p, v, u] ∧ ObjAt A H p m kl sd nl ∧ Kd K H v ∧ Kd K H u ∧
  (isTwo m v u = true → ∀ H', Ex H H' → Q .non H') ∧ (isTwo m v u = false → ∀ H', Ex H H' → E (.ref A.eNoPlace) none H')
def keyT (i j : Int) : List Key := [.inl (min i j), .inl (max i j)]
def sp_cost (_ : PySem.W.Frag) (A : Ads) : Sp := fun vs H Q _ => ∃ p m kl sd nl kvs i j, vs = [.ref p, .int i, .int j] ∧ ObjAt A H p m kl sd nl ∧ H sd = some (.dT kvs) ∧
  ∀ H', Ex H H' → Q ((valV kvs (keyT i j)).getD (.int 0)) H'
section
variable (K : PySem.W.Frag) (A : Ads)
theorem len_is_whole : ∀ vs H Q E, sp_is_whole K A vs H Q E → vs.length = (["thing"] : List Str).length := by
  rintro _ _ _ _ ⟨_, rfl, _⟩; rfl
theorem len_has : ∀ vs H Q E, sp_has K A vs H Q E → vs.length = (["self", "place"] : List Str).length := by
  rintro _ _ _ _ ⟨_, _, _, _, _, _, rfl, _⟩; rfl
theorem len_need : ∀ vs H Q E, sp_need K A vs H Q E → vs.length = (["self", "place"] : List Str).length := by
  rintro _ _ _ _ ⟨_, _, _, _, _, _, rfl, _⟩; rfl
theorem len_need_two : ∀ vs H Q E, sp_need_two K A vs H Q E → vs.length = (["self", "one", "other"] : List Str).length := by
  rintro _ _ _ _ ⟨_, _, _, _, _, _, _, rfl, _⟩; rfl
theorem len_cost : ∀ vs H Q E, sp_cost K A vs H Q E → vs.length = (["self", "one", "other"] : List Str).length := by
  rintro _ _ _ _ ⟨_, _, _, _, _, _, _, _, rfl, _⟩; rfl
end
section
variable {K : PySem.W.Frag} {A : Ads} {H : Hp}
theorem spv_is_whole {v : V} (h : Kd K H v) : SpV (sp_is_whole K A) [v] H (.bl (isI v)) := fun _ e _ q _ => ⟨v, rfl, h.mono e, fun H2 e2 => q H2 e2⟩
theorem spv_has {p : Addr} {m : Int} {kl sd nl : Addr} {v : V} (o : ObjAt A H p m kl sd nl) (h : Kd K H v) : SpV (sp_has K A) [.ref p, v] H (.bl (isPl m v)) := fun _ e _ q _ =>
  ⟨p, m, kl, sd, nl, v, rfl, o.mono e, h.mono e, fun H2 e2 => q H2 e2⟩
theorem spv_cost {p : Addr} {m : Int} {kl sd nl : Addr} {kvs : List (List Key × V)} {i j : Int} (o : ObjAt A H p m kl sd nl) (h : H sd = some (.dT kvs)) : SpV (sp_cost K A) [.ref p, .int i, .int j] H ((valV kvs (keyT i j)).getD (.int 0)) := fun _ e _ q _ =>
  ⟨p, m, kl, sd, nl, kvs, i, j, rfl, o.mono e, e _ _ h, fun H2 e2 => q H2 e2⟩
end

/-! ### nets as data -/
abbrev Tie := Nat × Nat × Int
structure Net where
  many : Nat
  ties : List Tie
def okTie (m : Nat) (t : Tie) : Prop := t.1 < m ∧ t.2.1 < m ∧ t.1 ≠ t.2.1 ∧ 1 ≤ t.2.2 ∧ t.2.2 ≤ 1000000000
structure Net.Ok (n : Net) : Prop where
  lo : 1 ≤ n.many
  hi : n.many ≤ 24
  few : n.ties.length ≤ 300
  all : ∀ t ∈ n.ties, okTie n.many t
def joins (i j : Nat) (t : Tie) : Bool := (decide (t.1 = i) && decide (t.2.1 = j)) || (decide (t.1 = j) && decide (t.2.1 = i))
def costOf (ts : List Tie) (i j : Nat) : Int := ((ts.filter (joins i j)).map (·.2.2)).sum
/-- a place beside i, told by a tie -/
def over (i : Nat) (t : Tie) : Option Nat := if t.1 = i then some t.2.1 else if t.2.1 = i then some t.1 else none
def addNew (l : List Nat) : Option Nat → List Nat
  | none => l
  | some j => if j ∈ l then l else l ++ [j]
def nearOf (ts : List Tie) (i : Nat) : List Nat := ts.foldl (fun l t => addNew l (over i t)) []
def vi (i : Nat) : V := .int (i : Int)
def tieV (t : Tie) : List V := [vi t.1, vi t.2.1, .int t.2.2]
def TiesAt (H : Hp) (as : List Addr) (ts : List Tie) : Prop := Paired (fun a t => H a = some (.tup (tieV t))) as ts
def keyN (i j : Nat) : List Key := [.inl (i : Int), .inl (j : Int)]
structure SumOk (kvs : List (List Key × V)) (ts : List Tie) : Prop where
  val : ∀ i j : Nat, i < j → valV kvs (keyN i j) = if ts.any (joins i j) then some (.int (costOf ts i j)) else none
  len : kvs.length ≤ ts.length
structure NearAt (H : Hp) (ns : List Addr) (ts : List Tie) (m : Nat) : Prop where
  len : ns.length = m
  at_ : ∀ (i : Nat) (a : Addr), ns[i]? = some a → H a = some (.lst ((nearOf ts i).map vi))
structure NetS where
  dx : Addr
  kl : Addr
  sd : Addr
  nl : Addr
  as : List Addr
  ns : List Addr
  kvs : List (List Key × V)
/-- a net stands at p, its parts at s -/
structure NetX (A : Ads) (H : Hp) (p : Addr) (n : Net) (s : NetS) : Prop where
  ok : n.Ok
  ob : H p = some (.ins A.C s.dx (flds (n.many : Int) s.kl s.sd s.nl))
  hk : H s.kl = some (.lst (s.as.map V.ref))
  ta : TiesAt H s.as n.ties
  hs : H s.sd = some (.dT s.kvs)
  so : SumOk s.kvs n.ties
  hn : H s.nl = some (.lst (s.ns.map V.ref))
  na : NearAt H s.ns n.ties n.many
section
variable {A : Ads} {H H' : Hp} {p : Addr} {n : Net} {s : NetS}
theorem TiesAt.mono {as : List Addr} {ts : List Tie} (e : Ex H H') (h : TiesAt H as ts) : TiesAt H' as ts := Paired.mapP h fun a t q => e _ _ q
theorem NearAt.mono {ns : List Addr} {ts : List Tie} {m : Nat} (e : Ex H H') (h : NearAt H ns ts m) : NearAt H' ns ts m := ⟨h.len, fun i a q => e _ _ (h.at_ i a q)⟩
theorem NetX.mono (e : Ex H H') (h : NetX A H p n s) : NetX A H' p n s := ⟨h.ok, e _ _ h.ob, e _ _ h.hk, h.ta.mono e, e _ _ h.hs, h.so, e _ _ h.hn, h.na.mono e⟩
theorem NetX.obj (h : NetX A H p n s) : ObjAt A H p (n.many : Int) s.kl s.sd s.nl := ⟨s.dx, h.ob⟩
theorem paired_get {α β : Type} {R : α → β → Prop} : ∀ {as : List α} {bs : List β} {i : Nat} {a : α} {b : β}, Paired R as bs → as[i]? = some a → bs[i]? = some b → R a b
  | _, _, _, _, _, .nil, h, _ => by simp at h
  | _, _, 0, _, _, .cons r _, h, q => by simp at h q; subst h q; exact r
  | _, _, i + 1, _, _, .cons _ t, h, q => paired_get (i := i) t (by simpa using h) (by simpa using q)
theorem vi_inj {i j : Nat} (h : vi i = vi j) : i = j := by
  have := V.int.inj h
  omega
end

/-! ### promises of the net's defs -/
def sp_ties (_ : PySem.W.Frag) (A : Ads) : Sp := fun vs H Q _ => ∃ p n s, vs = [.ref p] ∧ NetX A H p n s ∧ ∀ q H', H q = none → Ex H H' → H' q = some (.lst (s.as.map V.ref)) → Q (.ref q) H'
def sp_between (K : PySem.W.Frag) (A : Ads) : Sp := fun vs H Q E => ∃ p n s v u, vs = [.ref p, v, u] ∧ NetX A H p n s ∧ Kd K H v ∧ Kd K H u ∧
  (∀ i j : Nat, v = vi i → u = vi j → i < n.many → j < n.many → i ≠ j → ∀ H', Ex H H' → Q (.int (costOf n.ties i j)) H') ∧ (isTwo (n.many : Int) v u = false → ∀ H', Ex H H' → E (.ref A.eNoPlace) none H')
def besideOf (ts : List Tie) (i : Nat) : List Int := srt (List.map (fun j : Nat => (j : Int)) (nearOf ts i))
def sp_beside (K : PySem.W.Frag) (A : Ads) : Sp := fun vs H Q E => ∃ p n s v, vs = [.ref p, v] ∧ NetX A H p n s ∧ Kd K H v ∧
  (∀ i : Nat, v = vi i → i < n.many → ∀ q H', H q = none → Ex H H' → H' q = some (.lst ((besideOf n.ties i).map V.int)) → Q (.ref q) H') ∧ (isPl (n.many : Int) v = false → ∀ H', Ex H H' → E (.ref A.eNoPlace) none H')
def priceOf (ts : List Tie) (side : List Nat) : Int := ((ts.filter fun t => decide (t.1 ∈ side) != decide (t.2.1 ∈ side)).map (·.2.2)).sum
/-- different places of a net of so many -/
def GoodSide (m : Nat) (xs : List V) : Prop := ∃ side : List Nat, xs = side.map vi ∧ side.Nodup ∧ ∀ i ∈ side, i < m
def sp_price (K : PySem.W.Frag) (A : Ads) : Sp := fun vs H Q E => ∃ p n s v, vs = [.ref p, v] ∧ NetX A H p n s ∧
  ((∃ l xs, v = .ref l ∧ H l = some (.lst xs) ∧ xs.length ≤ 1000 ∧ (∀ x ∈ xs, Kd K H x) ∧ (∀ side : List Nat, xs = side.map vi → side.Nodup → (∀ i ∈ side, i < n.many) → ∀ H', Ex H H' → Q (.int (priceOf n.ties side)) H') ∧ (¬ GoodSide n.many xs → ∀ H', Ex H H' → E (.ref A.eNoSide) none H')) ∨
   (∃ ty, Vt K H v ty ∧ kitB ty "list" = some false ∧ ∀ H', Ex H H' → E (.ref A.eNoSide) none H'))
section
variable (K : PySem.W.Frag) (A : Ads)
theorem len_ties : ∀ vs H Q E, sp_ties K A vs H Q E → vs.length = (["self"] : List Str).length := by
  rintro _ _ _ _ ⟨_, _, _, rfl, _⟩; rfl
theorem len_between : ∀ vs H Q E, sp_between K A vs H Q E → vs.length = (["self", "one", "other"] : List Str).length := by
  rintro _ _ _ _ ⟨_, _, _, _, _, rfl, _⟩; rfl
theorem len_beside : ∀ vs H Q E, sp_beside K A vs H Q E → vs.length = (["self", "place"] : List Str).length := by
  rintro _ _ _ _ ⟨_, _, _, _, rfl, _⟩; rfl
theorem len_price : ∀ vs H Q E, sp_price K A vs H Q E → vs.length = (["self", "side"] : List Str).length := by
  rintro _ _ _ _ ⟨_, _, _, _, rfl, _⟩; rfl
end

/-! ### a net while it is built -/
structure Build (A : Ads) (H : Hp) (p : Addr) (m : Nat) (dx kl sd nl : Addr) (ns : List Addr) (ks : List V) (kvs : List (List Key × V)) (nss : Nat → List V) : Prop where
  ob : H p = some (.ins A.C dx (flds (m : Int) kl sd nl))
  hk : H kl = some (.lst ks)
  hs : H sd = some (.dT kvs)
  hn : H nl = some (.lst (ns.map V.ref))
  len : ns.length = m
  at_ : ∀ (i : Nat) (a : Addr), ns[i]? = some a → H a = some (.lst (nss i))
  d1 : kl ≠ nl
  d2 : kl ∉ ns
  d3 : nl ∉ ns
  nd : ns.Nodup
section
variable {A : Ads} {H H' : Hp} {p dx kl sd nl : Addr} {m : Nat} {ns : List Addr} {ks : List V} {kvs : List (List Key × V)} {nss : Nat → List V}
theorem Build.ext (b : Build A H p m dx kl sd nl ns ks kvs nss) (e : Ex H H') : Build A H' p m dx kl sd nl ns ks kvs nss :=
  ⟨e _ _ b.ob, e _ _ b.hk, e _ _ b.hs, e _ _ b.hn, b.len, fun i a h => e _ _ (b.at_ i a h), b.d1, b.d2, b.d3, b.nd⟩
theorem Build.kept (b : Build A H p m dx kl sd nl ns ks kvs nss) (ks' : List V) : Build A (upd H kl (.lst ks')) p m dx kl sd nl ns ks' kvs nss := by
  have h1 : p ≠ kl := ne_of b.ob b.hk (by intro z; cases z)
  have h2 : sd ≠ kl := ne_of b.hs b.hk (by intro z; cases z)
  exact ⟨by rw [upd_ne h1]; exact b.ob, upd_same, by rw [upd_ne h2]; exact b.hs, by rw [upd_ne b.d1.symm]; exact b.hn, b.len, fun i a h => by
    have z : a ≠ kl := fun z => b.d2 (by rw [← z]; exact List.mem_of_getElem? h)
    rw [upd_ne z]; exact b.at_ i a h, b.d1, b.d2, b.d3, b.nd⟩
theorem Build.summed (b : Build A H p m dx kl sd nl ns ks kvs nss) (kvs' : List (List Key × V)) : Build A (upd H sd (.dT kvs')) p m dx kl sd nl ns ks kvs' nss := by
  have h1 : p ≠ sd := ne_of b.ob b.hs (by intro z; cases z)
  have h2 : kl ≠ sd := ne_of b.hk b.hs (by intro z; cases z)
  have h3 : nl ≠ sd := ne_of b.hn b.hs (by intro z; cases z)
  exact ⟨by rw [upd_ne h1]; exact b.ob, by rw [upd_ne h2]; exact b.hk, upd_same, by rw [upd_ne h3]; exact b.hn, b.len, fun i a h => by
    rw [upd_ne (ne_of (b.at_ i a h) b.hs (by intro z; cases z))]; exact b.at_ i a h, b.d1, b.d2, b.d3, b.nd⟩
theorem Build.near (b : Build A H p m dx kl sd nl ns ks kvs nss) {j : Nat} {c : Addr} (hc : ns[j]? = some c) (l : List V) : Build A (upd H c (.lst l)) p m dx kl sd nl ns ks kvs (fun i => if i = j then l else nss i) := by
  have hcl := b.at_ j c hc
  have h1 : p ≠ c := ne_of b.ob hcl (by intro z; cases z)
  have h2 : sd ≠ c := ne_of b.hs hcl (by intro z; cases z)
  have hm := List.mem_of_getElem? hc
  have z1 : kl ≠ c := fun z => b.d2 (by rw [z]; exact hm)
  have z2 : nl ≠ c := fun z => b.d3 (by rw [z]; exact hm)
  refine ⟨by rw [upd_ne h1]; exact b.ob, by rw [upd_ne z1]; exact b.hk, by rw [upd_ne h2]; exact b.hs, by rw [upd_ne z2]; exact b.hn, b.len, fun i a h => ?_, b.d1, b.d2, b.d3, b.nd⟩
  show upd H c (.lst l) a = some (.lst (if i = j then l else nss i))
  by_cases hij : i = j
  · subst hij
    have : a = c := by rw [h] at hc; exact Option.some.inj hc
    rw [if_pos rfl, this, upd_same]
  · have z3 : a ≠ c := fun z => hij (nd_ix b.nd h (by rw [z]; exact hc))
    rw [if_neg hij, upd_ne z3]
    exact b.at_ i a h
end
theorem nearOf_append (ts : List Tie) (t : Tie) (i : Nat) : nearOf (ts ++ [t]) i = addNew (nearOf ts i) (over i t) := by
  unfold nearOf
  rw [List.foldl_append]; rfl
theorem costOf_append (ts : List Tie) (t : Tie) (i j : Nat) : costOf (ts ++ [t]) i j = costOf ts i j + if joins i j t then t.2.2 else 0 := by
  unfold costOf
  rw [List.filter_append, List.map_append, List.sum_append]
  congr 1
  by_cases h : joins i j t = true
  · simp [h]
  · simp [h]
/-- a tie of the two places, in either order, has been told just when the one is beside the other -/
theorem mem_nearOf (ts : List Tie) (i j : Nat) (hall : ∀ t ∈ ts, t.1 ≠ t.2.1) : j ∈ nearOf ts i ↔ ∃ t ∈ ts, over i t = some j := by
  have key : ∀ (ts : List Tie) (acc : List Nat), j ∈ ts.foldl (fun l t => addNew l (over i t)) acc ↔ j ∈ acc ∨ ∃ t ∈ ts, over i t = some j := by
    intro ts
    induction ts with
    | nil => intro acc; simp
    | cons t r ih =>
      intro acc
      rw [List.foldl_cons, ih]
      have : j ∈ addNew acc (over i t) ↔ j ∈ acc ∨ over i t = some j := by
        cases h : over i t with
        | none => simp [addNew]
        | some k =>
          unfold addNew
          by_cases hk : k ∈ acc
          · simp only [if_pos hk, Option.some.injEq]
            exact ⟨.inl, fun h => h.elim id fun e => e ▸ hk⟩
          · simp only [if_neg hk, List.mem_append, List.mem_singleton, Option.some.injEq]
            exact ⟨fun h => h.imp id Eq.symm, fun h => h.imp id Eq.symm⟩
      rw [this]
      simp only [List.mem_cons, exists_eq_or_imp]
      rw [or_assoc]
  unfold nearOf
  rw [key]
  simp
theorem over_joins {i j : Nat} {t : Tie} (hij : i ≠ j) (ht : t.1 ≠ t.2.1) : over i t = some j ↔ joins i j t = true := by
  unfold over joins
  simp only [Bool.or_eq_true, Bool.and_eq_true, decide_eq_true_eq]
  by_cases h1 : t.1 = i
  · rw [if_pos h1]
    simp only [Option.some.injEq]
    exact ⟨fun h => .inl ⟨h1, h⟩, fun h => h.elim (·.2) fun h => absurd (h1.symm.trans h.1) hij⟩
  · rw [if_neg h1]
    by_cases h2 : t.2.1 = i
    · rw [if_pos h2]
      simp only [Option.some.injEq]
      exact ⟨fun h => .inr ⟨h, h2⟩, fun h => h.elim (fun h => absurd h.1 h1) (·.1)⟩
    · rw [if_neg h2]
      simp only [reduceCtorEq, false_iff]
      rintro (h | h)
      · exact h1 h.1
      · exact h2 h.2

/-- what may stand in a list of ties -/
def TieK (K : PySem.W.Frag) (H : Hp) (x : V) : Prop :=
  (∃ ty, Vt K H x ty ∧ kitB ty "tuple" = some false) ∨
  (∃ a vs, x = .ref a ∧ H a = some (.tup vs) ∧ vs.length ≠ 3) ∨
  (∃ a v0 v1 v2, x = .ref a ∧ H a = some (.tup [v0, v1, v2]) ∧ Kd K H v0 ∧ Kd K H v1 ∧ Kd K H v2)
theorem TieK.mono {K : PySem.W.Frag} {H H' : Hp} {x : V} (e : Ex H H') (h : TieK K H x) : TieK K H' x := by
  rcases h with ⟨ty, h, q⟩ | ⟨a, vs, rfl, h, q⟩ | ⟨a, v0, v1, v2, rfl, h, k0, k1, k2⟩
  · exact .inl ⟨ty, h.mono e, q⟩
  · exact .inr (.inl ⟨a, vs, rfl, e _ _ h, q⟩)
  · exact .inr (.inr ⟨a, v0, v1, v2, rfl, e _ _ h, k0.mono e, k1.mono e, k2.mono e⟩)
/-- good ties for a net of so many places -/
def GoodTies (H : Hp) (m : Nat) (xs : List V) : Prop := ∃ as ts, xs = as.map V.ref ∧ TiesAt H as ts ∧ ts.length ≤ 300 ∧ ∀ t ∈ ts, okTie m t
def sp_init (K : PySem.W.Frag) (A : Ads) : Sp := fun vs H Q E => ∃ (H0 : Hp) (p dx : Addr) (mv tv : V), vs = [.ref p, mv, tv] ∧ Ex H0 H ∧ H0 p = none ∧ H p = some (.ins A.C dx []) ∧ Kd K H0 mv ∧
  ((∃ (m l : Nat) (as : List Addr) (ts : List Tie), mv = vi m ∧ tv = .ref l ∧ H0 l = some (.lst (as.map V.ref)) ∧ TiesAt H0 as ts ∧ Net.Ok ⟨m, ts⟩ ∧
      ∀ H' s, Ex H0 H' → NetX A H' p ⟨m, ts⟩ s → s.as = as → H0 s.kl = none → H0 s.sd = none → H0 s.nl = none → (∀ a ∈ s.ns, H0 a = none) → Q .non H') ∨
   (((¬ ∃ m : Nat, mv = vi m ∧ 1 ≤ m ∧ m ≤ 24) ∨ (∃ m : Nat, mv = vi m ∧ 1 ≤ m ∧ m ≤ 24 ∧
      ((∃ ty, Vt K H0 tv ty ∧ kitB ty "list" = some false) ∨ ∃ l xs, tv = .ref l ∧ H0 l = some (.lst xs) ∧ xs.length ≤ 1000 ∧ (∀ x ∈ xs, TieK K H0 x) ∧ ¬ GoodTies H0 m xs))) ∧
      ∀ H', Ex H0 H' → E (.ref A.eNoNet) none H'))
theorem len_init (K : PySem.W.Frag) (A : Ads) : ∀ vs H Q E, sp_init K A vs H Q E → vs.length = (["self", "many", "ties"] : List Str).length := by
  rintro _ _ _ _ ⟨_, _, _, _, _, rfl, _⟩; rfl

/-! ### data compared -/
section
variable {K : PySem.W.Frag} {H H' : Hp}
mutual
theorem Dp.mono (e : Ex H H') : ∀ {v : V} {d : PyData}, Dp K H v d → Dp K H' v d
  | _, _, .non => .non
  | _, _, .bl b => .bl b
  | _, _, .int i => .int i
  | _, _, .str x => .str x
  | _, _, .lst h t => .lst (ex_l e h) (DpAll.mono e t)
  | _, _, .tup h t => .tup (ex_t e h) (DpAll.mono e t)
theorem DpAll.mono (e : Ex H H') : ∀ {vs : List V} {ds : List PyData}, DpAll K H vs ds → DpAll K H' vs ds
  | _, _, .nil => .nil
  | _, _, .cons h t => .cons (Dp.mono e h) (DpAll.mono e t)
end
theorem rv_eqD {x y : V} {d d' : PyData} (h1 : Dp K H x d) (h2 : Dp K H y d') (s1 : SeqAt.shaped d = true) (s2 : SeqAt.shaped d' = true) : RV (rEqD K) x y H (.bl (PyData.eqv d d')) := fun H1 e _ q =>
  ⟨d, d', Dp.mono e h1, Dp.mono e h2, s1, s2, q H1 (Ex.refl H1)⟩
theorem rv_neD {x y : V} {d d' : PyData} (h1 : Dp K H x d) (h2 : Dp K H y d') (s1 : SeqAt.shaped d = true) (s2 : SeqAt.shaped d' = true) : RV (rNeD K) x y H (.bl (!PyData.eqv d d')) := fun H1 e _ q =>
  ⟨d, d', Dp.mono e h1, Dp.mono e h2, s1, s2, q H1 (Ex.refl H1)⟩
def intD (ns : List Int) : PyData := .list (ns.map PyData.int)
def tieD (t : Tie) : PyData := .tuple [.int (t.1 : Int), .int (t.2.1 : Int), .int t.2.2]
def tiesD (ts : List Tie) : PyData := .list (ts.map tieD)
theorem dpAll_ints : ∀ ns : List Int, DpAll K H (ns.map V.int) (ns.map PyData.int)
  | [] => .nil
  | n :: r => .cons (.int n) (dpAll_ints r)
theorem dp_ints {a : Addr} {ns : List Int} (h : SqL K H a (ns.map V.int)) : Dp K H (.ref a) (intD ns) := .lst h (dpAll_ints ns)
theorem dp_tie {a : Addr} {t : Tie} (h : H a = some (.tup (tieV t))) : Dp K H (.ref a) (tieD t) := .tup (st_of h) (.cons (.int _) (.cons (.int _) (.cons (.int _) .nil)))
theorem dpAll_ties : ∀ {as : List Addr} {ts : List Tie}, TiesAt H as ts → DpAll K H (as.map V.ref) (ts.map tieD)
  | _, _, .nil => .nil
  | _, _, .cons h t => .cons (dp_tie h) (dpAll_ties t)
theorem dp_ties {a : Addr} {as : List Addr} {ts : List Tie} (h : SqL K H a (as.map V.ref)) (t : TiesAt H as ts) : Dp K H (.ref a) (tiesD ts) := .lst h (dpAll_ties t)
end
theorem lay_ints : ∀ ns : List Int, PyData.canLayAll0 (ns.map PyData.int) = true
  | [] => rfl
  | n :: r => by
    show (true && PyData.canLayAll0 (r.map PyData.int)) = true
    rw [lay_ints r]; rfl
theorem depth_ints : ∀ ns : List Int, PyData.depthAll (ns.map PyData.int) = 0
  | [] => rfl
  | n :: r => by
    show max 0 (PyData.depthAll (r.map PyData.int)) = 0
    rw [depth_ints r]; rfl
theorem shaped_ints (ns : List Int) : SeqAt.shaped (intD ns) = true := by
  show (PyData.canLayAll0 (ns.map PyData.int) && decide (PyData.depthAll (ns.map PyData.int) + 1 ≤ 64)) = true
  rw [lay_ints, depth_ints]; rfl
theorem lay_tie (t : Tie) : PyData.canLay0 (tieD t) = true := rfl
theorem depth_tie (t : Tie) : PyData.depth (tieD t) = 1 := rfl
theorem shaped_tie (t : Tie) : SeqAt.shaped (tieD t) = true := rfl
theorem lay_ties : ∀ ts : List Tie, PyData.canLayAll0 (ts.map tieD) = true
  | [] => rfl
  | t :: r => by
    show (PyData.canLay0 (tieD t) && PyData.canLayAll0 (r.map tieD)) = true
    rw [lay_ties r]; rfl
theorem depth_ties : ∀ ts : List Tie, PyData.depthAll (ts.map tieD) ≤ 1
  | [] => Nat.zero_le _
  | t :: r => by
    show max 1 (PyData.depthAll (r.map tieD)) ≤ 1
    have := depth_ties r
    omega
theorem shaped_ties (ts : List Tie) : SeqAt.shaped (tiesD ts) = true := by
  show (PyData.canLayAll0 (ts.map tieD) && decide (PyData.depthAll (ts.map tieD) + 1 ≤ 64)) = true
  have := depth_ties ts
  rw [lay_ties, decide_eq_true (by omega)]; rfl
theorem eqv_ints : ∀ a b : List Int, PyData.eqv (intD a) (intD b) = decide (a = b) := by
  have key : ∀ a b : List Int, PyData.eqvAll (a.map PyData.int) (b.map PyData.int) = decide (a = b) := by
    intro a
    induction a with
    | nil => intro b; cases b <;> simp [PyData.eqvAll]
    | cons x r ih =>
      intro b
      cases b with
      | nil => simp [PyData.eqvAll]
      | cons y s =>
        show (PyData.eqv (.int x) (.int y) && PyData.eqvAll (r.map PyData.int) (s.map PyData.int)) = _
        rw [ih]
        show ((x == y) && decide (r = s)) = _
        rw [show (x == y) = decide (x = y) from rfl]
        by_cases h1 : x = y <;> by_cases h2 : r = s <;> simp [h1, h2]
  intro a b
  exact key a b
theorem eqv_self (d : PyData) (h : SeqAt.shaped d = true) : PyData.eqv d d = true := SeqAt.eqv_refl d (SeqAt.canLay_of_shaped h)

def t_is_whole (K : PySem.W.Frag) (A : Ads) : TS :=
  (tRet (tAndV (tCB (rIsi K) (tCons (tVar 0) (tCons (tC (.ty "int")) tNil))) (tNotV (tCB (rIsi K) (tCons (tVar 0) (tCons (tC (.ty "bool")) tNil))))))

def t_has (K : PySem.W.Frag) (A : Ads) : TS :=
  (tRet (tAndV (tCall (sp_is_whole K A) [] E0 (tCons (tVar 1) tNil)) (tChain rLe rLt (tC (.int 0)) (tVar 1) (tFld K (tVar 0) "many"))))

def t_need (K : PySem.W.Frag) (A : Ads) (E : XK) : TS :=
  (tIfS (tNot (tB (tMeth A.C "has" (sp_has K A) [] E0 (tVar 0) (tCons (tVar 1) tNil)))) (tRaiseE E A.eNoPlace) tNext)

def t_need_two (K : PySem.W.Frag) (A : Ads) (E : XK) : TS :=
  (tSeq (tDrop (tMeth A.C "need" (sp_need K A) [] E (tVar 0) (tCons (tVar 1) tNil)))
    (tSeq (tDrop (tMeth A.C "need" (sp_need K A) [] E (tVar 0) (tCons (tVar 2) tNil)))
    (tIfS (tTest (tOp rEq (tVar 1) (tVar 2))) (tRaiseE E A.eNoPlace) tNext)))

def t_cost (K : PySem.W.Frag) (A : Ads) : TS :=
  (tRet (tDGet2 (tFld K (tVar 0) "summed") (tTup (tCons (tCB rMin2 (tCons (tVar 1) (tCons (tVar 2) tNil))) (tCons (tCB rMax2 (tCons (tVar 1) (tCons (tVar 2) tNil))) tNil))) (tC (.int 0))))

def t_ties (K : PySem.W.Frag) (A : Ads) : TS :=
  (tRet (tCB (rListS K) (tCons (tFld K (tVar 0) "kept") tNil)))

def t_between (K : PySem.W.Frag) (A : Ads) (E : XK) : TS :=
  (tSeq (tDrop (tMeth A.C "need_two" (sp_need_two K A) [] E (tVar 0) (tCons (tVar 1) (tCons (tVar 2) tNil))))
    (tRet (tMeth A.C "cost" (sp_cost K A) [] E0 (tVar 0) (tCons (tVar 1) (tCons (tVar 2) tNil)))))

def t_beside (K : PySem.W.Frag) (A : Ads) (E : XK) : TS :=
  (tSeq (tDrop (tMeth A.C "need" (sp_need K A) [] E (tVar 0) (tCons (tVar 1) tNil)))
    (tRet (tCB (rSortedI K) (tCons (tOp (rIxL K) (tFld K (tVar 0) "near") (tVar 1)) tNil))))

def t_price (K : PySem.W.Frag) (A : Ads) (E : XK) : TS :=
  (tSeq (tIfS (tNot (tB (tCB (rIsi K) (tCons (tVar 1) (tCons (tC (.ty "list")) tNil))))) (tRaiseE E A.eNoSide) tNext)
    (tSeq (tFor (iRng1 (tCons (tCB (rLenS K) (tCons (tVar 1) tNil)) tNil)) (gName 2) (tIfS (tOr (tNot (tB (tMeth A.C "has" (sp_has K A) [] E0 (tVar 0) (tCons (tOp (rIxL K) (tVar 1) (tVar 2)) tNil)))) (tTest (tOp (rIn K false) (tOp (rIxL K) (tVar 1) (tVar 2)) (tSl (rSlL K) (tVar 1) tNoPart (tPart (tVar 2)))))) (tRaiseE E A.eNoSide) tNext))
    (tRet (tCB (rSum K) (tCons (tLc (iList K (tFld K (tVar 0) "kept")) (gName 3) (tTest (tOp rNe (tOp (rIn K false) (tOp (rIxT K) (tVar 3) (tC (.int 0))) (tVar 1)) (tOp (rIn K false) (tOp (rIxT K) (tVar 3) (tC (.int 1))) (tVar 1)))) (tOp (rIxT K) (tVar 3) (tC (.int 2))) [3]) tNil)))))

def t_init (K : PySem.W.Frag) (A : Ads) (E : XK) : TS :=
  (tSeq (tIfS (tOr (tNot (tB (tCall (sp_is_whole K A) [] E0 (tCons (tVar 1) tNil)))) (tNot (tTest (tChain rLe rLe (tC (.int 1)) (tVar 1) (tC (.int 24)))))) (tRaiseE E A.eNoNet) tNext)
    (tSeq (tIfS (tOr (tNot (tB (tCB (rIsi K) (tCons (tVar 2) (tCons (tC (.ty "list")) tNil))))) (tTest (tOp rGt1 (tCB (rLenS K) (tCons (tVar 2) tNil)) (tC (.int 300))))) (tRaiseE E A.eNoNet) tNext)
    (tSeq (sFld K (tVar 0) (tVar 1) "many")
    (tSeq (sFld K (tVar 0) (tLst tNil) "kept")
    (tSeq (sFld K (tVar 0) tDNewT "summed")
    (tSeq (sFld K (tVar 0) (tLc (iRng1 (tCons (tVar 1) tNil)) (gName 5) tYes (tLst tNil) [5]) "near")
    (tFor (iList K (tVar 2)) (gName 3) (tSeq (tIfS (tOr (tNot (tB (tCB (rIsi K) (tCons (tVar 3) (tCons (tC (.ty "tuple")) tNil))))) (tOr (tTest (tOp rNe (tCB (rLenS K) (tCons (tVar 3) tNil)) (tC (.int 3)))) (tOr (tNot (tB (tMeth A.C "has" (sp_has K A) [] E0 (tVar 0) (tCons (tOp (rIxT K) (tVar 3) (tC (.int 0))) tNil)))) (tNot (tB (tMeth A.C "has" (sp_has K A) [] E0 (tVar 0) (tCons (tOp (rIxT K) (tVar 3) (tC (.int 1))) tNil))))))) (tRaiseE E A.eNoNet) tNext)
    (tSeq (tIfS (tOr (tTest (tOp rEq (tOp (rIxT K) (tVar 3) (tC (.int 0))) (tOp (rIxT K) (tVar 3) (tC (.int 1))))) (tOr (tNot (tB (tCall (sp_is_whole K A) [] E0 (tCons (tOp (rIxT K) (tVar 3) (tC (.int 2))) tNil)))) (tNot (tTest (tChain rLe rLe (tC (.int 1)) (tOp (rIxT K) (tVar 3) (tC (.int 2))) (tC (.int 1000000000))))))) (tRaiseE E A.eNoNet) tNext)
    (tSeq (tAsg (tTup (tCons (tCB rMin2 (tCons (tOp (rIxT K) (tVar 3) (tC (.int 0))) (tCons (tOp (rIxT K) (tVar 3) (tC (.int 1))) tNil))) (tCons (tCB rMax2 (tCons (tOp (rIxT K) (tVar 3) (tC (.int 0))) (tCons (tOp (rIxT K) (tVar 3) (tC (.int 1))) tNil))) tNil))) (gName 4))
    (tSeq (tDrop (tBM K "list" rAppend (tFld K (tVar 0) "kept") (tCons (tVar 3) tNil)))
    (tSeq (tIfS (tB (tDNotIn (tVar 4) (tFld K (tVar 0) "summed"))) (tSeq (tDrop (tBM K "list" rAppend (tOp (rIxL K) (tFld K (tVar 0) "near") (tOp (rIxT K) (tVar 4) (tC (.int 0)))) (tCons (tOp (rIxT K) (tVar 4) (tC (.int 1))) tNil)))
    (tDrop (tBM K "list" rAppend (tOp (rIxL K) (tFld K (tVar 0) "near") (tOp (rIxT K) (tVar 4) (tC (.int 1)))) (tCons (tOp (rIxT K) (tVar 4) (tC (.int 0))) tNil)))) tNext)
    (sDPut (tFld K (tVar 0) "summed") (tVar 4) (tOp rPlus (tMeth A.C "cost" (sp_cost K A) [] E0 (tVar 0) (tCons (tOp (rIxT K) (tVar 4) (tC (.int 0))) (tCons (tOp (rIxT K) (tVar 4) (tC (.int 1))) tNil))) (tOp (rIxT K) (tVar 3) (tC (.int 2)))))))))))))))))

/-! our tactics, under the words of the library's own syntax -/
local macro_rules | `(tactic| walk_at "ar") => `(tactic| first | assumption | omega | decide | (refine ⟨?_, ?_⟩ <;> omega) | exact .inl ⟨by omega, by omega⟩ | exact .inr ⟨by omega, by omega⟩)
local macro_rules | `(tactic| walk_at "hp") => `(tactic| first | assumption | exact upd_same | ((with_reducible apply Eq.trans (upd_ne (by first | assumption | exact Ne.symm (by assumption)))); walk_at "hp") | ((with_reducible apply Ex.get (by assumption)); walk_at "hp"))
local macro_rules | `(tactic| walk_at "lk") => `(tactic| first | with_reducible exact lk_many | with_reducible exact lk_kept | with_reducible exact lk_summed | with_reducible exact lk_near | ((with_reducible apply lk_no); decide +kernel) | assumption)
local macro_rules | `(tactic| walk_at "na") => `(tactic| first | with_reducible exact NetC.nM (by assumption) | with_reducible exact NetC.nK (by assumption) | with_reducible exact NetC.nS (by assumption) | with_reducible exact NetC.nN (by assumption))
local macro_rules | `(tactic| walk_at "sq") => `(tactic| first | assumption | with_reducible exact sq_of (by assumption) | with_reducible exact st_of (by assumption) | ((with_reducible apply sq_of); walk_at "hp") | ((with_reducible apply st_of); walk_at "hp"))
local macro_rules | `(tactic| walk_at "at") => `(tactic| first | rfl | assumption)
local macro_rules | `(tactic| walk_at "vt") => `(tactic| first | assumption | with_reducible exact vt_int | with_reducible exact vt_bl | with_reducible exact vt_str | with_reducible exact vt_non | with_reducible exact vt_lst (by walk_at "hp") | with_reducible exact vt_tup (by walk_at "hp"))
local macro_rules | `(tactic| walk_at "rv") => `(tactic| first
  | with_reducible exact rv_plus | with_reducible exact rv_minus | with_reducible exact rv_lt | with_reducible exact rv_le | with_reducible exact rv_gt | with_reducible exact rv_ge
  | with_reducible exact rv_eqI | with_reducible exact rv_neI | with_reducible exact rv_eqB | with_reducible exact rv_neB | with_reducible exact rv_eqS | with_reducible exact rv_neS
  | ((with_reducible apply rv_times); walk_at "ar") | ((with_reducible apply rv_fdiv); walk_at "ar") | ((with_reducible apply rv_mod); walk_at "ar")
  | ((with_reducible apply rv_ixT); walk_at "sq"; walk_at "at") | ((with_reducible apply rv_ixL); walk_at "sq"; walk_at "at"))
local macro_rules | `(tactic| walk_at "rc") => `(tactic| first
  | with_reducible exact rc_min2 | with_reducible exact rc_max2
  | ((with_reducible apply rc_isi); walk_at "vt"; first | assumption | with_reducible exact kitB_self _ | decide +kernel)
  | ((with_reducible apply rc_lenL); walk_at "sq") | ((with_reducible apply rc_lenT); walk_at "sq") | ((with_reducible apply rc_sum); walk_at "sq"))
local macro_rules | `(tactic| walk_at "rcl") => `(tactic| first
  | ((with_reducible apply rcl_sorted); walk_at "sq") | ((with_reducible apply rcl_list); first | exact .inl (by walk_at "sq") | exact .inr (by walk_at "sq")))
local macro_rules | `(tactic| walk_at "sp") => `(tactic| assumption)
local macro_rules | `(tactic| walk_at "ev") => `(tactic| first
  | ((with_reducible apply ev_var); rfl)
  | with_reducible exact ev_c
  | ((with_reducible apply ev_fld); walk_at "ev"; walk_at "hp"; exact NetC.cl (by assumption); walk_at "na"; walk_at "lk")
  | ((with_reducible apply ev_op); walk_at "ev"; walk_at "ev"; walk_at "rv")
  | ((with_reducible apply ev_chain); walk_at "ev"; walk_at "ev"; walk_at "rv"; (intro; walk_at "ev"); (intro; walk_at "rv"))
  | ((with_reducible apply ev_andV); walk_at "ev"; (intro; walk_at "ev"))
  | ((with_reducible apply ev_orV); walk_at "ev"; (intro; walk_at "ev"))
  | ((with_reducible apply ev_notV); walk_at "ev")
  | ((with_reducible apply ev_un); walk_at "ev"; with_reducible exact ru_neg)
  | ((with_reducible apply ev_call); walk_at "ev"; walk_at "sp")
  | ((with_reducible apply ev_meth); walk_at "ev"; walk_at "hp"; walk_at "lk"; walk_at "ev"; walk_at "sp")
  | ((with_reducible apply ev_get2); walk_at "ev"; walk_at "hp"; walk_at "ev"; walk_at "ev")
  | ((with_reducible apply ev_cb); walk_at "ev"; walk_at "rc")
  | with_reducible exact ea_nil
  | ((with_reducible apply ea_cons); walk_at "ev"; walk_at "ev")
  | ((with_reducible apply et_test); walk_at "ev")
  | ((with_reducible apply et_B); walk_at "ev")
  | ((with_reducible apply et_and); walk_at "ev"; (intro; walk_at "ev"))
  | ((with_reducible apply et_or); walk_at "ev"; (intro; walk_at "ev"))
  | ((with_reducible apply et_not); walk_at "ev")
  | ((with_reducible apply eu_tup); walk_at "ev"; (simp only [List.length]; decide))
  | ((with_reducible apply el_lst); walk_at "ev"; (simp only [List.length]; decide))
  | ((with_reducible apply el_cb); walk_at "ev"; walk_at "rcl")
  | ((with_reducible apply el_meth); walk_at "ev"; walk_at "hp"; walk_at "lk"; walk_at "ev"; walk_at "sp")
  | ((with_reducible apply el_call); walk_at "ev"; walk_at "sp")
  | with_reducible exact eo_none
  | ((with_reducible apply eo_some); walk_at "ev")
  | ((with_reducible apply el_sl); walk_at "ev"; walk_at "ev"; walk_at "ev"; walk_at "sq"))

section
variable {K : PySem.W.Frag} {A : Ads}
abbrev toEnds (Q : VK) : Ends := { nx := fun _ H' => Q .non H', rt := Q }
theorem pure_is_whole (nc : NetC K A) (vs : List V) (H : Hp) (Q : VK) (E : XK) (h : sp_is_whole K A vs H Q E) : t_is_whole K A { nx := fun _ H' => Q .non H', rt := Q } (start ["thing"] vs) H := by
  obtain ⟨v, rfl, ⟨ty, b1, b2, hv, h1, h2, h3⟩, k⟩ := h
  unfold t_is_whole
  refine s_ret (v := .bl (b1 && !b2)) (by walk_at "ev") fun H1 e1 => ?_
  rw [h3]
  exact k H1 e1
theorem pure_has (nc : NetC K A) (vs : List V) (H : Hp) (Q : VK) (E : XK) (h : sp_has K A vs H Q E) : t_has K A { nx := fun _ H' => Q .non H', rt := Q } (start ["self", "place"] vs) H := by
  obtain ⟨p, m, kl, sd, nl, v, rfl, ⟨dx, ho⟩, hv, k⟩ := h
  unfold t_has
  have h1 : SpV (sp_is_whole K A) [v] H (.bl (isI v)) := spv_is_whole hv
  cases v with
  | int i =>
    refine s_ret (by walk_at "ev") fun H1 e1 => ?_
    exact k H1 e1
  | _ =>
    refine s_ret (v := .bl (false && false)) (ev_andV (by walk_at "ev") (fun q => nomatch q)) fun H1 e1 => ?_
    exact k H1 e1
end

section
variable {K : PySem.W.Frag} {A : Ads}
theorem pure_need (nc : NetC K A) (vs : List V) (H : Hp) (Q : VK) (E : XK) (h : sp_need K A vs H Q E) : t_need K A E { nx := fun _ H' => Q .non H', rt := Q } (start ["self", "place"] vs) H := by
  obtain ⟨p, m, kl, sd, nl, v, rfl, ho, hv, k1, k2⟩ := h
  have h1 := spv_has (K := K) ho hv
  obtain ⟨dx, ho⟩ := ho
  unfold t_need
  refine s_if (b := !isPl m v) (by walk_at "ev") (fun hb H1 e1 => ?_) (fun hb H1 e1 => ?_)
  · exact k2 (by simpa using hb) H1 e1
  · exact k1 (by simpa using hb) H1 e1
theorem pure_cost (nc : NetC K A) (vs : List V) (H : Hp) (Q : VK) (E : XK) (h : sp_cost K A vs H Q E) : t_cost K A { nx := fun _ H' => Q .non H', rt := Q } (start ["self", "one", "other"] vs) H := by
  obtain ⟨p, m, kl, sd, nl, kvs, i, j, rfl, ⟨dx, ho⟩, hd, k⟩ := h
  unfold t_cost
  refine s_ret (v := (valV kvs (keyT i j)).getD (.int 0)) ?_ k
  refine ev_get2 (by walk_at "ev") hd ?_ ev_c
  show EvU _ _ _ [V.int (min i j), V.int (max i j)]
  walk_at "ev"
theorem isPl_int {m : Int} {v : V} (h : isPl m v = true) : ∃ i : Int, v = .int i ∧ 0 ≤ i ∧ i < m := by
  cases v <;> simp [isPl] at h ⊢
  exact h
theorem isPl_nat {m : Nat} {v : V} (h : isPl (m : Int) v = true) : ∃ i : Nat, v = vi i ∧ i < m := by
  obtain ⟨i, rfl, h0, h1⟩ := isPl_int h
  exact ⟨i.toNat, by unfold vi; congr 1; omega, by omega⟩
theorem isPl_vi {m i : Nat} (h : i < m) : isPl (m : Int) (vi i) = true := by
  simp [isPl, vi, h]
theorem pure_need_two (nc : NetC K A) (vs : List V) (H : Hp) (Q : VK) (E : XK) (h : sp_need_two K A vs H Q E) : t_need_two K A E { nx := fun _ H' => Q .non H', rt := Q } (start ["self", "one", "other"] vs) H := by
  obtain ⟨p, m, kl, sd, nl, v, u, rfl, ho, hv, hu, k1, k2⟩ := h
  obtain ⟨dx, ho⟩ := id ho
  have ho1 : ObjAt A H p m kl sd nl := ⟨dx, ho⟩
  unfold t_need_two
  refine q_drop0 (c_meth (by walk_at "ev") ho (by walk_at "lk") (by walk_at "ev") fun H1 e1 => ⟨p, m, kl, sd, nl, v, rfl, ho1.mono e1, hv.mono e1, fun b1 H2 e2 => ?_, fun b1 H2 e2 => ?_⟩)
  · have ho2 := ho1.mono (e1.trans e2)
    have hu2 := hu.mono (e1.trans e2)
    have ho' := (e1.trans e2) _ _ ho
    refine q_drop0 (c_meth (by walk_at "ev") ho' (by walk_at "lk") (by walk_at "ev") fun H3 e3 => ⟨p, m, kl, sd, nl, u, rfl, ho2.mono e3, hu2.mono e3, fun b2 H4 e4 => ?_, fun b2 H4 e4 => ?_⟩)
    · obtain ⟨i, rfl, _⟩ := isPl_int b1
      obtain ⟨j, rfl, _⟩ := isPl_int b2
      refine s_if (by walk_at "ev") (fun hb H5 e5 => ?_) (fun hb H5 e5 => ?_)
      · refine k2 ?_ _ ((((e1.trans e2).trans e3).trans e4).trans e5)
        have hb : i = j := of_decide_eq_true hb
        subst hb
        simp [isTwo]
      · refine k1 ?_ _ ((((e1.trans e2).trans e3).trans e4).trans e5)
        have hb : ¬ i = j := of_decide_eq_false hb
        unfold isTwo
        rw [b1, b2, deq_int, decide_eq_false hb]
        rfl
    · exact k2 (by simp [isTwo, b2]) _ (((e1.trans e2).trans e3).trans e4)
  · exact k2 (by simp [isTwo, b1]) _ (e1.trans e2)
theorem joins_comm (i j : Nat) : joins i j = joins j i := by
  funext t
  unfold joins
  rw [Bool.or_comm]
theorem costOf_comm (ts : List Tie) (i j : Nat) : costOf ts i j = costOf ts j i := by
  unfold costOf
  rw [joins_comm]
/-- what the dict tells of two places -/
theorem SumOk.get {kvs : List (List Key × V)} {ts : List Tie} (h : SumOk kvs ts) {i j : Nat} (hij : i ≠ j) : (valV kvs (keyT (i : Int) (j : Int))).getD (.int 0) = .int (costOf ts i j) := by
  have key : ∀ i j : Nat, i < j → (valV kvs (keyN i j)).getD (.int 0) = .int (costOf ts i j) := fun i j hij => by
    rw [h.val i j hij]
    by_cases ha : ts.any (joins i j) = true
    · rw [if_pos ha]; rfl
    · rw [if_neg ha]
      have : ts.filter (joins i j) = [] := by
        rw [List.filter_eq_nil_iff]
        intro t ht hj
        exact ha (List.any_eq_true.mpr ⟨t, ht, hj⟩)
      unfold costOf
      rw [this]; rfl
  by_cases hlt : i < j
  · have e : keyT (i : Int) (j : Int) = keyN i j := by
      unfold keyT keyN
      rw [Int.min_eq_left (by omega), Int.max_eq_right (by omega)]
    rw [e]; exact key i j hlt
  · have e : keyT (i : Int) (j : Int) = keyN j i := by
      unfold keyT keyN
      rw [Int.min_eq_right (by omega), Int.max_eq_left (by omega)]
    rw [e, costOf_comm]; exact key j i (by omega)
theorem pure_ties (nc : NetC K A) (vs : List V) (H : Hp) (Q : VK) (E : XK) (h : sp_ties K A vs H Q E) : t_ties K A { nx := fun _ H' => Q .non H', rt := Q } (start ["self"] vs) H := by
  obtain ⟨p, n, s, rfl, N, k⟩ := h
  have ho := N.ob
  have hk := N.hk
  unfold t_ties
  exact s_retL (by walk_at "ev") k
theorem pure_between (nc : NetC K A) (vs : List V) (H : Hp) (Q : VK) (E : XK) (h : sp_between K A vs H Q E) : t_between K A E { nx := fun _ H' => Q .non H', rt := Q } (start ["self", "one", "other"] vs) H := by
  obtain ⟨p, n, s, v, u, rfl, N, hv, hu, k1, k2⟩ := h
  have ho := N.ob
  unfold t_between
  refine q_drop0 (c_meth (by walk_at "ev") ho (by walk_at "lk") (by walk_at "ev") fun H1 e1 => ⟨p, _, _, _, _, v, u, rfl, N.obj.mono e1, hv.mono e1, hu.mono e1, fun b H2 e2 => ?_, fun b H2 e2 => k2 b _ (e1.trans e2)⟩)
  have N2 := N.mono (e1.trans e2)
  unfold isTwo at b
  simp only [Bool.and_eq_true, Bool.not_eq_true', decide_eq_false_iff_not] at b
  obtain ⟨⟨b1, b2⟩, b3⟩ := b
  obtain ⟨i, rfl, hi⟩ := isPl_nat b1
  obtain ⟨j, rfl, hj⟩ := isPl_nat b2
  have hij : i ≠ j := fun q => b3 (by rw [q])
  have hc := spv_cost (K := K) (i := (i : Int)) (j := (j : Int)) N2.obj N2.hs
  rw [N2.so.get hij] at hc
  have ho2 := N2.ob
  refine s_ret (v := .int (costOf n.ties i j)) ?_ fun H3 e3 => k1 i j rfl rfl hi hj hij _ ((e1.trans e2).trans e3)
  exact ev_meth (by walk_at "ev") ho2 (by walk_at "lk") (vs := [.int (i : Int), .int (j : Int)]) (by walk_at "ev") hc
theorem pure_beside (nc : NetC K A) (vs : List V) (H : Hp) (Q : VK) (E : XK) (h : sp_beside K A vs H Q E) : t_beside K A E { nx := fun _ H' => Q .non H', rt := Q } (start ["self", "place"] vs) H := by
  obtain ⟨p, n, s, v, rfl, N, hv, k1, k2⟩ := h
  have ho := N.ob
  unfold t_beside
  refine q_drop0 (c_meth (by walk_at "ev") ho (by walk_at "lk") (by walk_at "ev") fun H1 e1 => ⟨p, _, _, _, _, v, rfl, N.obj.mono e1, hv.mono e1, fun b H2 e2 => ?_, fun b H2 e2 => k2 b _ (e1.trans e2)⟩)
  have N2 := N.mono (e1.trans e2)
  obtain ⟨i, rfl, hi⟩ := isPl_nat b
  have ho2 := N2.ob
  have hn2 := N2.hn
  have hlen := N2.na.len
  obtain ⟨a, ha⟩ : ∃ a, s.ns[i]? = some a := ⟨s.ns[i]'(by omega), List.getElem?_eq_getElem _⟩
  have hl := N2.na.at_ i a ha
  have hat : atI (s.ns.map V.ref) (i : Int) = some (.ref a) := atI_nat (by rw [List.getElem?_map, ha]; rfl)
  have e0 : (nearOf n.ties i).map vi = (List.map (fun j : Nat => (j : Int)) (nearOf n.ties i)).map V.int := by
    rw [List.map_map]; rfl
  rw [e0] at hl
  refine s_retL ?_ fun q H3 hq e3 h3 => k1 i rfl hi q H3 (fresh_back (e1.trans e2) hq) ((e1.trans e2).trans e3) h3
  refine el_cb (vs := [.ref a]) ?_ (rcl_sorted (sq_of hl))
  refine ea_cons (ev_op (x := .ref s.nl) (y := .int (i : Int)) (by walk_at "ev") (by walk_at "ev") (rv_ixL (sq_of hn2) hat)) ea_nil
end

section
variable {K : PySem.W.Frag} {A : Ads}
theorem flat_vi (l : List Nat) : (l.map vi).all flatV = true := by
  rw [List.all_map]
  exact List.all_eq_true.mpr fun x _ => rfl
theorem eqV_vi (i j : Nat) : eqV (vi i) (vi j) = decide (i = j) := by
  show decide ((i : Int) = (j : Int)) = decide (i = j)
  by_cases h : i = j
  · subst h; simp
  · rw [decide_eq_false h, decide_eq_false (by omega)]
theorem inV_vi (i : Nat) (l : List Nat) : inV (vi i) (l.map vi) = decide (i ∈ l) := by
  unfold inV
  rw [List.any_map]
  by_cases h : i ∈ l
  · rw [decide_eq_true h]
    exact List.any_eq_true.mpr ⟨i, h, by show eqV (vi i) (vi i) = true; rw [eqV_vi]; simp⟩
  · rw [decide_eq_false h]
    rw [Bool.eq_false_iff]
    intro q
    obtain ⟨x, hx, e⟩ := List.any_eq_true.mp q
    have e : eqV (vi x) (vi i) = true := e
    rw [eqV_vi] at e
    exact h (of_decide_eq_true e ▸ hx)
theorem cutV_take (xs : List V) (i : Nat) : cutV xs none (some (i : Int)) = xs.take i := by
  unfold cutV
  rw [HT.sIx_none, HT.sIx_nat]
  simp
theorem GoodSide.take {m : Nat} {xs : List V} (h : GoodSide m xs) (i : Nat) : GoodSide m (xs.take i) := by
  obtain ⟨side, rfl, nd, hl⟩ := h
  exact ⟨side.take i, by rw [List.map_take], nd.sublist (List.take_sublist i side), fun j hj => hl j (List.mem_of_mem_take hj)⟩
theorem take_succ_of {α : Type} {xs : List α} {i : Nat} {x : α} (h : xs[i]? = some x) : xs.take (i + 1) = xs.take i ++ [x] := by
  rw [List.take_add_one, h]; rfl
theorem GoodSide.more {m : Nat} {xs : List V} {i j : Nat} (h : GoodSide m (xs.take i)) (hx : xs[i]? = some (vi j)) (hj : j < m) (hn : inV (vi j) (xs.take i) = false) : GoodSide m (xs.take (i + 1)) := by
  obtain ⟨side, e, nd, hl⟩ := h
  rw [e, inV_vi] at hn
  have hn : j ∉ side := of_decide_eq_false hn
  refine ⟨side ++ [j], by rw [take_succ_of hx, e]; simp, ?_, fun k hk => ?_⟩
  · rw [List.nodup_append]
    exact ⟨nd, by simp, fun a ha b hb q => hn (by rw [List.mem_singleton] at hb; rw [← hb, ← q]; exact ha)⟩
  · rcases List.mem_append.mp hk with q | q
    · exact hl k q
    · rw [List.mem_singleton] at q
      rw [q]; exact hj
theorem GoodSide.no_place {m : Nat} {xs : List V} {i : Nat} {x : V} (hx : xs[i]? = some x) (h : isPl (m : Int) x = false) : ¬ GoodSide m xs := by
  rintro ⟨side, rfl, nd, hl⟩
  rw [List.getElem?_map] at hx
  cases e : side[i]? with
  | none => rw [e] at hx; cases hx
  | some k =>
    rw [e] at hx
    have e2 : vi k = x := Option.some.inj hx
    rw [← e2, isPl_vi (hl k (List.mem_of_getElem? e))] at h
    cases h
theorem GoodSide.no_twice {m : Nat} {xs : List V} {i j : Nat} (hx : xs[i]? = some (vi j)) (g : GoodSide m (xs.take i)) (h : inV (vi j) (xs.take i) = true) : ¬ GoodSide m xs := by
  rintro ⟨side, rfl, nd, hl⟩
  rw [← List.map_take, inV_vi] at h
  have h : j ∈ side.take i := of_decide_eq_true h
  rw [List.getElem?_map] at hx
  cases e : side[i]? with
  | none => rw [e] at hx; cases hx
  | some k =>
    rw [e] at hx
    have e2 : k = j := vi_inj (Option.some.inj hx)
    subst e2
    obtain ⟨q, hq⟩ := List.getElem?_of_mem h
    have hqi : q < i := by
      have := (List.getElem?_eq_some_iff.mp hq).1
      rw [List.length_take] at this
      omega
    rw [List.getElem?_take_of_lt hqi] at hq
    exact absurd (nd_ix nd hq e) (by omega)
end
section
variable {K : PySem.W.Frag} {A : Ads}
theorem GoodSide.nil {m : Nat} : GoodSide m [] := ⟨[], rfl, List.nodup_nil, fun _ h => nomatch h⟩
theorem pure_price (nc : NetC K A) (vs : List V) (H : Hp) (Q : VK) (E : XK) (h : sp_price K A vs H Q E) : t_price K A E { nx := fun _ H' => Q .non H', rt := Q } (start ["self", "side", "at", "tie"] vs) H := by
  obtain ⟨p, n, s, v, rfl, N, h⟩ := h
  unfold t_price
  rcases h with ⟨l, xs, rfl, hl, hz, hk, k1, k2⟩ | ⟨ty, hv, hb, k⟩
  · refine q_skip (et_not (a := true) (by walk_at "ev")) fun H1 e1 => ?_
    have hl1 := e1 _ _ hl
    refine q_forR1 (n := (xs.length : Int)) (by walk_at "ev") (by omega) (fun i σ H' => ∃ w, σ = [some (.ref p), some (.ref l), w, none] ∧ Ex H H' ∧ GoodSide n.many (xs.take i)) (fun H2 e2 => ⟨none, rfl, e1.trans e2, by rw [List.take_zero]; exact GoodSide.nil⟩) ?_ ?_
    · rintro i σ H' hi ⟨w, rfl, e, g⟩
      have hi : i < xs.length := by omega
      have hx : xs[i]? = some xs[i] := List.getElem?_eq_getElem hi
      generalize xs[i] = x at hx
      have hkx := (hk x (List.mem_of_getElem? hx)).mono e
      have N' := N.mono e
      have ho := N'.ob
      have hl' := e _ _ hl
      have hat : atI xs (i : Int) = some x := atI_nat hx
      have hh := spv_has (K := K) N'.obj hkx
      have et : EvT (tNot (tB (tMeth A.C "has" (sp_has K A) [] E0 (tVar 0) (tCons (tOp (rIxL K) (tVar 1) (tVar 2)) tNil)))) [some (.ref p), some (.ref l), some (.int (i : Int)), none] H' (!isPl (n.many : Int) x) := by
        walk_at "ev"
      show tIfS _ _ _ _ [some (.ref p), some (.ref l), some (.int (i : Int)), none] H'
      cases b : isPl (n.many : Int) x with
      | false =>
        rw [b] at et
        refine s_yes (et_or et (b := false) (fun q => nomatch q)) fun H2 e2 => ?_
        exact k2 (GoodSide.no_place hx b) _ (e.trans e2)
      | true =>
        obtain ⟨j, rfl, hj⟩ := isPl_nat b
        rw [b] at et
        obtain ⟨side, es, nd, hsl⟩ := id g
        have ein : EvT (tTest (tOp (rIn K false) (tOp (rIxL K) (tVar 1) (tVar 2)) (tSl (rSlL K) (tVar 1) tNoPart (tPart (tVar 2))))) [some (.ref p), some (.ref l), some (.int (i : Int)), none] H' (inV (vi j) (xs.take i)) := by
          refine et_test (ev_opL (x := vi j) (xs := xs.take i) (by walk_at "ev") ?_ fun q H3 h3 e3 => rv_isL (sq_of h3) rfl (by rw [es]; exact flat_vi _))
          rw [← cutV_take]
          walk_at "ev"
        refine s_if (et_or et fun _ => ein) (fun hb H2 e2 => ?_) (fun hb H2 e2 => ?_)
        · exact k2 (GoodSide.no_twice hx g (by simpa using hb)) _ (e.trans e2)
        · exact ⟨some (.int (i : Int)), rfl, e.trans e2, g.more hx hj (by simpa using hb)⟩
    · rintro σ H' ⟨w, rfl, e, g⟩
      rw [show (xs.length : Int).toNat = xs.length from by omega, List.take_length] at g
      obtain ⟨side, rfl, nd, hsl⟩ := g
      have N' := N.mono e
      have ho := N'.ob
      have hl' := e _ _ hl
      refine s_ret (v := .int (priceOf n.ties side)) ?_ fun H2 e2 => k1 side rfl nd hsl _ (e.trans e2)
      have hlen : (s.as.map V.ref).length = n.ties.length := by rw [List.length_map]; exact Paired.length N'.ta
      refine ev_cbL (xs := ((n.ties.filter fun t => decide (t.1 ∈ side) != decide (t.2.1 ∈ side)).map (·.2.2)).map V.int) ?_ fun q H2 h2 e2 => rc_sum (sq_of h2)
      rw [List.map_map]
      refine el_lcF (α := Tie) n.ties _ _ (a := s.kl) (by walk_at "ev") (sq_of N'.hk) (by rw [hlen]; have := n.ties; have := N'.ok.few; omega) hlen (fun _ => rfl) ?_ ?_
      · intro i x t H2 e2 hx ht
        rw [List.getElem?_map] at hx
        cases ea : s.as[i]? with
        | none => rw [ea] at hx; cases hx
        | some a =>
          rw [ea] at hx
          have ex : V.ref a = x := Option.some.inj hx
          subst ex
          have hta := (N'.ta.mono e2)
          have hta := paired_get hta ea ht
          have hl2 := e2 _ _ hl'
          show EvT _ [some (.ref p), some (.ref l), w, some (.ref a)] H2 _
          refine et_test (ev_is (v := .bl (!decide (decide (t.1 ∈ side) = decide (t.2.1 ∈ side)))) ?_ (by congr 1))
          refine ev_op (x := .bl (decide (t.1 ∈ side))) (y := .bl (decide (t.2.1 ∈ side))) ?_ ?_ rv_neB
          · rw [← inV_vi]
            exact ev_op (x := vi t.1) (y := .ref l) (ev_op (x := .ref a) (y := .int 0) (by walk_at "ev") ev_c (rv_ixT (st_of hta) rfl)) (by walk_at "ev") (rv_isL (sq_of hl2) rfl (flat_vi _))
          · rw [← inV_vi]
            exact ev_op (x := vi t.2.1) (y := .ref l) (ev_op (x := .ref a) (y := .int 1) (by walk_at "ev") ev_c (rv_ixT (st_of hta) rfl)) (by walk_at "ev") (rv_isL (sq_of hl2) rfl (flat_vi _))
      · intro i x t H2 e2 hx ht _
        rw [List.getElem?_map] at hx
        cases ea : s.as[i]? with
        | none => rw [ea] at hx; cases hx
        | some a =>
          rw [ea] at hx
          have ex : V.ref a = x := Option.some.inj hx
          subst ex
          have hta := (N'.ta.mono e2)
          have hta := paired_get hta ea ht
          exact ev_op (x := .ref a) (y := .int 2) (ev_var rfl) ev_c (rv_ixT (st_of hta) rfl)
  · refine q_yes (et_not (a := false) (by walk_at "ev")) fun H1 e1 => k H1 e1
end

section
variable {K : PySem.W.Frag} {A : Ads}
theorem ty_go {σ : L2.St} {H : Hp} {Q : Bool → Hp → Prop} (h : Q true H) : tYes σ H Q := h
theorem c_news {σ : L2.St} {H : Hp} {Q : VK} {j m : Nat} {ta : TA} (hm : EvA ta σ H [.int (m : Int)]) (hz : m ≤ 1000) (hw : ∀ x, wipe ((wipe σ [j]).set j (some x)) [j] = wipe σ [j])
    (k : ∀ (D : Addr) (ns : List Addr) (H' : Hp), H D = none → Ex H H' → H' D = some (.lst (ns.map V.ref)) → ns.length = m → ns.Nodup → D ∉ ns → (∀ a ∈ ns, H a = none ∧ H' a = some (.lst [])) → Q (.ref D) H') : tLc (iRng1 ta) (gName j) tYes (tLst tNil) [j] σ H Q := by
  refine hm H (Ex.refl H) _ fun H1 e1 => ⟨(m : Int), rfl, by omega, by omega, fun D hD => ?_⟩
  refine lc_range (lo := 0) (n := (m : Int).toNat) (fun i H' => ∃ ns : List Addr, Ex H1 H' ∧ H' D = some (.lst (ns.map V.ref)) ∧ ns.length = i ∧ ns.Nodup ∧ D ∉ ns ∧ ∀ a ∈ ns, H1 a = none ∧ H' a = some (.lst [])) ⟨[], Ex.new hD, upd_same, rfl, List.nodup_nil, by simp, fun a h => nomatch h⟩ ?_ ?_
  · rintro i H' hi ⟨ns, e, hd, hl, nd, hn, ha⟩
    refine ⟨hw _, ?_⟩
    refine ty_go ?_
    rw [if_pos rfl]
    refine ⟨Nat.zero_le _, fun a fa => ?_⟩
    have hDa : D ≠ a := ne_of_none hd fa
    have han : a ∉ ns := fun q => by
      have := (ha a q).2
      rw [fa] at this; cases this
    refine ⟨ns.map V.ref, by rw [upd_ne hDa]; exact hd, ?_, ns ++ [a], ?_, ?_, ?_, ?_, ?_, ?_⟩
    · rw [List.length_map]; exact sz_lt (by omega)
    · exact Ex.mut (Ex.trans e (Ex.new fa)) hD
    · rw [upd_same]; simp
    · simp [hl]
    · rw [List.nodup_append]
      exact ⟨nd, by simp, fun x hx y hy q => han (by rw [List.mem_singleton] at hy; rw [← hy, ← q]; exact hx)⟩
    · rw [List.mem_append, not_or]
      exact ⟨hn, by simp [hDa]⟩
    · intro b hb
      rcases List.mem_append.mp hb with q | q
      · have hbD : b ≠ D := fun z => hn (by rw [← z]; exact q)
        have hba : b ≠ a := fun z => han (by rw [← z]; exact q)
        rw [upd_ne hbD, upd_ne hba]
        exact ha b q
      · rw [List.mem_singleton] at q
        subst q
        rw [upd_ne hDa.symm, upd_same]
        exact ⟨fresh_back e fa, rfl⟩
  · rintro H' ⟨ns, e, hd, hl, nd, hn, ha⟩
    exact k D ns H' (fresh_back e1 hD) (e1.trans e) hd (by omega) nd hn fun a q => ⟨fresh_back e1 (ha a q).1, (ha a q).2⟩
end

section
variable {K : PySem.W.Frag} {A : Ads}
theorem GoodTies.at_ {H : Hp} {m : Nat} {xs : List V} {i : Nat} {x : V} (g : GoodTies H m xs) (hx : xs[i]? = some x) : ∃ a t, x = .ref a ∧ H a = some (.tup (tieV t)) ∧ okTie m t := by
  obtain ⟨as, ts, rfl, ta, _, ok⟩ := g
  rw [List.getElem?_map] at hx
  cases ea : as[i]? with
  | none => rw [ea] at hx; cases hx
  | some a =>
    rw [ea] at hx
    have hl : as.length = ts.length := Paired.length ta
    have hi := (List.getElem?_eq_some_iff.mp ea).1
    have et : ts[i]? = some (ts[i]'(by omega)) := List.getElem?_eq_getElem _
    exact ⟨a, _, (Option.some.inj hx).symm, paired_get (R := fun a t => H a = some (.tup (tieV t))) ta ea et, ok _ (List.mem_of_getElem? et)⟩
theorem put_past {f g : Str} {v x : V} {r : List (Str × V)} (h : ¬ g = f) : putF f v ((g, x) :: r) = (g, x) :: putF f v r := if_neg h
theorem paired_snoc {α β : Type} {R : α → β → Prop} : ∀ {as : List α} {bs : List β} {a : α} {b : β}, Paired R as bs → R a b → Paired R (as ++ [a]) (bs ++ [b])
  | _, _, _, _, .nil, h => .cons h .nil
  | _, _, _, _, .cons r t, h => .cons r (paired_snoc t h)
theorem SumOk.nil : SumOk [] [] := ⟨fun i j _ => rfl, Nat.le_refl _⟩
theorem putK_len_le {κ : Type} [DecidableEq κ] (kvs : List (κ × V)) (k : κ) (v : V) : (putK kvs k v).length ≤ kvs.length + 1 := by
  unfold putK
  split
  · rw [List.length_map]; omega
  · simp
theorem any_append (ts : List Tie) (t : Tie) (i j : Nat) : (ts ++ [t]).any (joins i j) = (ts.any (joins i j) || joins i j t) := by
  rw [List.any_append]; simp
theorem joins_self {i j : Nat} {t : Tie} (h1 : t.1 = i) (h2 : t.2.1 = j) : joins i j t = true := by simp [joins, h1, h2]
/-- one tie more -/
theorem SumOk.more {kvs : List (List Key × V)} {ts : List Tie} {t : Tie} (h : SumOk kvs ts) (ht : t.1 ≠ t.2.1) : SumOk (putK kvs (keyN (min t.1 t.2.1) (max t.1 t.2.1)) (.int (costOf ts (min t.1 t.2.1) (max t.1 t.2.1) + t.2.2))) (ts ++ [t]) := by
  refine ⟨fun i j hij => ?_, ?_⟩
  · rw [valV_put, costOf_append, any_append]
    by_cases e : i = min t.1 t.2.1 ∧ j = max t.1 t.2.1
    · obtain ⟨rfl, rfl⟩ := e
      have hj : joins (min t.1 t.2.1) (max t.1 t.2.1) t = true := by
        by_cases q : t.1 < t.2.1
        · exact joins_self (by omega) (by omega)
        · rw [joins_comm]; exact joins_self (by omega) (by omega)
      rw [if_pos rfl, hj, Bool.or_true, if_pos rfl, if_pos rfl]
    · have ne : ¬ keyN (min t.1 t.2.1) (max t.1 t.2.1) = keyN i j := by
        intro q
        unfold keyN at q
        simp only [List.cons.injEq, Sum.inl.injEq, and_true] at q
        exact e ⟨by omega, by omega⟩
      have ne' : ¬ keyN i j = keyN (min t.1 t.2.1) (max t.1 t.2.1) := fun q => ne q.symm
      have hj : joins i j t = false := by
        rw [Bool.eq_false_iff]
        intro q
        simp only [joins, Bool.or_eq_true, Bool.and_eq_true, decide_eq_true_eq] at q
        exact e (by omega)
      rw [hj, Bool.or_false, h.val i j hij]
      first | rw [if_neg ne] | rw [if_neg ne']
      simp
  · have := putK_len_le kvs (keyN (min t.1 t.2.1) (max t.1 t.2.1)) (.int (costOf ts (min t.1 t.2.1) (max t.1 t.2.1) + t.2.2))
    have := h.len
    rw [List.length_append, List.length_singleton]
    omega
end

section
theorem near_len (ts : List Tie) (i : Nat) : (nearOf ts i).length ≤ ts.length := by
  have key : ∀ (ts : List Tie) (acc : List Nat), (ts.foldl (fun l t => addNew l (over i t)) acc).length ≤ acc.length + ts.length := by
    intro ts
    induction ts with
    | nil => intro acc; simp
    | cons t r ih =>
      intro acc
      rw [List.foldl_cons]
      have h1 := ih (addNew acc (over i t))
      have h2 : ∀ o : Option Nat, (addNew acc o).length ≤ acc.length + 1 := fun o => by
        cases o with
        | none => exact Nat.le_succ _
        | some k =>
          show (if k ∈ acc then acc else acc ++ [k]).length ≤ _
          by_cases hk : k ∈ acc
          · rw [if_pos hk]; exact Nat.le_succ _
          · rw [if_neg hk, List.length_append]; exact Nat.le_refl _
      have h2 := h2 (over i t)
      rw [List.length_cons]
      omega
  have := key ts []
  rw [List.length_nil, Nat.zero_add] at this
  exact this
/-- the places of a tie, the smaller one first -/
theorem sortTie (i j : Nat) (h : i ≠ j) : ∃ lo hi : Nat, min (i : Int) (j : Int) = (lo : Int) ∧ max (i : Int) (j : Int) = (hi : Int) ∧ lo < hi ∧ min i j = lo ∧ max i j = hi ∧ ((lo = i ∧ hi = j) ∨ (lo = j ∧ hi = i)) := by
  by_cases q : i < j
  · exact ⟨i, j, by omega, by omega, q, by omega, by omega, .inl ⟨rfl, rfl⟩⟩
  · exact ⟨j, i, by omega, by omega, by omega, by omega, by omega, .inr ⟨rfl, rfl⟩⟩
theorem near_more {ts : List Tie} {t : Tie} {lo hi : Nat} (hlt : lo < hi) (hc : (lo = t.1 ∧ hi = t.2.1) ∨ (lo = t.2.1 ∧ hi = t.1)) (hall : ∀ t ∈ ts, t.1 ≠ t.2.1) :
    (fun j => (nearOf (ts ++ [t]) j).map vi) = if ts.any (joins lo hi) then (fun j => (nearOf ts j).map vi) else fun i => if i = hi then (if hi = lo then (nearOf ts lo).map vi ++ [vi hi] else (nearOf ts hi).map vi) ++ [vi lo] else if i = lo then (nearOf ts lo).map vi ++ [vi hi] else (nearOf ts i).map vi := by
  have o1 : over lo t = some hi := by
    unfold over
    rcases hc with ⟨h1, h2⟩ | ⟨h1, h2⟩
    · rw [if_pos h1.symm, h2]
    · rw [if_neg (by omega), if_pos h1.symm, h2]
  have o2 : over hi t = some lo := by
    unfold over
    rcases hc with ⟨h1, h2⟩ | ⟨h1, h2⟩
    · rw [if_neg (by omega), if_pos h2.symm, h1]
    · rw [if_pos h2.symm, h1]
  have o3 : ∀ i, i ≠ lo → i ≠ hi → over i t = none := fun i h1 h2 => by
    unfold over
    rw [if_neg (by omega), if_neg (by omega)]
  have m1 : hi ∈ nearOf ts lo ↔ ts.any (joins lo hi) = true := by
    rw [mem_nearOf ts lo hi hall, List.any_eq_true]
    constructor
    · rintro ⟨u, hu, h⟩; exact ⟨u, hu, (over_joins (by omega) (hall u hu)).mp h⟩
    · rintro ⟨u, hu, h⟩; exact ⟨u, hu, (over_joins (by omega) (hall u hu)).mpr h⟩
  have m2 : lo ∈ nearOf ts hi ↔ ts.any (joins lo hi) = true := by
    rw [mem_nearOf ts hi lo hall, List.any_eq_true, joins_comm]
    constructor
    · rintro ⟨u, hu, h⟩; exact ⟨u, hu, (over_joins (by omega) (hall u hu)).mp h⟩
    · rintro ⟨u, hu, h⟩; exact ⟨u, hu, (over_joins (by omega) (hall u hu)).mpr h⟩
  by_cases ha : ts.any (joins lo hi) = true
  · rw [if_pos ha]
    funext i
    rw [nearOf_append]
    by_cases e1 : i = lo
    · rw [e1, o1]; simp only [addNew, if_pos (m1.mpr ha)]
    · by_cases e2 : i = hi
      · rw [e2, o2]; simp only [addNew, if_pos (m2.mpr ha)]
      · rw [o3 i e1 e2]; rfl
  · rw [if_neg ha]
    funext i
    rw [nearOf_append]
    by_cases e2 : i = hi
    · rw [if_pos e2, if_neg (by omega), e2, o2]
      simp only [addNew, if_neg (fun q => ha (m2.mp q)), List.map_append, List.map_cons, List.map_nil]
    · rw [if_neg e2]
      by_cases e1 : i = lo
      · rw [if_pos e1, e1, o1]
        simp only [addNew, if_neg (fun q => ha (m1.mp q)), List.map_append, List.map_cons, List.map_nil]
      · rw [if_neg e1, o3 i e1 e2]; rfl
end

section
variable {K : PySem.W.Frag} {A : Ads}
theorem init_core (nc : NetC K A) {H0 H : Hp} {p dx l : Addr} {m : Nat} {xs : List V} {Q : VK} {E : XK} (e0 : Ex H0 H) (p0 : H0 p = none) (hp : H p = some (.ins A.C dx [])) (m1 : 1 ≤ m) (m2 : m ≤ 24) (hl : H0 l = some (.lst xs)) (hz : xs.length ≤ 1000) (hx : ∀ x ∈ xs, TieK K H0 x)
    (kg : ∀ as ts, xs = as.map V.ref → TiesAt H0 as ts → Net.Ok ⟨m, ts⟩ → ∀ H' s, Ex H0 H' → NetX A H' p ⟨m, ts⟩ s → s.as = as → H0 s.kl = none → H0 s.sd = none → H0 s.nl = none → (∀ a ∈ s.ns, H0 a = none) → Q .non H')
    (kb : ¬ GoodTies H0 m xs → ∀ H', Ex H0 H' → E (.ref A.eNoNet) none H') :
    t_init K A E { nx := fun _ H' => Q .non H', rt := Q } (start ["self", "many", "ties", "tie", "pair", "place"] [.ref p, vi m, .ref l]) H := by
  unfold t_init
  have hw : ∀ H, SpV (sp_is_whole K A) [vi m] H (.bl true) := fun H => spv_is_whole kd_int
  have hw0 := hw H
  refine q_skip (et_is (b := false) (et_or (et_not (et_B (ev_call (ea_cons (ev_var rfl) ea_nil) hw0))) fun _ => et_not (et_test (ev_chain (y := .int (m : Int)) ev_c (ev_var rfl) rv_le (fun _ => ev_c) (fun _ => rv_le)))) ?_) fun H1 e1 => ?_
  · simp; omega
  have hl1 := (e0.trans e1) _ _ hl
  by_cases hlen : xs.length ≤ 300
  case neg =>
    refine q_yes (et_is (b := true) (et_or (a := false) (et_not (a := true) (by walk_at "ev")) fun _ => by walk_at "ev") ?_) fun H2 e2 => kb ?_ H2 ((e0.trans e1).trans e2)
    · simp; omega
    · rintro ⟨as, ts, rfl, ta, h3, _⟩
      rw [List.length_map, Paired.length ta] at hlen
      exact hlen h3
  refine q_skip (et_is (b := false) (et_or (a := false) (et_not (a := true) (by walk_at "ev")) fun _ => by walk_at "ev") ?_) fun H2 e2 => ?_
  · simp; omega
  -- the attributes
  have s2 := (e0.trans e1).trans e2
  have hp2 := (e1.trans e2) _ _ hp
  refine q_fld (v := vi m) (by walk_at "ev") (by walk_at "ev") hp2 nc.cl nc.nM (by decide) fun H3 e3 => ?_
  have hp3 : (upd H3 p (.ins A.C dx (putF "many" (vi m) []))) p = some (.ins A.C dx [("many", vi m)]) := upd_same
  have s3 : Ex H0 (upd H3 p (.ins A.C dx (putF "many" (vi m) []))) := Ex.mut (s2.trans e3) p0
  generalize upd H3 p (.ins A.C dx (putF "many" (vi m) [])) = G3 at hp3 s3 ⊢
  refine q_fldL (xs := []) (el_lst ea_nil (by decide)) (by walk_at "ev") hp3 nc.cl nc.nK (by simp) fun kl H4 k4 e4 h4 => ?_
  rw [put_past (by decide +kernel)]
  have npk : kl ≠ p := (ne_of_none hp3 k4).symm
  have hp4 : (upd H4 p (.ins A.C dx (("many", vi m) :: putF "kept" (.ref kl) []))) p = some (.ins A.C dx [("many", vi m), ("kept", .ref kl)]) := upd_same
  have hk4 : (upd H4 p (.ins A.C dx (("many", vi m) :: putF "kept" (.ref kl) []))) kl = some (.lst []) := by rw [upd_ne npk]; exact h4
  have s4 : Ex H0 (upd H4 p (.ins A.C dx (("many", vi m) :: putF "kept" (.ref kl) []))) := Ex.mut (s3.trans e4) p0
  have k0 : H0 kl = none := fresh_back s3 k4
  generalize upd H4 p (.ins A.C dx (("many", vi m) :: putF "kept" (.ref kl) [])) = G4 at hp4 hk4 s4 ⊢
  refine q_fld0 ?_
  intro sd hsd
  have nps : sd ≠ p := (ne_of_none hp4 hsd).symm
  have nks : kl ≠ sd := ne_of_none hk4 hsd
  refine ⟨_, rfl, p, A.C, dx, _, rfl, (by rw [upd_ne nps.symm]; exact hp4), nc.cl, nc.nS, by simp, ?_⟩
  rw [put_past (by decide +kernel), put_past (by decide +kernel)]
  have d0 : H0 sd = none := fresh_back s4 hsd
  have hp5 : upd (upd G4 sd (.dT [])) p (.ins A.C dx (("many", vi m) :: ("kept", .ref kl) :: putF "summed" (.ref sd) [])) p = some (.ins A.C dx [("many", vi m), ("kept", .ref kl), ("summed", .ref sd)]) := upd_same
  have hk5 : upd (upd G4 sd (.dT [])) p (.ins A.C dx (("many", vi m) :: ("kept", .ref kl) :: putF "summed" (.ref sd) [])) kl = some (.lst []) := by rw [upd_ne npk, upd_ne nks]; exact hk4
  have hs5 : upd (upd G4 sd (.dT [])) p (.ins A.C dx (("many", vi m) :: ("kept", .ref kl) :: putF "summed" (.ref sd) [])) sd = some (.dT []) := by rw [upd_ne nps, upd_same]
  have s5 : Ex H0 (upd (upd G4 sd (.dT [])) p (.ins A.C dx (("many", vi m) :: ("kept", .ref kl) :: putF "summed" (.ref sd) []))) := Ex.mut (s4.trans (Ex.new hsd)) p0
  generalize upd (upd G4 sd (.dT [])) p (.ins A.C dx (("many", vi m) :: ("kept", .ref kl) :: putF "summed" (.ref sd) [])) = G5 at hp5 hk5 hs5 s5 ⊢
  refine q_fld0 (c_news (m := m) (ea_cons (ev_var rfl) ea_nil) (by omega) (fun _ => rfl) fun nl ns G6 hnl e6 h6 hns nd hD ha => ?_)
  have hp6 := e6 _ _ hp5
  refine ⟨_, rfl, p, A.C, dx, _, rfl, hp6, nc.cl, nc.nN, by simp, ?_⟩
  rw [put_past (by decide +kernel), put_past (by decide +kernel), put_past (by decide +kernel)]
  have n0 : H0 nl = none := fresh_back s5 hnl
  have npn : nl ≠ p := (ne_of_none hp5 hnl).symm
  have b0 : Build A (upd G6 p (.ins A.C dx (("many", vi m) :: ("kept", .ref kl) :: ("summed", .ref sd) :: putF "near" (.ref nl) []))) p m dx kl sd nl ns [] [] (fun _ => []) := by
    refine ⟨upd_same, by rw [upd_ne npk]; exact e6 _ _ hk5, by rw [upd_ne nps]; exact e6 _ _ hs5, by rw [upd_ne npn]; exact h6, hns, fun i a hi => ?_, ne_of_none hk5 hnl, fun q => ?_, hD, nd⟩
    · have hm := ha a (List.mem_of_getElem? hi)
      rw [upd_ne (fun z => by rw [z, hp5] at hm; cases hm.1)]
      exact hm.2
    · have := (ha kl q).1
      rw [hk5] at this; cases this
  have s6 : Ex H0 (upd G6 p (.ins A.C dx (("many", vi m) :: ("kept", .ref kl) :: ("summed", .ref sd) :: putF "near" (.ref nl) []))) := Ex.mut (s5.trans e6) p0
  have a0 : ∀ a ∈ ns, H0 a = none := fun a q => fresh_back s5 (ha a q).1
  generalize upd G6 p (.ins A.C dx (("many", vi m) :: ("kept", .ref kl) :: ("summed", .ref sd) :: putF "near" (.ref nl) [])) = G7 at b0 s6 ⊢
  -- the ties
  refine s_forL (a := l) (xs := xs) (by walk_at "ev") (sq_of (s6 _ _ hl)) (fun i σ G => ∃ (as : List Addr) (ts : List Tie) (kvs : List (List Key × V)) (w3 w4 : Option V), σ = [some (.ref p), some (vi m), some (.ref l), w3, w4, none] ∧ Ex H0 G ∧ xs.take i = as.map V.ref ∧ TiesAt H0 as ts ∧ (∀ t ∈ ts, okTie m t) ∧
      Build A G p m dx kl sd nl ns (xs.take i) kvs (fun j => (nearOf ts j).map vi) ∧ SumOk kvs ts) (fun G8 e8 => ⟨[], [], [], none, none, rfl, s6.trans e8, by simp, .nil, by simp, by rw [List.take_zero]; exact b0.ext e8, SumOk.nil⟩) (fun i σ G _ ⟨_, _, _, _, _, _, e, _⟩ => sq_of (e _ _ hl)) ?_ ?_
  · rintro i x σ G hxi ⟨as, ts, kvs, w3, w4, rfl, e, ha, ta, ok, b, so⟩
    have hi : i < xs.length := (List.getElem?_eq_some_iff.mp hxi).1
    show tSeq _ _ _ [some (.ref p), some (vi m), some (.ref l), some x, w4, none] G
    have kbx : (∀ a t, x = .ref a → H0 a = some (.tup (tieV t)) → ¬ okTie m t) → ∀ H', Ex H0 H' → E (.ref A.eNoNet) none H' := fun q => kb fun g => by
      obtain ⟨a, t, h1, h2, h3⟩ := g.at_ hxi
      exact q a t h1 h2 h3
    rcases hx x (List.mem_of_getElem? hxi) with ⟨ty, hv, hb⟩ | ⟨a, vs, rfl, hA, hn⟩ | ⟨a, v0, v1, v2, rfl, hA, hk0, hk1, hk2⟩
    · have hvG := hv.mono e
      refine q_yes (et_is (b := true) (et_or (a := true) (b := true) (et_not (a := false) (by walk_at "ev")) (fun q => nomatch q)) rfl) fun H2 e2 => kbx (fun a t h1 h2 _ => ?_) _ (e.trans e2)
      subst h1
      rw [vt_is_tup h2 hv] at hb
      exact absurd hb (by decide +kernel)
    · have hAG := e _ _ hA
      refine q_yes (et_is (b := true) (et_or (a := false) (et_not (a := true) (by walk_at "ev")) fun _ => et_or (a := true) (b := true) (et_is (by walk_at "ev") ?_) (fun q => nomatch q)) rfl) fun H2 e2 => kbx (fun a' t h1 h2 _ => ?_) _ (e.trans e2)
      · simp; omega
      · have := V.ref.inj h1
        subst this
        rw [hA] at h2
        injection h2 with h2
        injection h2 with h2
        exact hn (by rw [h2]; rfl)
    · have hAG := e _ _ hA
      have ob : ObjAt A G p (m : Int) kl sd nl := ⟨dx, b.ob⟩
      have hob := b.ob
      have g0 := spv_has (K := K) ob (hk0.mono e)
      have g1 := spv_has (K := K) ob (hk1.mono e)
      have kbt : (∀ t, [v0, v1, v2] = tieV t → ¬ okTie m t) → ∀ H', Ex H0 H' → E (.ref A.eNoNet) none H' := fun q => kbx fun a' t h1 h2 => by
        have := V.ref.inj h1
        subst this
        rw [hA] at h2
        injection h2 with h2
        injection h2 with h2
        exact q t h2
      by_cases hpl : (isPl (m : Int) v0 && isPl (m : Int) v1) = true
      case neg =>
        refine q_yes (et_is (b := true) (by walk_at "ev") ?_) fun H2 e2 => kbt (fun t h1 h2 => ?_) _ (e.trans e2)
        · revert hpl
          cases isPl (m : Int) v0 <;> cases isPl (m : Int) v1 <;> simp
        · unfold tieV at h1
          injection h1 with h3 h1
          injection h1 with h4 h1
          subst h3 h4
          exact hpl (by rw [isPl_vi h2.1, isPl_vi h2.2.1]; rfl)
      refine q_skip (et_is (b := false) (by walk_at "ev") ?_) fun G1 e1 => ?_
      · revert hpl
        cases isPl (m : Int) v0 <;> cases isPl (m : Int) v1 <;> simp
      rw [Bool.and_eq_true] at hpl
      obtain ⟨j0, rfl, hj0⟩ := isPl_nat hpl.1
      obtain ⟨j1, rfl, hj1⟩ := isPl_nat hpl.2
      have hA1 := e1 _ _ hAG
      have gw := spv_is_whole (A := A) ((hk2.mono e).mono e1)
      by_cases hI : isI v2 = true
      case neg =>
        refine q_yes (et_is (et_or (b := true) (et_test (ev_op (x := .int (j0 : Int)) (y := .int (j1 : Int)) (by walk_at "ev") (by walk_at "ev") rv_eqI)) fun _ => et_or (a := true) (b := true) (et_is (et_not (et_B (ev_call (ea_cons (ev_op (x := .ref a) (y := .int 2) (ev_var rfl) ev_c (rv_ixT (st_of hA1) rfl)) ea_nil) gw))) ?_) (fun q => nomatch q)) ?_) fun H2 e2 => kbt (fun t h1 h2 => ?_) _ ((e.trans e1).trans e2)
        · simpa using hI
        · simp
        · unfold tieV at h1
          injection h1 with _ h1
          injection h1 with _ h1
          injection h1 with h3 _
          rw [h3] at hI
          exact hI rfl
      obtain ⟨c, rfl⟩ : ∃ c, v2 = .int c := by
        cases v2 <;> first | exact ⟨_, rfl⟩ | cases hI
      by_cases hgood : j0 ≠ j1 ∧ 1 ≤ c ∧ c ≤ 1000000000
      case neg =>
        refine q_yes (et_is (b := true) (et_or (et_test (ev_op (x := .int (j0 : Int)) (y := .int (j1 : Int)) (by walk_at "ev") (by walk_at "ev") rv_eqI)) fun _ => et_or (et_not (et_B (ev_call (ea_cons (ev_op (x := .ref a) (y := .int 2) (ev_var rfl) ev_c (rv_ixT (st_of hA1) rfl)) ea_nil) gw))) fun _ => et_not (et_test (by walk_at "ev"))) ?_) fun H2 e2 => kbt (fun t h1 h2 => ?_) _ ((e.trans e1).trans e2)
        · simp [isI]; omega
        · unfold tieV at h1
          injection h1 with h3 h1
          injection h1 with h4 h1
          injection h1 with h5 _
          have h3 := vi_inj h3
          have h4 := vi_inj h4
          have h5 := V.int.inj h5
          obtain ⟨_, _, q1, q2, q3⟩ := h2
          omega
      refine q_skip (et_is (b := false) (et_or (et_test (ev_op (x := .int (j0 : Int)) (y := .int (j1 : Int)) (by walk_at "ev") (by walk_at "ev") rv_eqI)) fun _ => et_or (et_not (et_B (ev_call (ea_cons (ev_op (x := .ref a) (y := .int 2) (ev_var rfl) ev_c (rv_ixT (st_of hA1) rfl)) ea_nil) gw))) fun _ => et_not (et_test (by walk_at "ev"))) ?_) fun G2 e2 => ?_
      · simp [isI]; omega
      have e2' := (e.trans e1).trans e2
      have hA2 := e2' _ _ hA
      have b2 := b.ext (e1.trans e2)
      obtain ⟨lo, hi', hlo, hhi, hlt, hmin, hmax, hcase⟩ := sortTie j0 j1 hgood.1
      refine q_asgU (xs := [.int (lo : Int), .int (hi' : Int)]) (eu_tup (ea_cons (ev_cb (ea_cons (ev_op (x := .ref a) (y := .int 0) (ev_var rfl) ev_c (rv_ixT (st_of hA2) rfl)) (ea_cons (ev_op (x := .ref a) (y := .int 1) (ev_var rfl) ev_c (rv_ixT (st_of hA2) rfl)) ea_nil)) (by rw [← hlo]; exact rc_min2))
        (ea_cons (ev_cb (ea_cons (ev_op (x := .ref a) (y := .int 0) (ev_var rfl) ev_c (rv_ixT (st_of hA2) rfl)) (ea_cons (ev_op (x := .ref a) (y := .int 1) (ev_var rfl) ev_c (rv_ixT (st_of hA2) rfl)) ea_nil)) (by rw [← hhi]; exact rc_max2)) ea_nil)) (by simp)) fun q G3 hq e3 h3 => ?_
      show tSeq _ _ _ [some (.ref p), some (vi m), some (.ref l), some (.ref a), some (.ref q), none] G3
      have b3 := b2.ext e3
      have hob3 := b3.ob
      refine q_app (l := kl) (xs := xs.take i) b3.hk (by walk_at "ev") (v := .ref a) (by walk_at "ev") (by rw [List.length_take]; omega) fun G4 e4 => ?_
      have hq4 := e4 _ _ h3
      have nqk : q ≠ kl := ne_of hq4 (b3.ext e4).hk (by intro z; cases z)
      have b5 := (b3.ext e4).kept (xs.take i ++ [.ref a])
      have hq5 : (upd G4 kl (.lst (xs.take i ++ [.ref a]))) q = some (.tup [.int (lo : Int), .int (hi' : Int)]) := by rw [upd_ne nqk]; exact hq4
      have e5 : Ex H0 (upd G4 kl (.lst (xs.take i ++ [.ref a]))) := Ex.mut ((e2'.trans e3).trans e4) k0
      generalize upd G4 kl (.lst (xs.take i ++ [.ref a])) = G5 at b5 hq5 e5 ⊢
      have hall : ∀ t ∈ ts, t.1 ≠ t.2.1 := fun t ht => (ok t ht).2.2.1
      have htie : (lo = ((j0, j1, c) : Tie).1 ∧ hi' = ((j0, j1, c) : Tie).2.1) ∨ (lo = ((j0, j1, c) : Tie).2.1 ∧ hi' = ((j0, j1, c) : Tie).1) := hcase
      have hkl := so.len
      have hal : ts.length ≤ 300 := by
        have := Paired.length ta
        have h1 : (xs.take i).length = as.length := by rw [ha, List.length_map]
        rw [List.length_take] at h1
        omega
      -- the last store, from either way
      have rest : ∀ (D : Ends) G, Build A G p m dx kl sd nl ns (xs.take i ++ [.ref a]) kvs (fun j => (nearOf (ts ++ [((j0, j1, c) : Tie)]) j).map vi) → G q = some (.tup [.int (lo : Int), .int (hi' : Int)]) → Ex H0 G →
          (∀ G6, Ex H0 G6 → Build A G6 p m dx kl sd nl ns (xs.take i ++ [.ref a]) (putK kvs (keyN lo hi') (.int (costOf ts lo hi' + c))) (fun j => (nearOf (ts ++ [((j0, j1, c) : Tie)]) j).map vi) → D.nx [some (.ref p), some (vi m), some (.ref l), some (.ref a), some (.ref q), none] G6) →
          sDPut (tFld K (tVar 0) "summed") (tVar 4) (tOp rPlus (tMeth A.C "cost" (sp_cost K A) [] E0 (tVar 0) (tCons (tOp (rIxT K) (tVar 4) (tC (.int 0))) (tCons (tOp (rIxT K) (tVar 4) (tC (.int 1))) tNil))) (tOp (rIxT K) (tVar 3) (tC (.int 2)))) D [some (.ref p), some (vi m), some (.ref l), some (.ref a), some (.ref q), none] G := by
        intro D G bG hqG eG fin
        have hob := bG.ob
        have hsd := bG.hs
        have hAG := eG _ _ hA
        have ob : ObjAt A G p (m : Int) kl sd nl := ⟨dx, bG.ob⟩
        have hc := spv_cost (K := K) (i := (lo : Int)) (j := (hi' : Int)) ob bG.hs
        rw [so.get (by omega)] at hc
        refine s_dputT (d := sd) (q := q) (kvs := kvs) (k := keyN lo hi') (v := .int (costOf ts lo hi' + c)) ?_ (by walk_at "ev") (ev_var rfl) hsd hqG (by omega) fun G6 e6 => ?_
        · refine ev_op (x := .int (costOf ts lo hi')) (y := .int c) (ev_meth (p := p) (vs := [.int (lo : Int), .int (hi' : Int)]) (ev_var rfl) hob (by walk_at "lk") ?_ hc) (ev_op (x := .ref a) (y := .int 2) (ev_var rfl) ev_c (rv_ixT (st_of hAG) rfl)) rv_plus
          exact ea_cons (ev_op (x := .ref q) (y := .int 0) (ev_var rfl) ev_c (rv_ixT (st_of hqG) rfl)) (ea_cons (ev_op (x := .ref q) (y := .int 1) (ev_var rfl) ev_c (rv_ixT (st_of hqG) rfl)) ea_nil)
        · exact fin _ (Ex.mut (eG.trans e6) d0) ((bG.ext e6).summed _)
      have fin : ∀ G6, Ex H0 G6 → Build A G6 p m dx kl sd nl ns (xs.take i ++ [.ref a]) (putK kvs (keyN lo hi') (.int (costOf ts lo hi' + c))) (fun j => (nearOf (ts ++ [((j0, j1, c) : Tie)]) j).map vi) →
          ∃ (as : List Addr) (ts : List Tie) (kvs : List (List Key × V)) (w3 w4 : Option V), [some (.ref p), some (vi m), some (.ref l), some (.ref a), some (.ref q), none] = [some (.ref p), some (vi m), some (.ref l), w3, w4, none] ∧ Ex H0 G6 ∧ xs.take (i + 1) = as.map V.ref ∧ TiesAt H0 as ts ∧ (∀ t ∈ ts, okTie m t) ∧ Build A G6 p m dx kl sd nl ns (xs.take (i + 1)) kvs (fun j => (nearOf ts j).map vi) ∧ SumOk kvs ts := by
        intro G6 e6 b6
        refine ⟨as ++ [a], ts ++ [(j0, j1, c)], _, _, _, rfl, e6, by rw [take_succ_of hxi, ha]; simp, paired_snoc ta hA, fun t ht => ?_, by rw [take_succ_of hxi]; exact b6, ?_⟩
        · rcases List.mem_append.mp ht with h | h
          · exact ok t h
          · rw [List.mem_singleton] at h
            rw [h]
            exact ⟨hj0, hj1, hgood.1, hgood.2.1, hgood.2.2⟩
        · have := so.more (t := (j0, j1, c)) hgood.1
          rw [hmin, hmax] at this
          exact this
      have hob5 := b5.ob
      have hs5' := b5.hs
      have hv := so.val lo hi' hlt
      have etest : EvT (tB (tDNotIn (tVar 4) (tFld K (tVar 0) "summed"))) [some (.ref p), some (vi m), some (.ref l), some (.ref a), some (.ref q), none] G5 (!ts.any (joins lo hi')) := by
        refine et_B (ev_is (ev_notInT (d := sd) (a := q) (kvs := kvs) (k := keyN lo hi') (by walk_at "ev") (rd_of hs5') (ev_var rfl) hq5) ?_)
        rw [hv]
        cases ts.any (joins lo hi') <;> rfl
      refine q_if etest (fun hb G6 e6 => ?_) (fun hb G6 e6 => ?_)
      · have hany : ts.any (joins lo hi') = false := by simpa using hb
        have b6 := b5.ext e6
        have hq6 := e6 _ _ hq5
        obtain ⟨c0, hc0⟩ : ∃ c0, ns[lo]? = some c0 := ⟨ns[lo]'(by have := b6.len; omega), List.getElem?_eq_getElem _⟩
        obtain ⟨c1, hc1⟩ : ∃ c1, ns[hi']? = some c1 := ⟨ns[hi']'(by have := b6.len; omega), List.getElem?_eq_getElem _⟩
        have nl0 := b6.at_ lo c0 hc0
        have hob6 := b6.ob
        have hn6 := b6.hn
        have at0 : atI (ns.map V.ref) (lo : Int) = some (.ref c0) := atI_nat (by rw [List.getElem?_map, hc0]; rfl)
        have at1 : atI (ns.map V.ref) (hi' : Int) = some (.ref c1) := atI_nat (by rw [List.getElem?_map, hc1]; rfl)
        have hlen0 : ∀ j, (nearOf ts j).length ≤ ts.length := fun j => near_len ts j
        refine q_app (l := c0) (xs := (nearOf ts lo).map vi) nl0 (ev_op (x := .ref nl) (y := .int (lo : Int)) (by walk_at "ev") (ev_op (x := .ref q) (y := .int 0) (ev_var rfl) ev_c (rv_ixT (st_of hq6) rfl)) (rv_ixL (sq_of hn6) at0)) (v := vi hi') (ev_op (x := .ref q) (y := .int 1) (ev_var rfl) ev_c (rv_ixT (st_of hq6) rfl)) (by rw [List.length_map]; have := hlen0 lo; omega) fun G7 e7 => ?_
        have b7 := (b6.ext e7).near hc0 ((nearOf ts lo).map vi ++ [vi hi'])
        have hq7 : (upd G7 c0 (.lst ((nearOf ts lo).map vi ++ [vi hi']))) q = some (.tup [.int (lo : Int), .int (hi' : Int)]) := by
          rw [upd_ne (ne_of (e7 _ _ hq6) (e7 _ _ nl0) (by intro z; cases z))]
          exact e7 _ _ hq6
        have e7' : Ex H0 (upd G7 c0 (.lst ((nearOf ts lo).map vi ++ [vi hi']))) := Ex.mut ((e5.trans e6).trans e7) (a0 c0 (List.mem_of_getElem? hc0))
        generalize upd G7 c0 (.lst ((nearOf ts lo).map vi ++ [vi hi'])) = G8 at b7 hq7 e7' ⊢
        have nl1 := b7.at_ hi' c1 hc1
        have hob7 := b7.ob
        have hn7 := b7.hn
        rw [if_neg (by omega)] at nl1
        refine s_app (l := c1) (xs := (nearOf ts hi').map vi) nl1 (ev_op (x := .ref nl) (y := .int (hi' : Int)) (by walk_at "ev") (ev_op (x := .ref q) (y := .int 1) (ev_var rfl) ev_c (rv_ixT (st_of hq7) rfl)) (rv_ixL (sq_of hn7) at1)) (v := vi lo) (ev_op (x := .ref q) (y := .int 0) (ev_var rfl) ev_c (rv_ixT (st_of hq7) rfl)) (by rw [List.length_map]; have := hlen0 hi'; omega) fun G9 e9 => ?_
        have b9 := (b7.ext e9).near hc1 ((nearOf ts hi').map vi ++ [vi lo])
        have hq9 : (upd G9 c1 (.lst ((nearOf ts hi').map vi ++ [vi lo]))) q = some (.tup [.int (lo : Int), .int (hi' : Int)]) := by
          rw [upd_ne (ne_of (e9 _ _ hq7) (e9 _ _ nl1) (by intro z; cases z))]
          exact e9 _ _ hq7
        have e9' : Ex H0 (upd G9 c1 (.lst ((nearOf ts hi').map vi ++ [vi lo]))) := Ex.mut (e7'.trans e9) (a0 c1 (List.mem_of_getElem? hc1))
        refine rest _ _ ?_ hq9 e9' fin
        have hnm := near_more hlt htie hall
        rw [if_neg (by rw [hany]; exact Bool.false_ne_true)] at hnm
        rw [hnm, if_neg (by omega)]
        exact b9
      · have hany : ts.any (joins lo hi') = true := by simpa using hb
        refine rest _ _ ?_ (e6 _ _ hq5) (e5.trans e6) fin
        have hnm := near_more hlt htie hall
        rw [if_pos hany] at hnm
        rw [hnm]
        exact b5.ext e6
  · rintro σ G ⟨as, ts, kvs, w3, w4, rfl, e, ha, ta, ok, b, so⟩
    rw [List.take_length] at ha b
    have hle : ts.length = xs.length := by rw [ha, List.length_map]; exact (Paired.length ta).symm
    exact kg as ts ha ta ⟨m1, m2, by show ts.length ≤ 300; omega, ok⟩ G ⟨dx, kl, sd, nl, as, ns, kvs⟩ e ⟨⟨m1, m2, by show ts.length ≤ 300; omega, ok⟩, b.ob, by rw [← ha]; exact b.hk, ta.mono e, b.hs, so, b.hn, b.len, b.at_⟩ rfl k0 d0 n0 a0
end

section
variable {K : PySem.W.Frag} {A : Ads}
theorem map_ref_inj : ∀ {as bs : List Addr}, as.map V.ref = bs.map V.ref → as = bs
  | [], [], _ => rfl
  | [], _ :: _, h => by simp at h
  | _ :: _, [], h => by simp at h
  | a :: r, b :: s, h => by
    simp only [List.map_cons, List.cons.injEq, V.ref.injEq] at h
    rw [h.1, map_ref_inj h.2]
theorem tieV_inj {t u : Tie} (h : tieV t = tieV u) : t = u := by
  unfold tieV at h
  injection h with h1 h
  injection h with h2 h
  injection h with h3 _
  obtain ⟨a, b, c⟩ := t
  obtain ⟨a', b', c'⟩ := u
  have h1 := vi_inj h1
  have h2 := vi_inj h2
  have h3 := V.int.inj h3
  simp only at h1 h2 h3
  rw [h1, h2, h3]
theorem TiesAt.inj {H : Hp} : ∀ {as : List Addr} {ts us : List Tie}, TiesAt H as ts → TiesAt H as us → ts = us
  | _, _, _, .nil, .nil => rfl
  | _, _, _, .cons h t, .cons h' t' => by
    rw [h] at h'
    injection h' with h'
    injection h' with h'
    rw [tieV_inj h', TiesAt.inj t t']
theorem TiesAt.kinds {H : Hp} : ∀ {as : List Addr} {ts : List Tie}, TiesAt H as ts → ∀ x ∈ as.map V.ref, TieK K H x
  | _, _, .nil, x, h => by simp at h
  | _, _, .cons h t, x, hx => by
    simp only [List.map_cons, List.mem_cons] at hx
    rcases hx with rfl | hx
    · exact .inr (.inr ⟨_, _, _, _, rfl, h, kd_int, kd_int, kd_int⟩)
    · exact TiesAt.kinds t x hx
theorem pure_init (nc : NetC K A) (vs : List V) (H : Hp) (Q : VK) (E : XK) (h : sp_init K A vs H Q E) : t_init K A E { nx := fun _ H' => Q .non H', rt := Q } (start ["self", "many", "ties", "tie", "pair", "place"] vs) H := by
  obtain ⟨H0, p, dx, mv, tv, rfl, e0, p0, hp, hk, h⟩ := h
  rcases h with ⟨m, l, as, ts, rfl, rfl, hl, ta, ok, k⟩ | ⟨h, k⟩
  · refine init_core nc e0 p0 hp ok.lo ok.hi hl ?_ ta.kinds ?_ (fun g => absurd ⟨as, ts, rfl, ta, ok.few, ok.all⟩ g)
    · rw [List.length_map, Paired.length ta]
      have := ok.few
      have : ts.length ≤ 300 := this
      omega
    · intro as' ts' ea ta' ok' H' s e N hs
      have ea := map_ref_inj ea
      subst ea
      have et := ta.inj ta'
      subst et
      exact k H' s e N hs
  · rcases h with hm | ⟨m, rfl, m1, m2, h⟩
    · unfold t_init
      have hkH := hk.mono e0
      have gw := spv_is_whole (A := A) hkH
      by_cases hI : isI mv = true
      · obtain ⟨i, rfl⟩ : ∃ i, mv = .int i := by
          cases mv <;> first | exact ⟨_, rfl⟩ | cases hI
        refine q_yes (et_is (b := true) (et_or (et_not (et_B (ev_call (ea_cons (ev_var rfl) ea_nil) gw))) fun _ => et_not (et_test (ev_chain (y := .int i) ev_c (ev_var rfl) rv_le (fun _ => ev_c) (fun _ => rv_le)))) ?_) fun H1 e1 => k _ (e0.trans e1)
        have : ¬ (1 ≤ i ∧ i ≤ 24) := fun q => hm ⟨i.toNat, by unfold vi; congr 1; omega, by omega, by omega⟩
        simp [isI]; omega
      · refine q_yes (et_is (b := true) (et_or (a := true) (b := true) (et_is (et_not (et_B (ev_call (ea_cons (ev_var rfl) ea_nil) gw))) ?_) (fun q => nomatch q)) rfl) fun H1 e1 => k _ (e0.trans e1)
        simpa using hI
    · rcases h with ⟨ty, hv, hb⟩ | ⟨l, xs, rfl, hl, hz, hx, hg⟩
      · unfold t_init
        have hw : ∀ H, SpV (sp_is_whole K A) [vi m] H (.bl true) := fun H => spv_is_whole kd_int
        have hw0 := hw H
        refine q_skip (et_is (b := false) (et_or (et_not (et_B (ev_call (ea_cons (ev_var rfl) ea_nil) hw0))) fun _ => et_not (et_test (ev_chain (y := .int (m : Int)) ev_c (ev_var rfl) rv_le (fun _ => ev_c) (fun _ => rv_le)))) ?_) fun H1 e1 => ?_
        · simp; omega
        have hv1 := (hv.mono e0).mono e1
        exact q_yes (et_is (b := true) (et_or (a := true) (b := true) (et_not (a := false) (by walk_at "ev")) (fun q => nomatch q)) rfl) fun H2 e2 => k _ ((e0.trans e1).trans e2)
      · exact init_core nc e0 p0 hp m1 m2 hl hz hx (fun as ts ea ta ok => absurd ⟨as, ts, ea, ta, ok.few, ok.all⟩ hg) (fun _ H' e' => k H' e')
end
abbrev spLaw (K : PySem.W.Frag) : Sp := fun vs H Q _ => ∃ (a : Addr) (ns : List Int), vs = [.ref a] ∧ SqL K H a (ns.map V.int) ∧ ns.length ≤ 63 ∧ ∀ H', Q (.bl true) H'

/-! ### facts about nets as data -/
theorem nearOf_nodup (ts : List Tie) (i : Nat) : (nearOf ts i).Nodup := by
  have key : ∀ (ts : List Tie) (acc : List Nat), acc.Nodup → (ts.foldl (fun l t => addNew l (over i t)) acc).Nodup := by
    intro ts
    induction ts with
    | nil => intro acc h; exact h
    | cons t r ih =>
      intro acc h
      rw [List.foldl_cons]
      refine ih _ ?_
      show (addNew acc (over i t)).Nodup
      cases over i t with
      | none => exact h
      | some k =>
        show (if k ∈ acc then acc else acc ++ [k]).Nodup
        by_cases hk : k ∈ acc
        · rw [if_pos hk]; exact h
        · rw [if_neg hk, List.nodup_append]
          exact ⟨h, by simp, fun a ha b hb q => hk (by rw [List.mem_singleton] at hb; rw [← hb, ← q]; exact ha)⟩
  exact key ts [] List.nodup_nil
theorem sum_pos_of : ∀ {l : List Int}, (∀ x ∈ l, 0 < x) → 0 ≤ l.sum ∧ (l ≠ [] → 0 < l.sum)
  | [], _ => ⟨Int.le_refl _, fun h => absurd rfl h⟩
  | x :: r, h => by
    have h1 := h x (by simp)
    have h2 := (sum_pos_of (l := r) fun y hy => h y (by simp [hy])).1
    rw [List.sum_cons]
    exact ⟨by omega, fun _ => by omega⟩
theorem costOf_nonneg {m : Nat} {ts : List Tie} (ok : ∀ t ∈ ts, okTie m t) (i j : Nat) : 0 ≤ costOf ts i j := by
  unfold costOf
  refine (sum_pos_of fun x hx => ?_).1
  obtain ⟨t, ht, rfl⟩ := List.mem_map.mp hx
  have := (ok t (List.mem_filter.mp ht).1).2.2.2.1
  omega
theorem costOf_pos {m : Nat} {ts : List Tie} (ok : ∀ t ∈ ts, okTie m t) (i j : Nat) : 0 < costOf ts i j ↔ ∃ t ∈ ts, joins i j t = true := by
  have hp : ∀ x ∈ (ts.filter (joins i j)).map (·.2.2), 0 < x := fun x hx => by
    obtain ⟨t, ht, rfl⟩ := List.mem_map.mp hx
    have := (ok t (List.mem_filter.mp ht).1).2.2.2.1
    omega
  constructor
  · intro h
    have hne : ts.filter (joins i j) ≠ [] := by
      intro q
      unfold costOf at h
      rw [q] at h
      exact absurd h (by simp)
    obtain ⟨t, ht⟩ := List.exists_mem_of_ne_nil _ hne
    exact ⟨t, List.mem_filter.mp ht⟩
  · rintro ⟨t, ht, hj⟩
    refine (sum_pos_of hp).2 fun q => ?_
    have : t.2.2 ∈ (ts.filter (joins i j)).map (·.2.2) := List.mem_map.mpr ⟨t, List.mem_filter.mpr ⟨ht, hj⟩, rfl⟩
    rw [q] at this
    exact nomatch this
theorem mem_near_cost {m : Nat} {ts : List Tie} (ok : ∀ t ∈ ts, okTie m t) {i j : Nat} (hij : i ≠ j) : j ∈ nearOf ts i ↔ 0 < costOf ts i j := by
  rw [costOf_pos ok, mem_nearOf ts i j fun t ht => (ok t ht).2.2.1]
  constructor
  · rintro ⟨t, ht, h⟩; exact ⟨t, ht, (over_joins hij (ok t ht).2.2.1).mp h⟩
  · rintro ⟨t, ht, h⟩; exact ⟨t, ht, (over_joins hij (ok t ht).2.2.1).mpr h⟩
theorem near_lt {m : Nat} {ts : List Tie} (ok : ∀ t ∈ ts, okTie m t) {i j : Nat} (h : j ∈ nearOf ts i) : j < m ∧ j ≠ i := by
  obtain ⟨t, ht, h⟩ := (mem_nearOf ts i j fun t ht => (ok t ht).2.2.1).mp h
  obtain ⟨h1, h2, h3, _⟩ := ok t ht
  unfold over at h
  by_cases q1 : t.1 = i
  · rw [if_pos q1] at h
    have := Option.some.inj h
    omega
  · rw [if_neg q1] at h
    by_cases q2 : t.2.1 = i
    · rw [if_pos q2] at h
      have := Option.some.inj h
      omega
    · rw [if_neg q2] at h; cases h
/-- the places beside, told by prices -/
def dueOf (n : Nat) (ts : List Tie) (i : Nat) : List Int := List.map (fun j : Nat => (j : Int)) ((List.range n).filter fun j => decide (j ≠ i) && decide (0 < costOf ts i j))
theorem besideOf_eq {n : Nat} {ts : List Tie} (ok : ∀ t ∈ ts, okTie n t) (i : Nat) : besideOf ts i = dueOf n ts i := by
  refine (srt_one ?_ ?_).symm
  · refine List.Perm.map _ ((List.perm_ext_iff_of_nodup ?_ (nearOf_nodup ts i)).mpr fun j => ?_)
    · exact List.Pairwise.filter _ List.nodup_range
    · rw [List.mem_filter, List.mem_range, Bool.and_eq_true, decide_eq_true_eq, decide_eq_true_eq]
      constructor
      · rintro ⟨_, h1, h2⟩
        exact (mem_near_cost ok (Ne.symm h1)).mpr h2
      · intro h
        have := near_lt ok h
        exact ⟨this.1, this.2, (mem_near_cost ok (Ne.symm this.2)).mp h⟩
  · exact List.Pairwise.map (R := (· < ·)) _ (fun a b h => by omega) (List.Pairwise.filter _ List.pairwise_lt_range)

/-! ### the law's own small defs: promises -/
def cellAt (ns : List Int) (k : Nat) : Int := ns.getD k 0
def sp_l_cell_at (K : PySem.W.Frag) (_ : Ads) : Sp := fun vs H Q _ => ∃ (a : Addr) (ns : List Int) (k : Nat), vs = [.ref a, vi k] ∧ SqL K H a (ns.map V.int) ∧ ∀ H', Ex H H' → Q (.int (cellAt ns k)) H'
def sp_l_whole (K : PySem.W.Frag) (_ : Ads) : Sp := fun vs H Q _ => ∃ v, vs = [v] ∧ Kd K H v ∧ ∀ H', Ex H H' → Q (.bl (isI v)) H'
/-- so many places: which is left open -/
def spMany (lo : Nat) (K : PySem.W.Frag) (_ : Ads) : Sp := fun vs H Q _ => ∃ (a : Addr) (ns : List Int), vs = [.ref a] ∧ SqL K H a (ns.map V.int) ∧ ∀ m : Nat, lo ≤ m → m ≤ 24 → ∀ H', Ex H H' → Q (vi m) H'
def sp_l_tie (_ : PySem.W.Frag) (_ : Ads) : Sp := fun vs H Q _ => ∃ (c : Int) (m : Nat) (top : Int), vs = [.int c, vi m, .int top] ∧ 2 ≤ m ∧ m ≤ 24 ∧ 1 ≤ top ∧ top ≤ 1000000000 ∧
  ∀ t : Tie, okTie m t → ∀ q H', H q = none → Ex H H' → H' q = some (.tup (tieV t)) → Q (.ref q) H'
/-- a new list of good ties -/
def spTies (K : PySem.W.Frag) (_ : Ads) : Sp := fun vs H Q _ => ∃ (a : Addr) (ns : List Int) (m : Nat), vs = [.ref a, vi m] ∧ SqL K H a (ns.map V.int) ∧ ns.length ≤ 63 ∧ 1 ≤ m ∧ m ≤ 24 ∧
  ∀ l as ts H', H l = none → Ex H H' → H' l = some (.lst (as.map V.ref)) → TiesAt H' as ts → (∀ t ∈ ts, okTie m t) → ts.length ≤ 300 → Q (.ref l) H'
def sp_l_due (_ : PySem.W.Frag) (_ : Ads) : Sp := fun vs H Q _ => ∃ (l : Addr) (as : List Addr) (ts : List Tie) (i j : Nat), vs = [.ref l, vi i, vi j] ∧ H l = some (.lst (as.map V.ref)) ∧ TiesAt H as ts ∧ i ≠ j ∧
  ∀ H', Ex H H' → Q (.int (costOf ts i j)) H'
section
variable (K : PySem.W.Frag) (A : Ads)
theorem len_l_cell_at : ∀ vs H Q E, sp_l_cell_at K A vs H Q E → vs.length = (["_law_script", "_law_k"] : List Str).length := by
  rintro _ _ _ _ ⟨_, _, _, rfl, _⟩; rfl
theorem len_l_whole : ∀ vs H Q E, sp_l_whole K A vs H Q E → vs.length = (["_law_found"] : List Str).length := by
  rintro _ _ _ _ ⟨_, rfl, _⟩; rfl
theorem len_l_tie : ∀ vs H Q E, sp_l_tie K A vs H Q E → vs.length = (["_law_cell", "_law_many_here", "_law_top"] : List Str).length := by
  rintro _ _ _ _ ⟨_, _, _, rfl, _⟩; rfl
theorem len_l_due : ∀ vs H Q E, sp_l_due K A vs H Q E → vs.length = (["_law_ties_here", "_law_one", "_law_other"] : List Str).length := by
  rintro _ _ _ _ ⟨_, _, _, _, _, rfl, _⟩; rfl
end
section
variable {K : PySem.W.Frag} {A : Ads} {H : Hp}
theorem spv_l_cell_at {a : Addr} {ns : List Int} {k : Nat} (h : SqL K H a (ns.map V.int)) : SpV (sp_l_cell_at K A) [.ref a, vi k] H (.int (cellAt ns k)) := fun _ e _ q _ => ⟨a, ns, k, rfl, ex_l e h, fun H2 e2 => q H2 e2⟩
theorem spv_l_whole {v : V} (h : Kd K H v) : SpV (sp_l_whole K A) [v] H (.bl (isI v)) := fun _ e _ q _ => ⟨v, rfl, h.mono e, fun H2 e2 => q H2 e2⟩
theorem spv_l_due {l : Addr} {as : List Addr} {ts : List Tie} {i j : Nat} (h : H l = some (.lst (as.map V.ref))) (t : TiesAt H as ts) (hij : i ≠ j) : SpV (sp_l_due K A) [.ref l, vi i, vi j] H (.int (costOf ts i j)) := fun _ e _ q _ =>
  ⟨l, as, ts, i, j, rfl, e _ _ h, t.mono e, hij, fun H2 e2 => q H2 e2⟩
end

def t_l_cell_at (K : PySem.W.Frag) (A : Ads) : TS :=
  (tSeq (tIfS (tTest (tOp rLt (tVar 1) (tCB (rLenS K) (tCons (tVar 0) tNil)))) (tRet (tOp (rIxL K) (tVar 0) (tVar 1))) tNext)
    (tRet (tC (.int 0))))

def t_l_whole (K : PySem.W.Frag) (A : Ads) : TS :=
  (tRet (tAndV (tCB (rIsi K) (tCons (tVar 0) (tCons (tC (.ty "int")) tNil))) (tNotV (tCB (rIsi K) (tCons (tVar 0) (tCons (tC (.ty "bool")) tNil))))))

def t_l_tie (K : PySem.W.Frag) (A : Ads) : TS :=
  (tSeq (tAsg (tOp rMod (tVar 0) (tVar 1)) (gName 3))
    (tSeq (tAsg (tOp rMod (tOp rPlus (tOp rPlus (tVar 3) (tC (.int 1))) (tOp rMod (tOp rFdiv (tVar 0) (tVar 1)) (tOp rMinus (tVar 1) (tC (.int 1))))) (tVar 1)) (gName 4))
    (tRet (tTup (tCons (tVar 3) (tCons (tVar 4) (tCons (tOp rPlus (tC (.int 1)) (tOp rMod (tOp rFdiv (tVar 0) (tOp rTimes (tVar 1) (tOp rMinus (tVar 1) (tC (.int 1))))) (tVar 2))) tNil)))))))

def t_l_due (K : PySem.W.Frag) (A : Ads) : TS :=
  (tSeq (tAsg (tC (.int 0)) (gName 3))
    (tSeq (tFor (iList K (tVar 0)) (gName 4) (tIfS (tOr (tAnd (tTest (tOp rEq (tOp (rIxT K) (tVar 4) (tC (.int 0))) (tVar 1))) (tTest (tOp rEq (tOp (rIxT K) (tVar 4) (tC (.int 1))) (tVar 2)))) (tAnd (tTest (tOp rEq (tOp (rIxT K) (tVar 4) (tC (.int 0))) (tVar 2))) (tTest (tOp rEq (tOp (rIxT K) (tVar 4) (tC (.int 1))) (tVar 1))))) (tAsg (tOp rPlus (tVar 3) (tOp (rIxT K) (tVar 4) (tC (.int 2)))) (gName 3)) tNext))
    (tRet (tVar 3))))

section
variable {K : PySem.W.Frag} {A : Ads}
theorem atI_ints {ns : List Int} {k : Nat} (h : k < ns.length) : atI (ns.map V.int) (k : Int) = some (.int (cellAt ns k)) := by
  refine atI_nat ?_
  rw [List.getElem?_map, List.getElem?_eq_getElem h]
  unfold cellAt
  rw [List.getD, List.getElem?_eq_getElem h]
  rfl
theorem pure_l_cell_at (vs : List V) (H : Hp) (Q : VK) (E : XK) (h : sp_l_cell_at K A vs H Q E) : t_l_cell_at K A { nx := fun _ H' => Q .non H', rt := Q } (start ["_law_script", "_law_k"] vs) H := by
  obtain ⟨a, ns, k, rfl, hs, q⟩ := h
  unfold t_l_cell_at
  have hlen : (ns.map V.int).length = ns.length := List.length_map ..
  refine q_when (et_test (ev_op (x := .int (k : Int)) (y := .int ((ns.map V.int).length : Int)) (ev_var rfl) (by walk_at "ev") rv_lt)) (fun hb H1 e1 => ?_) (fun hb H1 e1 => ?_)
  · have hb : (k : Int) < (ns.map V.int).length := of_decide_eq_true hb
    rw [hlen] at hb
    refine s_ret (v := .int (cellAt ns k)) ?_ fun H2 e2 => ?_
    case refine_2 => exact q _ (e1.trans e2)
    exact ev_op (x := .ref a) (y := .int (k : Int)) (ev_var rfl) (ev_var rfl) (rv_ixL (ex_l e1 hs) (atI_ints (by omega)))
  · have hb : ¬ (k : Int) < (ns.map V.int).length := of_decide_eq_false hb
    rw [hlen] at hb
    refine s_ret (v := .int (cellAt ns k)) ?_ fun H2 e2 => ?_
    case refine_2 => exact q _ (e1.trans e2)
    have : cellAt ns k = 0 := by
      unfold cellAt
      rw [List.getD, List.getElem?_eq_none (by omega)]; rfl
    rw [this]
    exact ev_c
theorem pure_l_whole (vs : List V) (H : Hp) (Q : VK) (E : XK) (h : sp_l_whole K A vs H Q E) : t_l_whole K A { nx := fun _ H' => Q .non H', rt := Q } (start ["_law_found"] vs) H := by
  obtain ⟨v, rfl, ⟨ty, b1, b2, hv, h1, h2, h3⟩, k⟩ := h
  unfold t_l_whole
  refine s_ret (v := .bl (b1 && !b2)) (by walk_at "ev") fun H1 e1 => ?_
  rw [h3]
  exact k H1 e1
theorem pure_l_tie (vs : List V) (H : Hp) (Q : VK) (E : XK) (h : sp_l_tie K A vs H Q E) : t_l_tie K A { nx := fun _ H' => Q .non H', rt := Q } (start ["_law_cell", "_law_many_here", "_law_top", "_law_one", "_law_other"] vs) H := by
  obtain ⟨c, m, top, rfl, m1, m2, t1, t2, k⟩ := h
  unfold t_l_tie
  show tSeq _ _ _ [some (.int c), some (.int (m : Int)), some (.int top), none, none] H
  have hone := Int.emod_nonneg c (show (m : Int) ≠ 0 by omega)
  have hone' := Int.emod_lt_of_pos c (show (0 : Int) < m by omega)
  refine q_asg (v := .int (c % (m : Int))) (by walk_at "ev") fun H1 e1 => ?_
  show tSeq _ _ _ [some (.int c), some (.int (m : Int)), some (.int top), some (.int (c % (m : Int))), none] H1
  generalize c % (m : Int) = one at hone hone'
  refine q_asg (v := .int ((one + 1 + c / (m : Int) % ((m : Int) - 1)) % (m : Int))) (by walk_at "ev") fun H2 e2 => ?_
  have hr := Int.emod_nonneg (c / (m : Int)) (show (m : Int) - 1 ≠ 0 by omega)
  have hr' := Int.emod_lt_of_pos (c / (m : Int)) (show (0 : Int) < (m : Int) - 1 by omega)
  show tRet _ _ [some (.int c), some (.int (m : Int)), some (.int top), some (.int one), some (.int ((one + 1 + c / (m : Int) % ((m : Int) - 1)) % (m : Int)))] H2
  generalize c / (m : Int) % ((m : Int) - 1) = r at hr hr'
  have ho := Int.emod_nonneg (one + 1 + r) (show (m : Int) ≠ 0 by omega)
  have ho' := Int.emod_lt_of_pos (one + 1 + r) (show (0 : Int) < m by omega)
  have hne : (one + 1 + r) % (m : Int) ≠ one := by
    have hd := Int.emod_add_mul_ediv (one + 1 + r) (m : Int)
    intro q
    rw [q] at hd
    have h3 : (m : Int) * ((one + 1 + r) / (m : Int)) = 1 + r := by omega
    have h4 : 0 < (one + 1 + r) / (m : Int) := by
      by_cases hp : 0 < (one + 1 + r) / (m : Int)
      · exact hp
      · exfalso
        have : (m : Int) * ((one + 1 + r) / (m : Int)) ≤ 0 := Int.mul_nonpos_of_nonneg_of_nonpos (by omega) (by omega)
        omega
    have h5 : (m : Int) * 1 ≤ (m : Int) * ((one + 1 + r) / (m : Int)) := Int.mul_le_mul_of_nonneg_left (by omega) (by omega)
    omega
  generalize (one + 1 + r) % (m : Int) = other at ho ho' hne
  have hprod : (m : Int) * ((m : Int) - 1) ≤ 24 * 23 := Int.mul_le_mul (by omega) (by omega) (by omega) (by omega)
  have hprod' : 2 * 1 ≤ (m : Int) * ((m : Int) - 1) := Int.mul_le_mul (by omega) (by omega) (by omega) (by omega)
  have hp := Int.emod_nonneg (c / ((m : Int) * ((m : Int) - 1))) (show top ≠ 0 by omega)
  have hp' := Int.emod_lt_of_pos (c / ((m : Int) * ((m : Int) - 1))) (show 0 < top by omega)
  refine s_retU (xs := tieV (one.toNat, other.toNat, 1 + c / ((m : Int) * ((m : Int) - 1)) % top)) ?_ fun q H3 hq e3 h3 => k _ ⟨by show one.toNat < m; omega, by show other.toNat < m; omega, by show one.toNat ≠ other.toNat; omega, by show 1 ≤ 1 + c / ((m : Int) * ((m : Int) - 1)) % top; omega, by show 1 + c / ((m : Int) * ((m : Int) - 1)) % top ≤ 1000000000; omega⟩ q H3 (fresh_back (e1.trans e2) hq) ((e1.trans e2).trans e3) h3
  have q1 : ((one.toNat : Nat) : Int) = one := by omega
  have q2 : ((other.toNat : Nat) : Int) = other := by omega
  unfold tieV vi
  rw [q1, q2]
  refine eu_tup (ea_cons (ev_var rfl) (ea_cons (ev_var rfl) (ea_cons (ev_op ev_c (ev_op (x := .int (c / ((m : Int) * ((m : Int) - 1)))) (y := .int top) (ev_op (x := .int c) (y := .int ((m : Int) * ((m : Int) - 1))) (ev_var rfl) (by walk_at "ev") (rv_fdiv ⟨by omega, by omega⟩)) (ev_var rfl) (rv_mod (by omega))) rv_plus) ea_nil))) (by simp)
theorem joins_test (t : Tie) (i j : Nat) : ((decide ((t.1 : Int) = (i : Int)) && decide ((t.2.1 : Int) = (j : Int))) || (decide ((t.1 : Int) = (j : Int)) && decide ((t.2.1 : Int) = (i : Int)))) = joins i j t := by
  unfold joins
  have e : ∀ a b : Nat, decide ((a : Int) = (b : Int)) = decide (a = b) := fun a b => by
    by_cases h : a = b
    · rw [decide_eq_true h, decide_eq_true (by omega)]
    · rw [decide_eq_false h, decide_eq_false (by omega)]
  rw [e, e, e, e]
theorem pure_l_due (vs : List V) (H : Hp) (Q : VK) (E : XK) (h : sp_l_due K A vs H Q E) : t_l_due K A { nx := fun _ H' => Q .non H', rt := Q } (start ["_law_ties_here", "_law_one", "_law_other", "_law_total", "_law_tie_here"] vs) H := by
  obtain ⟨l, as, ts, i, j, rfl, hl, ta, hij, k⟩ := h
  unfold t_l_due
  refine q_asg (v := .int 0) ev_c fun H1 e1 => ?_
  show tSeq _ _ _ [some (.ref l), some (vi i), some (vi j), some (.int 0), none] H1
  have hl1 := e1 _ _ hl
  refine q_forLn (a := l) (xs := as.map V.ref) (by walk_at "ev") (sq_of hl1) (fun n σ G => ∃ w, σ = [some (.ref l), some (vi i), some (vi j), some (.int (costOf (ts.take n) i j)), w] ∧ Ex H G) (fun H2 e2 => ⟨none, rfl, e1.trans e2⟩) (fun _ _ _ _ ⟨_, _, e⟩ => sq_of (e _ _ hl)) ?_ ?_
  · rintro n x σ G hx ⟨w, rfl, e⟩
    rw [List.getElem?_map] at hx
    cases ea : as[n]? with
    | none => rw [ea] at hx; cases hx
    | some a =>
      rw [ea] at hx
      have ex := Option.some.inj hx
      subst ex
      have hlen := Paired.length ta
      have hn := (List.getElem?_eq_some_iff.mp ea).1
      have et : ts[n]? = some (ts[n]'(by omega)) := List.getElem?_eq_getElem _
      generalize ts[n]'(by omega) = t at et
      have hA := paired_get (R := fun a t => H a = some (.tup (tieV t))) ta ea et
      have hA := e _ _ hA
      have etk := take_succ_of et
      show tIfS _ _ _ _ [some (.ref l), some (vi i), some (vi j), some (.int (costOf (ts.take n) i j)), some (.ref a)] G
      have at0 : Ev (tOp (rIxT K) (tVar 4) (tC (.int 0))) [some (.ref l), some (vi i), some (vi j), some (.int (costOf (ts.take n) i j)), some (.ref a)] G (.int (t.1 : Int)) := ev_op (x := .ref a) (y := .int 0) (ev_var rfl) ev_c (rv_ixT (st_of hA) rfl)
      have at1 : Ev (tOp (rIxT K) (tVar 4) (tC (.int 1))) [some (.ref l), some (vi i), some (vi j), some (.int (costOf (ts.take n) i j)), some (.ref a)] G (.int (t.2.1 : Int)) := ev_op (x := .ref a) (y := .int 1) (ev_var rfl) ev_c (rv_ixT (st_of hA) rfl)
      refine s_if (et_is (et_or (et_and (et_test (ev_op (y := .int (i : Int)) at0 (ev_var rfl) rv_eqI)) fun _ => et_test (ev_op (y := .int (j : Int)) at1 (ev_var rfl) rv_eqI)) fun _ => et_and (et_test (ev_op (y := .int (j : Int)) at0 (ev_var rfl) rv_eqI)) fun _ => et_test (ev_op (y := .int (i : Int)) at1 (ev_var rfl) rv_eqI)) (joins_test t i j)) (fun hb G1 e1 => ?_) (fun hb G1 e1 => ?_)
      · have hA1 := e1 _ _ hA
        refine s_asg (v := .int (costOf (ts.take n) i j + t.2.2)) (ev_op (x := .int (costOf (ts.take n) i j)) (y := .int t.2.2) (ev_var rfl) (ev_op (x := .ref a) (y := .int 2) (ev_var rfl) ev_c (rv_ixT (st_of hA1) rfl)) rv_plus) fun G2 e2 => ⟨some (.ref a), ?_, (e.trans e1).trans e2⟩
        rw [etk, costOf_append, hb]; rfl
      · refine ⟨some (.ref a), ?_, e.trans e1⟩
        rw [etk, costOf_append, hb]
        simp
  · rintro σ G ⟨w, rfl, e⟩
    rw [List.length_map, Paired.length ta, List.take_length]
    exact s_ret (ev_var rfl) fun H2 e2 => k _ (e.trans e2)
end

/-! ### lists of ties as they grow -/
section
variable {K : PySem.W.Frag} {A : Ads}
/-- from H0 on: at l a new list of good ties -/
structure TL (H0 H : Hp) (l : Addr) (m : Nat) (as : List Addr) (ts : List Tie) : Prop where
  new : H0 l = none
  ex : Ex H0 H
  at_ : H l = some (.lst (as.map V.ref))
  ta : TiesAt H as ts
  ok : ∀ t ∈ ts, okTie m t
theorem TL.len {H0 H : Hp} {l : Addr} {m : Nat} {as : List Addr} {ts : List Tie} (h : TL H0 H l m as ts) : as.length = ts.length := Paired.length h.ta
theorem TL.mono {H0 H H' : Hp} {l : Addr} {m : Nat} {as : List Addr} {ts : List Tie} (h : TL H0 H l m as ts) (e : Ex H H') : TL H0 H' l m as ts := ⟨h.new, h.ex.trans e, e _ _ h.at_, h.ta.mono e, h.ok⟩
/-- a list that stands may be changed: the tuples stay -/
theorem TiesAt.upd {H : Hp} {l : Addr} {xs : List V} {o : HO} : ∀ {as : List Addr} {ts : List Tie}, TiesAt H as ts → H l = some (.lst xs) → TiesAt (upd H l o) as ts
  | _, _, .nil, _ => .nil
  | _, _, .cons h t, hl => .cons (by rw [upd_ne (ne_of h hl (by intro z; cases z))]; exact h) (TiesAt.upd t hl)
theorem TL.add {H0 H : Hp} {l q : Addr} {m : Nat} {as : List Addr} {ts : List Tie} {t : Tie} (h : TL H0 H l m as ts) (hq : H q = some (.tup (tieV t))) (ht : okTie m t) : TL H0 (upd H l (.lst (as.map V.ref ++ [.ref q]))) l m (as ++ [q]) (ts ++ [t]) := by
  refine ⟨h.new, Ex.mut h.ex h.new, by rw [upd_same]; simp, paired_snoc (h.ta.upd h.at_) (by rw [upd_ne (ne_of hq h.at_ (by intro z; cases z))]; exact hq), fun u hu => ?_⟩
  rcases List.mem_append.mp hu with q | q
  · exact h.ok u q
  · rw [List.mem_singleton] at q; rw [q]; exact ht
/-- ties made in a comprehension over cells -/
theorem c_tiesL {σ : L2.St} {H : Hp} {Q : VK} {j m : Nat} {tl te : TE} {vs : List Nat} {cells : List Int} (hl : EvL tl σ H (cells.map V.int)) (hz : cells.length ≤ 1000) (hw : ∀ x, wipe ((wipe σ vs).set j (some x)) vs = wipe σ vs)
    (he : ∀ (c : Int) H1 (Q' : VK), Ex H H1 → (∀ t, okTie m t → ∀ q H2, H1 q = none → Ex H1 H2 → H2 q = some (.tup (tieV t)) → Q' (.ref q) H2) → te ((wipe σ vs).set j (some (.int c))) H1 Q')
    (k : ∀ D as ts H', H D = none → TL H H' D m as ts → ts.length = cells.length → Q (.ref D) H') : tLc (iList K tl) (gName j) tYes te vs σ H Q := by
  refine hl H (Ex.refl H) _ fun p H1 hp e1 h1 => ⟨p, rfl, ⟨_, sq_of h1⟩, fun D hD => ?_⟩
  refine lc_list (K := K) (a := p) (xs := cells.map V.int) (fun i H' => ∃ as ts, TL H1 H' D m as ts ∧ ts.length = i) ⟨[], [], ⟨hD, Ex.new hD, upd_same, .nil, fun _ h => nomatch h⟩, rfl⟩ (fun i H' _ ⟨_, _, t, _⟩ => sq_of (t.ex _ _ h1)) ?_ ?_
  · rintro i x H' hx ⟨as, ts, t, hn⟩
    rw [List.getElem?_map] at hx
    cases ec : cells[i]? with
    | none => rw [ec] at hx; cases hx
    | some c =>
      rw [ec] at hx
      have ex := Option.some.inj hx
      subst ex
      have hi := (List.getElem?_eq_some_iff.mp ec).1
      refine ⟨hw _, ty_go ?_⟩
      rw [if_pos rfl]
      refine he c H' _ (e1.trans t.ex) fun u hu q H2 hq e2 h2 => ⟨as.map V.ref, (t.mono e2).at_, ?_, as ++ [q], ts ++ [u], (t.mono e2).add h2 hu, by simp [hn]⟩
      rw [List.length_map, t.len]
      exact sz_lt (by omega)
  · rintro H' ⟨as, ts, t, hn⟩
    rw [List.length_map] at hn
    exact k D as ts H' (fresh_back e1 hD) ⟨fresh_back e1 hD, e1.trans t.ex, t.at_, t.ta, t.ok⟩ hn
/-- the prices' top -/
theorem ev_top {σ : L2.St} {H : Hp} {tb : TE} {c : Int} (hc : Ev tb σ H (.int c)) : ∃ top : Int, 1 ≤ top ∧ top ≤ 1000000000 ∧
    Ev (tOp (rIxL K) (tLst (tCons (tC (.int 3)) (tCons (tC (.int 20)) (tCons (tC (.int 1000000000)) tNil)))) (tOp rMod tb (tC (.int 3)))) σ H (.int top) := by
  have h1 := Int.emod_nonneg c (show (3 : Int) ≠ 0 by omega)
  have h2 := Int.emod_lt_of_pos c (show (0 : Int) < 3 by omega)
  have key : ∀ (k : Nat) (top : Int), c % 3 = (k : Int) → ([.int 3, .int 20, .int 1000000000] : List V)[k]? = some (.int top) →
      Ev (tOp (rIxL K) (tLst (tCons (tC (.int 3)) (tCons (tC (.int 20)) (tCons (tC (.int 1000000000)) tNil)))) (tOp rMod tb (tC (.int 3)))) σ H (.int top) := fun k top hk hv =>
    ev_opL1 (xs := [.int 3, .int 20, .int 1000000000]) (el_lst (ea_cons ev_c (ea_cons ev_c (ea_cons ev_c ea_nil))) (by simp)) (fun H1 e1 => ev_op (hc.mono e1) ev_c (rv_mod (by omega))) fun p H1 hp e => rv_ixL (sq_of hp) (by rw [hk]; exact atI_nat hv)
  by_cases q0 : c % 3 = 0
  · exact ⟨3, by omega, by omega, key 0 3 q0 rfl⟩
  · by_cases q1 : c % 3 = 1
    · exact ⟨20, by omega, by omega, key 1 20 q1 rfl⟩
    · exact ⟨1000000000, by omega, by omega, key 2 1000000000 (by omega) rfl⟩
/-- a call of the law's own tie -/
theorem c_l_tie {σ : L2.St} {H : Hp} {Q : VK} {c top : Int} {m : Nat} {t : TA} (ha : EvA t σ H [.int c, vi m, .int top]) (m1 : 2 ≤ m) (m2 : m ≤ 24) (t1 : 1 ≤ top) (t2 : top ≤ 1000000000)
    (k : ∀ u, okTie m u → ∀ q H2, H q = none → Ex H H2 → H2 q = some (.tup (tieV u)) → Q (.ref q) H2) : tCall (sp_l_tie K A) [] E0 t σ H Q :=
  c_call ha fun H1 e1 => ⟨c, m, top, rfl, m1, m2, t1, t2, fun u hu q H2 hq e2 h2 => k u hu q H2 (fresh_back e1 hq) (e1.trans e2) h2⟩
theorem cutV_ints (ns : List Int) (a b : Nat) : ∃ cs : List Int, cutV (ns.map V.int) (some (a : Int)) (some (b : Int)) = cs.map V.int ∧ cs.length ≤ ns.length ∧ cs.length ≤ b - a := by
  unfold cutV
  rw [← List.map_drop, ← List.map_take]
  refine ⟨_, rfl, ?_, ?_⟩
  · rw [List.length_take, List.length_drop]; omega
  · rw [List.length_take, HT.sIx_nat, HT.sIx_nat, List.length_map, List.length_drop]
    omega
end

abbrev sp_l_many := spMany 1
abbrev sp_l_ties := spTies
def sp_l_same_ties (_ : PySem.W.Frag) (_ : Ads) : Sp := fun vs H Q _ => ∃ (l1 l2 : Addr) (as1 as2 : List Addr) (ts : List Tie), vs = [.ref l1, .ref l2] ∧ H l1 = some (.lst (as1.map V.ref)) ∧ H l2 = some (.lst (as2.map V.ref)) ∧ TiesAt H as1 ts ∧ TiesAt H as2 ts ∧
  ∀ H', Ex H H' → Q (.bl true) H'
def sp_l_around_right (_ : PySem.W.Frag) (A : Ads) : Sp := fun vs H Q _ => ∃ (p l : Addr) (n : Net) (s : NetS) (as : List Addr) (i : Nat), vs = [.ref p, .ref l, vi n.many, vi i] ∧ NetX A H p n s ∧ H l = some (.lst (as.map V.ref)) ∧ TiesAt H as n.ties ∧ i < n.many ∧
  ∀ H', Ex H H' → Q (.bl true) H'
abbrev sp_law (K : PySem.W.Frag) (_ : Ads) : Sp := spLaw K
section
variable (K : PySem.W.Frag) (A : Ads)
theorem len_l_many : ∀ vs H Q E, sp_l_many K A vs H Q E → vs.length = (["_law_script"] : List Str).length := by
  rintro _ _ _ _ ⟨_, _, rfl, _⟩; rfl
theorem len_l_ties : ∀ vs H Q E, sp_l_ties K A vs H Q E → vs.length = (["_law_script", "_law_many_here"] : List Str).length := by
  rintro _ _ _ _ ⟨_, _, _, rfl, _⟩; rfl
theorem len_l_same_ties : ∀ vs H Q E, sp_l_same_ties K A vs H Q E → vs.length = (["_law_found", "_law_ties_here"] : List Str).length := by
  rintro _ _ _ _ ⟨_, _, _, _, _, rfl, _⟩; rfl
theorem len_l_around_right : ∀ vs H Q E, sp_l_around_right K A vs H Q E → vs.length = (["_law_net", "_law_ties_here", "_law_many_here", "_law_place"] : List Str).length := by
  rintro _ _ _ _ ⟨_, _, _, _, _, _, rfl, _⟩; rfl
theorem len_law : ∀ vs H Q E, sp_law K A vs H Q E → vs.length = (["_law_script"] : List Str).length := by
  rintro _ _ _ _ ⟨_, _, rfl, _⟩; rfl
end

def t_l_many (K : PySem.W.Frag) (A : Ads) : TS :=
  (tSeq (tAsg (tCall (sp_l_cell_at K A) [] E0 (tCons (tVar 0) (tCons (tC (.int 0)) tNil))) (gName 1))
    (tSeq (tIfS (tTest (tOp rEq (tOp rMod (tOp rFdiv (tVar 1) (tC (.int 7))) (tC (.int 8))) (tC (.int 1)))) (tRet (tOp rPlus (tC (.int 8)) (tOp rMod (tOp rFdiv (tVar 1) (tC (.int 56))) (tC (.int 17))))) tNext)
    (tRet (tOp rPlus (tC (.int 1)) (tOp rMod (tVar 1) (tC (.int 7)))))))

def t_l_ties (K : PySem.W.Frag) (A : Ads) : TS :=
  (tSeq (tIfS (tTest (tOp rEq (tVar 1) (tC (.int 1)))) (tRet (tLst tNil)) tNext)
    (tSeq (tAsg (tOp (rIxL K) (tLst (tCons (tC (.int 3)) (tCons (tC (.int 20)) (tCons (tC (.int 1000000000)) tNil)))) (tOp rMod (tCall (sp_l_cell_at K A) [] E0 (tCons (tVar 0) (tCons (tC (.int 1)) tNil))) (tC (.int 3)))) (gName 2))
    (tSeq (tAsg (tLc (iList K (tSl (rSlL K) (tVar 0) (tPart (tC (.int 4))) (tPart (tC (.int 54))))) (gName 6) tYes (tCall (sp_l_tie K A) [] E0 (tCons (tVar 6) (tCons (tVar 1) (tCons (tVar 2) tNil)))) [6]) (gName 3))
    (tSeq (tIfS (tTest (tOp rEq (tOp rMod (tOp rFdiv (tCall (sp_l_cell_at K A) [] E0 (tCons (tVar 0) (tCons (tC (.int 1)) tNil))) (tC (.int 3))) (tC (.int 4))) (tC (.int 0)))) (tSeq (tIfS (tTest (tOp rGt1 (tVar 1) (tC (.int 20)))) (tAsg (tSl (rSlL K) (tVar 3) tNoPart (tPart (tC (.int 24)))) (gName 3)) tNext)
    (tFor (iRng1 (tCons (tVar 1) tNil)) (gName 4) (tFor (iRng1 (tCons (tVar 4) tNil)) (gName 5) (tDrop (tBM K "list" rAppend (tVar 3) (tCons (tTup (tCons (tVar 5) (tCons (tVar 4) (tCons (tOp rPlus (tC (.int 1)) (tOp rMod (tOp rPlus (tCall (sp_l_cell_at K A) [] E0 (tCons (tVar 0) (tCons (tC (.int 2)) tNil))) (tOp rTimes (tVar 4) (tVar 5))) (tVar 2))) tNil)))) tNil)))))) tNext)
    (tRet (tVar 3))))))

def t_l_same_ties (K : PySem.W.Frag) (A : Ads) : TS :=
  (tSeq (tIfS (tOr (tNot (tB (tCB (rIsi K) (tCons (tVar 0) (tCons (tC (.ty "list")) tNil))))) (tTest (tOp rNe (tCB (rLenS K) (tCons (tVar 0) tNil)) (tCB (rLenS K) (tCons (tVar 1) tNil))))) (tRet (tC (.bl false))) tNext)
    (tSeq (tFor (iZip K (tCons (tVar 0) (tCons (tVar 1) tNil))) (gTup K 2 (gCons (gName 2) (gCons (gName 3) gNil))) (tSeq (tIfS (tOr (tNot (tB (tCB (rIsi K) (tCons (tVar 2) (tCons (tC (.ty "tuple")) tNil))))) (tOr (tTest (tOp rNe (tCB (rLenS K) (tCons (tVar 2) tNil)) (tC (.int 3)))) (tTest (tOp (rNeD K) (tVar 2) (tVar 3))))) (tRet (tC (.bl false))) tNext)
    (tIfS (tOr (tNot (tB (tCall (sp_l_whole K A) [] E0 (tCons (tOp (rIxT K) (tVar 2) (tC (.int 0))) tNil)))) (tOr (tNot (tB (tCall (sp_l_whole K A) [] E0 (tCons (tOp (rIxT K) (tVar 2) (tC (.int 1))) tNil)))) (tNot (tB (tCall (sp_l_whole K A) [] E0 (tCons (tOp (rIxT K) (tVar 2) (tC (.int 2))) tNil)))))) (tRet (tC (.bl false))) tNext)))
    (tRet (tC (.bl true)))))

def t_l_around_right (K : PySem.W.Frag) (A : Ads) : TS :=
  (tSeq (tAsg (tLst tNil) (gName 4))
    (tSeq (tFor (iRng1 (tCons (tVar 2) tNil)) (gName 5) (tIfS (tTest (tOp rNe (tVar 5) (tVar 3))) (tSeq (tAsg (tCall (sp_l_due K A) [] E0 (tCons (tVar 1) (tCons (tVar 3) (tCons (tVar 5) tNil)))) (gName 6))
    (tSeq (tAsg (tMeth A.C "between" (sp_between K A) [] E0 (tVar 0) (tCons (tVar 3) (tCons (tVar 5) tNil))) (gName 7))
    (tSeq (tIfS (tOr (tNot (tB (tCall (sp_l_whole K A) [] E0 (tCons (tVar 7) tNil)))) (tTest (tOp rNe (tVar 7) (tVar 6)))) (tRet (tC (.bl false))) tNext)
    (tIfS (tTest (tOp rGt1 (tVar 6) (tC (.int 0)))) (tDrop (tBM K "list" rAppend (tVar 4) (tCons (tVar 5) tNil))) tNext)))) tNext))
    (tSeq (tAsg (tMeth A.C "beside" (sp_beside K A) [] E0 (tVar 0) (tCons (tVar 3) tNil)) (gName 7))
    (tSeq (tDrop (tBM K "list" rAppend (tMeth A.C "beside" (sp_beside K A) [] E0 (tVar 0) (tCons (tOp rMod (tOp rPlus (tVar 3) (tC (.int 1))) (tVar 2)) tNil)) (tCons (tOp rMinus (tC (.int 0)) (tVar 2)) tNil)))
    (tSeq (tIfS (tOr (tNot (tB (tCB (rIsi K) (tCons (tVar 7) (tCons (tC (.ty "list")) tNil))))) (tTest (tOp (rNeD K) (tVar 7) (tVar 4)))) (tRet (tC (.bl false))) tNext)
    (tSeq (tFor (iList K (tVar 7)) (gName 5) (tIfS (tNot (tB (tCall (sp_l_whole K A) [] E0 (tCons (tVar 5) tNil)))) (tRet (tC (.bl false))) tNext))
    (tSeq (tDrop (tBM K "list" rAppend (tVar 7) (tCons (tVar 2) tNil)))
    (tRet (tOp (rEqD K) (tMeth A.C "beside" (sp_beside K A) [] E0 (tVar 0) (tCons (tVar 3) tNil)) (tVar 4))))))))))

def t_law (K : PySem.W.Frag) (A : Ads) : TS :=
  (tSeq (tAsg (tCall (sp_l_many K A) [] E0 (tCons (tVar 0) tNil)) (gName 1))
    (tSeq (tAsg (tCall (sp_l_ties K A) [] E0 (tCons (tVar 0) (tCons (tVar 1) tNil))) (gName 2))
    (tSeq (tAsg (tCB (rListS K) (tCons (tVar 2) tNil)) (gName 3))
    (tSeq (tAsg (tMake A.C (sp_init K A) [] E0 (tCons (tVar 1) (tCons (tVar 3) tNil))) (gName 4))
    (tSeq (tIfS (tTest (tOp (rNeD K) (tVar 3) (tVar 2))) (tRet (tC (.bl false))) tNext)
    (tSeq (tDrop (tBM K "list" rAppend (tVar 3) (tCons (tVar 3) tNil)))
    (tSeq (tAsg (tMeth A.C "ties" (sp_ties K A) [] E0 (tVar 4) tNil) (gName 5))
    (tSeq (tDrop (tBM K "list" rAppend (tMeth A.C "ties" (sp_ties K A) [] E0 (tVar 4) tNil) (tCons (tC (.int 8)) tNil)))
    (tSeq (tIfS (tOr (tNot (tB (tCall (sp_l_same_ties K A) [] E0 (tCons (tVar 5) (tCons (tVar 2) tNil))))) (tOr (tNot (tB (tCall (sp_l_whole K A) [] E0 (tCons (tFld K (tVar 4) "many") tNil)))) (tTest (tOp rNe (tFld K (tVar 4) "many") (tVar 1))))) (tRet (tC (.bl false))) tNext)
    (tSeq (tDrop (tBM K "list" rAppend (tVar 5) (tCons (tC (.int 7)) tNil)))
    (tSeq (tFor (iList K (tLst (tCons (tC (.int 0)) (tCons (tOp rFdiv (tVar 1) (tC (.int 2))) (tCons (tOp rMod (tCall (sp_l_cell_at K A) [] E0 (tCons (tVar 0) (tCons (tC (.int 2)) tNil))) (tVar 1)) tNil))))) (gName 6) (tIfS (tNot (tB (tCall (sp_l_around_right K A) [] E0 (tCons (tVar 4) (tCons (tVar 2) (tCons (tVar 1) (tCons (tVar 6) tNil))))))) (tRet (tC (.bl false))) tNext))
    (tSeq (tAsg (tCall (sp_l_cell_at K A) [] E0 (tCons (tVar 0) (tCons (tC (.int 3)) tNil))) (gName 7))
    (tSeq (tAsg (tLst tNil) (gName 8))
    (tSeq (tAsg (tLst tNil) (gName 9))
    (tSeq (tFor (iRng1 (tCons (tVar 1) tNil)) (gName 6) (tSeq (tIfS (tTest (tOp rEq (tOp rMod (tVar 7) (tC (.int 3))) (tC (.int 1)))) (tDrop (tBM K "list" rAppend (tVar 8) (tCons (tVar 6) tNil))) (tDrop (tBM K "list" rAppend (tVar 9) (tCons (tVar 6) tNil))))
    (tAsg (tOp rFdiv (tVar 7) (tC (.int 3))) (gName 7))))
    (tSeq (tIfS (tTest (tOp rEq (tOp rMod (tCall (sp_l_cell_at K A) [] E0 (tCons (tVar 0) (tCons (tC (.int 3)) tNil))) (tC (.int 2))) (tC (.int 1)))) (tDrop (tBM0 K "list" rReverse (tVar 8))) tNext)
    (tSeq (tAsg (tCB (rSum K) (tCons (tLc (iList K (tVar 2)) (gName 14) (tTest (tOp rNe (tOp (rIn K false) (tOp (rIxT K) (tVar 14) (tC (.int 0))) (tVar 8)) (tOp (rIn K false) (tOp (rIxT K) (tVar 14) (tC (.int 1))) (tVar 8)))) (tOp (rIxT K) (tVar 14) (tC (.int 2))) [14]) tNil)) (gName 10))
    (tSeq (tAsg (tLst (tCons (tCB (rListS K) (tCons (tVar 8) tNil)) (tCons (tCB (rListS K) (tCons (tVar 9) tNil)) tNil))) (gName 11))
    (tSeq (tAsg (tLst (tCons (tMeth A.C "price" (sp_price K A) [] E0 (tVar 4) (tCons (tVar 8) tNil)) (tCons (tMeth A.C "price" (sp_price K A) [] E0 (tVar 4) (tCons (tVar 9) tNil)) (tCons (tMeth A.C "price" (sp_price K A) [] E0 (tVar 4) (tCons (tLst tNil) tNil)) (tCons (tMeth A.C "price" (sp_price K A) [] E0 (tVar 4) (tCons (tLstRg (tRg1 (tVar 1))) tNil)) tNil))))) (gName 12))
    (tSeq (tIfS (tTest (tOp (rNeD K) (tLst (tCons (tVar 8) (tCons (tVar 9) tNil))) (tVar 11))) (tRet (tC (.bl false))) tNext)
    (tSeq (tFor (iList K (tVar 12)) (gName 13) (tIfS (tNot (tB (tCall (sp_l_whole K A) [] E0 (tCons (tVar 13) tNil)))) (tRet (tC (.bl false))) tNext))
    (tRet (tAndV (tOp (rEqD K) (tVar 12) (tLst (tCons (tVar 10) (tCons (tVar 10) (tCons (tC (.int 0)) (tCons (tC (.int 0)) tNil)))))) (tCall (sp_l_same_ties K A) [] E0 (tCons (tMeth A.C "ties" (sp_ties K A) [] E0 (tVar 4) tNil) (tCons (tVar 2) tNil))))))))))))))))))))))))))

section
variable {K : PySem.W.Frag} {A : Ads}
theorem pure_l_many (vs : List V) (H : Hp) (Q : VK) (E : XK) (h : sp_l_many K A vs H Q E) : t_l_many K A { nx := fun _ H' => Q .non H', rt := Q } (start ["_law_script", "_law_first"] vs) H := by
  obtain ⟨a, ns, rfl, hs, k⟩ := h
  unfold t_l_many
  have hc := spv_l_cell_at (K := K) (A := A) (k := 0) hs
  refine q_asg (v := .int (cellAt ns 0)) (ev_call (vs := [.ref a, vi 0]) (ea_cons (ev_var rfl) (ea_cons ev_c ea_nil)) hc) fun H1 e1 => ?_
  show tSeq _ _ _ [some (.ref a), some (.int (cellAt ns 0))] H1
  generalize cellAt ns 0 = f
  refine q_when (by walk_at "ev") (fun hb H2 e2 => ?_) (fun hb H2 e2 => ?_)
  · have h1 := Int.emod_nonneg (f / 56) (show (17 : Int) ≠ 0 by omega)
    have h2 := Int.emod_lt_of_pos (f / 56) (show (0 : Int) < 17 by omega)
    refine s_ret (v := .int (8 + f / 56 % 17)) (by walk_at "ev") fun H3 e3 => ?_
    have := k (8 + f / 56 % 17).toNat (by omega) (by omega) H3 ((e1.trans e2).trans e3)
    unfold vi at this
    rw [show (((8 + f / 56 % 17).toNat : Nat) : Int) = 8 + f / 56 % 17 by omega] at this
    exact this
  · have h1 := Int.emod_nonneg f (show (7 : Int) ≠ 0 by omega)
    have h2 := Int.emod_lt_of_pos f (show (0 : Int) < 7 by omega)
    refine s_ret (v := .int (1 + f % 7)) (by walk_at "ev") fun H3 e3 => ?_
    have := k (1 + f % 7).toNat (by omega) (by omega) H3 ((e1.trans e2).trans e3)
    unfold vi at this
    rw [show (((1 + f % 7).toNat : Nat) : Int) = 1 + f % 7 by omega] at this
    exact this
def tri : Nat → Nat
  | 0 => 0
  | n + 1 => tri n + n
theorem tri_20 : ∀ n, n ≤ 20 → tri n ≤ 190 := by decide
theorem tri_24 : ∀ n, n ≤ 24 → tri n ≤ 276 := by decide
theorem pure_l_ties (vs : List V) (H : Hp) (Q : VK) (E : XK) (h : sp_l_ties K A vs H Q E) : t_l_ties K A { nx := fun _ H' => Q .non H', rt := Q } (start ["_law_script", "_law_many_here", "_law_top", "_law_ties_here", "_law_one", "_law_other", "_law_cell"] vs) H := by
  obtain ⟨a, ns, m, rfl, hs, hlen, m1, m2, k⟩ := h
  unfold t_l_ties
  show tSeq _ _ _ [some (.ref a), some (.int (m : Int)), none, none, none, none, none] H
  refine q_when (b := decide ((m : Int) = 1)) (by walk_at "ev") (fun hb H1 e1 => ?_) (fun hb H1 e1 => ?_)
  · refine s_retL (xs := []) (el_lst ea_nil (by decide)) fun q H2 hq e2 h2 => k q [] [] H2 (fresh_back e1 hq) (e1.trans e2) h2 .nil (by simp) (by simp)
  have hm : 2 ≤ m := by
    have := of_decide_eq_false hb
    omega
  have hs1 := ex_l e1 hs
  have hc1 := spv_l_cell_at (K := K) (A := A) (k := 1) hs1
  obtain ⟨top, t1, t2, htop⟩ := ev_top (K := K) (σ := [some (.ref a), some (.int (m : Int)), none, none, none, none, none]) (H := H1) (tb := tCall (sp_l_cell_at K A) [] E0 (tCons (tVar 0) (tCons (tC (.int 1)) tNil))) (ev_call (vs := [.ref a, vi 1]) (ea_cons (ev_var rfl) (ea_cons ev_c ea_nil)) hc1)
  refine q_asg htop fun H2 e2 => ?_
  show tSeq _ _ _ [some (.ref a), some (.int (m : Int)), some (.int top), none, none, none, none] H2
  have hs2 := ex_l e2 hs1
  obtain ⟨cs, hcs, hcl, hcl2⟩ := cutV_ints ns 4 54
  refine q_asg0 (c_tiesL (m := m) (cells := cs) ?_ (by omega) (fun _ => rfl) (fun c H3 Q' e3 kk => c_l_tie (K := K) (A := A) (by walk_at "ev") hm m2 t1 t2 kk) fun l as ts H3 hl T hn => ?_)
  · rw [← hcs]
    exact el_sl (ev_var rfl) (eo_some ev_c) (eo_some ev_c) hs2
  show tSeq _ _ _ [some (.ref a), some (.int (m : Int)), some (.int top), some (.ref l), none, none, none] H3
  have hs3 := ex_l T.ex hs2
  have hc3 := spv_l_cell_at (K := K) (A := A) (k := 1) hs3
  -- the end, from any such list
  have fin : ∀ (l' : Addr) (as' : List Addr) (ts' : List Tie) (H' : Hp) (w4 w5 : Option V), TL H2 H' l' m as' ts' → ts'.length ≤ 300 → tRet (tVar 3) { nx := fun _ H' => Q .non H', rt := Q } [some (.ref a), some (.int (m : Int)), some (.int top), some (.ref l'), w4, w5, none] H' := fun l' as' ts' H' w4 w5 T' hn' => by
    refine s_ret (v := .ref l') (ev_var rfl) fun H4 e4 => ?_
    have T'' := T'.mono e4
    exact k l' as' ts' H4 (fresh_back (e1.trans e2) T''.new) ((e1.trans e2).trans T''.ex) T''.at_ T''.ta T''.ok hn'
  -- the two loops
  have loops : ∀ (D : Ends) (l : Addr) (as : List Addr) (ts : List Tie) (H3 : Hp), TL H2 H3 l m as ts → ts.length + tri m ≤ 300 → (∀ (as' : List Addr) (ts' : List Tie) (H' : Hp) (w4 w5 : Option V), TL H2 H' l m as' ts' → ts'.length ≤ 300 → D.nx [some (.ref a), some (.int (m : Int)), some (.int top), some (.ref l), w4, w5, none] H') →
      tFor (iRng1 (tCons (tVar 1) tNil)) (gName 4) (tFor (iRng1 (tCons (tVar 4) tNil)) (gName 5) (tDrop (tBM K "list" rAppend (tVar 3) (tCons (tTup (tCons (tVar 5) (tCons (tVar 4) (tCons (tOp rPlus (tC (.int 1)) (tOp rMod (tOp rPlus (tCall (sp_l_cell_at K A) [] E0 (tCons (tVar 0) (tCons (tC (.int 2)) tNil))) (tOp rTimes (tVar 4) (tVar 5))) (tVar 2))) tNil)))) tNil)))) D
        [some (.ref a), some (.int (m : Int)), some (.int top), some (.ref l), none, none, none] H3 := by
    intro D l as ts H3 T hn kk
    refine s_forR1 (n := (m : Int)) (ea_cons (ev_var rfl) ea_nil) (by omega) (fun i σ G => ∃ (as' : List Addr) (ts' : List Tie) (w4 w5 : Option V), σ = [some (.ref a), some (.int (m : Int)), some (.int top), some (.ref l), w4, w5, none] ∧ TL H2 G l m as' ts' ∧ ts'.length = ts.length + tri i) (fun G e => ⟨as, ts, none, none, rfl, T.mono e, rfl⟩) ?_ ?_
    · rintro i σ G hi ⟨as', ts', w4, w5, rfl, T', hn'⟩
      show tFor _ _ _ _ [some (.ref a), some (.int (m : Int)), some (.int top), some (.ref l), some (.int (i : Int)), w5, none] G
      refine s_forR1 (n := (i : Int)) (ea_cons (ev_var rfl) ea_nil) (by omega) (fun j σ G => ∃ (as' : List Addr) (ts' : List Tie) (w5 : Option V), σ = [some (.ref a), some (.int (m : Int)), some (.int top), some (.ref l), some (.int (i : Int)), w5, none] ∧ TL H2 G l m as' ts' ∧ ts'.length = ts.length + tri i + j) (fun G e => ⟨as', ts', w5, rfl, T'.mono e, by omega⟩) ?_ ?_
      · rintro j σ G hj ⟨as', ts', w5, rfl, T', hn'⟩
        show tDrop _ _ [some (.ref a), some (.int (m : Int)), some (.int top), some (.ref l), some (.int (i : Int)), some (.int (j : Int)), none] G
        have hs4 := ex_l T'.ex hs2
        have hc4 := spv_l_cell_at (K := K) (A := A) (k := 2) hs4
        have hi' : tri (i + 1) ≤ tri m := by
          have hmono : ∀ a b, a ≤ b → tri a ≤ tri b := by
            intro a b hab
            induction hab with
            | refl => exact Nat.le_refl _
            | step _ ih => exact Nat.le_trans ih (by simp [tri])
          exact hmono _ _ (by omega)
        have hp := Int.emod_nonneg (cellAt ns 2 + (i : Int) * (j : Int)) (show top ≠ 0 by omega)
        have hp' := Int.emod_lt_of_pos (cellAt ns 2 + (i : Int) * (j : Int)) (show 0 < top by omega)
        refine s_appU (l := l) (xs := as'.map V.ref) (ys := tieV (j, i, 1 + (cellAt ns 2 + (i : Int) * (j : Int)) % top)) T'.at_ (ev_var rfl) ?_ ?_ fun q G1 hq e1 h1 => ?_
        · refine eu_tup (ea_cons (ev_var rfl) (ea_cons (ev_var rfl) (ea_cons (ev_op ev_c (ev_op (x := .int (cellAt ns 2 + (i : Int) * (j : Int))) (y := .int top) (ev_op (x := .int (cellAt ns 2)) (y := .int ((i : Int) * (j : Int))) ?_ (by walk_at "ev") rv_plus) (ev_var rfl) (rv_mod (by omega))) rv_plus) ea_nil))) (by show 3 ≤ 100000; omega)
          exact ev_call (vs := [.ref a, vi 2]) (ea_cons (ev_var rfl) (ea_cons ev_c ea_nil)) hc4
        · have h3 : tri (i + 1) = tri i + i := rfl
          rw [List.length_map, T'.len]; omega
        · refine ⟨as' ++ [q], ts' ++ [_], _, rfl, (T'.mono e1).add h1 ⟨by show j < m; omega, by show i < m; omega, by show j ≠ i; omega, by show 1 ≤ 1 + (cellAt ns 2 + (i : Int) * (j : Int)) % top; omega, by show 1 + (cellAt ns 2 + (i : Int) * (j : Int)) % top ≤ 1000000000; omega⟩, by rw [List.length_append, List.length_singleton]; omega⟩
      · rintro σ G ⟨as', ts', w5, rfl, T', hn'⟩
        refine ⟨as', ts', _, _, rfl, T', ?_⟩
        have h3 : tri (i + 1) = tri i + i := rfl
        omega
    · rintro σ G ⟨as', ts', w4, w5, rfl, T', hn'⟩
      rw [show (m : Int).toNat = m by omega] at hn'
      exact kk as' ts' G w4 w5 T' (by omega)
  refine q_when (ev_call (vs := [.ref a, vi 1]) (ea_cons (ev_var rfl) (ea_cons ev_c ea_nil)) hc3 |> fun q => et_test (ev_op (ev_op (ev_op q ev_c (rv_fdiv ⟨by omega, by omega⟩)) ev_c (rv_mod (by omega))) ev_c rv_eqI)) (fun hb H4 e4 => ?_) (fun hb H4 e4 => fin l as ts H4 _ _ (T.mono e4) (by omega))
  have T4 := T.mono e4
  by_cases h20 : 20 < m
  · refine q_yes (et_is (b := true) (by walk_at "ev") (decide_eq_true (by omega))) fun H5 e5 => ?_
    have T5 := T4.mono e5
    refine s_asgL (xs := (as.take 24).map V.ref) ?_ fun l' H6 hl' e6 h6 => ?_
    · have := cutV_take (as.map V.ref) 24
      rw [← List.map_take] at this
      rw [← this]
      exact el_sl (ev_var rfl) eo_none (eo_some ev_c) (sq_of T5.at_)
    have T6 : TL H2 H6 l' m (as.take 24) (ts.take 24) := by
      have T5' := T5.mono e6
      refine ⟨fresh_back T5.ex hl', T5'.ex, h6, ?_, fun u hu => T5'.ok u (List.mem_of_mem_take hu)⟩
      have key : ∀ (n : Nat) {as : List Addr} {ts : List Tie}, TiesAt H6 as ts → TiesAt H6 (as.take n) (ts.take n) := by
        intro n
        induction n with
        | zero => intro as ts _; exact .nil
        | succ n ih => intro as ts h; cases h with
          | nil => exact .nil
          | cons h t => exact .cons h (ih t)
      exact key 24 T5'.ta
    have := tri_24 m m2
    exact loops _ l' _ _ H6 T6 (by rw [List.length_take]; omega) fun as' ts' H' w4 w5 T' hn' => fin l' as' ts' H' w4 w5 T' hn'
  · refine q_skip (et_is (b := false) (by walk_at "ev") (decide_eq_false (by omega))) fun H5 e5 => ?_
    have := tri_20 m (by omega)
    exact loops _ l as ts H5 (T4.mono e5) (by omega) fun as' ts' H' w4 w5 T' hn' => fin l as' ts' H' w4 w5 T' hn'
end

section
variable {K : PySem.W.Frag} {A : Ads}
theorem list_at_ref {as : List Addr} {i : Nat} {x : V} (h : (as.map V.ref)[i]? = some x) : ∃ a, as[i]? = some a ∧ x = .ref a := by
  rw [List.getElem?_map] at h
  cases ea : as[i]? with
  | none => rw [ea] at h; cases h
  | some a => rw [ea] at h; exact ⟨a, rfl, (Option.some.inj h).symm⟩
theorem TiesAt.at_ {H : Hp} {as : List Addr} {ts : List Tie} {i : Nat} {a : Addr} (h : TiesAt H as ts) (ha : as[i]? = some a) : ∃ t, ts[i]? = some t ∧ H a = some (.tup (tieV t)) := by
  have hl := Paired.length h
  have hi := (List.getElem?_eq_some_iff.mp ha).1
  have et : ts[i]? = some (ts[i]'(by omega)) := List.getElem?_eq_getElem _
  exact ⟨_, et, paired_get (R := fun a t => H a = some (.tup (tieV t))) h ha et⟩
theorem pure_l_same_ties (vs : List V) (H : Hp) (Q : VK) (E : XK) (h : sp_l_same_ties K A vs H Q E) : t_l_same_ties K A { nx := fun _ H' => Q .non H', rt := Q } (start ["_law_found", "_law_ties_here", "_law_one", "_law_tie_here"] vs) H := by
  obtain ⟨l1, l2, as1, as2, ts, rfl, h1, h2, ta1, ta2, k⟩ := h
  unfold t_l_same_ties
  have n1 : (as1.map V.ref).length = ts.length := by rw [List.length_map]; exact Paired.length ta1
  have n2 : (as2.map V.ref).length = ts.length := by rw [List.length_map]; exact Paired.length ta2
  refine q_skip (et_is (b := false) (et_or (a := false) (et_not (a := true) (by walk_at "ev")) fun _ => et_test (ev_op (x := .int ((as1.map V.ref).length : Int)) (y := .int ((as2.map V.ref).length : Int)) (by walk_at "ev") (by walk_at "ev") rv_neI)) ?_) fun H1 e1 => ?_
  · rw [n1, n2]; simp
  refine q_forZ (a := l1) (b := l2) (xs := as1.map V.ref) (ys := as2.map V.ref) (by walk_at "ev") (sq_of (e1 _ _ h1)) (sq_of (e1 _ _ h2)) (by rw [n1, n2]) (fun i σ G => ∃ w2 w3, σ = [some (.ref l1), some (.ref l2), w2, w3] ∧ Ex H G) (fun H2 e2 => ⟨none, none, rfl, e1.trans e2⟩) (fun i σ G ⟨_, _, _, e⟩ => ⟨sq_of (e _ _ h1), sq_of (e _ _ h2)⟩) ?_ ?_
  · rintro i x y T σ G hx hy ⟨w2, w3, rfl, e⟩ hT
    obtain ⟨a1, ea1, rfl⟩ := list_at_ref hx
    obtain ⟨a2, ea2, rfl⟩ := list_at_ref hy
    obtain ⟨t, et, hA1⟩ := ta1.at_ ea1
    obtain ⟨t', et', hA2⟩ := ta2.at_ ea2
    rw [et] at et'
    have := Option.some.inj et'
    subst this
    refine ⟨T, _, rfl, st_of upd_same, rfl, _, _, rfl, _, _, rfl, rfl, ?_⟩
    have e' : Ex H (upd G T (.tup [.ref a1, .ref a2])) := e.trans (Ex.new hT)
    show tSeq _ _ _ [some (.ref l1), some (.ref l2), some (.ref a1), some (.ref a2)] (upd G T (.tup [.ref a1, .ref a2]))
    generalize upd G T (.tup [.ref a1, .ref a2]) = G2 at e' ⊢
    have hB1 := e' _ _ hA1
    have hB2 := e' _ _ hA2
    refine q_skip (et_is (b := false) (et_or (a := false) (et_not (a := true) (by walk_at "ev")) fun _ => et_or (et_test (ev_op (x := .int ((tieV t).length : Int)) (y := .int 3) (by walk_at "ev") ev_c rv_neI)) fun _ => et_test (ev_op (x := .ref a1) (y := .ref a2) (ev_var rfl) (ev_var rfl) (rv_neD (dp_tie hB1) (dp_tie hB2) (shaped_tie t) (shaped_tie t)))) ?_) fun G3 e3 => ?_
    · rw [eqv_self _ (shaped_tie t)]; rfl
    have hC1 := e3 _ _ hB1
    have hw : ∀ i : Int, SpV (sp_l_whole K A) [.int i] G3 (.bl true) := fun i => spv_l_whole kd_int
    refine s_no (et_or (a := false) (et_not (a := true) (et_B (ev_call (vs := [.int (t.1 : Int)]) (ea_cons (ev_op (x := .ref a1) (y := .int 0) (ev_var rfl) ev_c (rv_ixT (st_of hC1) rfl)) ea_nil) (hw _)))) fun _ => et_or (a := false) (et_not (a := true) (et_B (ev_call (vs := [.int (t.2.1 : Int)]) (ea_cons (ev_op (x := .ref a1) (y := .int 1) (ev_var rfl) ev_c (rv_ixT (st_of hC1) rfl)) ea_nil) (hw _)))) fun _ =>
      et_not (a := true) (et_B (ev_call (vs := [.int t.2.2]) (ea_cons (ev_op (x := .ref a1) (y := .int 2) (ev_var rfl) ev_c (rv_ixT (st_of hC1) rfl)) ea_nil) (hw _)))) fun G4 e4 => ?_
    exact ⟨_, _, rfl, (e'.trans e3).trans e4⟩
  · rintro σ G ⟨w2, w3, rfl, e⟩
    exact s_ret ev_c fun H2 e2 => k _ (e.trans e2)
end

section
variable {K : PySem.W.Frag} {A : Ads} {σ : L2.St} {H H' : Hp} {D : Ends} {tz : TS} {v : V} {ta te : TE}
theorem q_appN {xs : List V} (ha : EvL ta σ H xs) (h : Ev te σ H v) (hz : xs.length < 100000) (k : ∀ H1, Ex H H1 → tz D σ H1) : tSeq (tDrop (tBM K "list" rAppend ta (tCons te tNil))) tz D σ H :=
  ha H (Ex.refl H) _ fun p H1 hp e1 h1 => ⟨Or.inl ⟨rfl, xs, sq_of h1⟩, h H1 e1 _ fun H2 e2 => ⟨p, xs, v, rfl, rfl, e2 p _ h1, sz_lt hz, k _ ((e1.trans e2).mut hp)⟩⟩
variable {p : Addr} {n : Net} {s : NetS}
theorem isTwo_vi {m i j : Nat} (h : i < m) (h' : j < m) (hij : i ≠ j) : isTwo (m : Int) (vi i) (vi j) = true := by
  unfold isTwo
  rw [isPl_vi h, isPl_vi h', decide_eq_false fun q => hij (vi_inj q)]
  rfl
theorem spv_between {i j : Nat} (N : NetX A H p n s) (h : i < n.many) (h' : j < n.many) (hij : i ≠ j) : SpV (sp_between K A) [.ref p, vi i, vi j] H (.int (costOf n.ties i j)) := fun H1 e Q q E =>
  ⟨p, n, s, vi i, vi j, rfl, N.mono e, kd_int, kd_int, fun i' j' hi hj _ _ _ H2 e2 => by
    rw [← vi_inj hi, ← vi_inj hj]
    exact q H2 e2, fun hn => by
    rw [isTwo_vi h h' hij] at hn
    cases hn⟩
theorem spl_beside {i : Nat} (N : NetX A H p n s) (h : i < n.many) : SpL (sp_beside K A) [.ref p, vi i] H ((besideOf n.ties i).map V.int) := fun H1 e Q q E =>
  ⟨p, n, s, vi i, rfl, N.mono e, kd_int, fun i' hi _ l H2 hl e2 h2 => q l H2 hl e2 (by rw [vi_inj hi]; exact h2), fun hn => by
    rw [isPl_vi h] at hn
    cases hn⟩
theorem spl_ties (N : NetX A H p n s) : SpL (sp_ties K A) [.ref p] H (s.as.map V.ref) := fun H1 e Q q E => ⟨p, n, s, rfl, N.mono e, fun l H2 hl e2 h2 => q l H2 hl e2 h2⟩
theorem map_vi_inj : ∀ {a b : List Nat}, a.map vi = b.map vi → a = b
  | [], [], _ => rfl
  | [], _ :: _, h => nomatch h
  | _ :: _, [], h => nomatch h
  | x :: a, y :: b, h => by
    have h := List.cons.inj h
    rw [vi_inj h.1, map_vi_inj h.2]
theorem spv_price {l : Addr} {side : List Nat} (N : NetX A H p n s) (h : H l = some (.lst (side.map vi))) (hn : side.Nodup) (hs : ∀ i ∈ side, i < n.many) : SpV (sp_price K A) [.ref p, .ref l] H (.int (priceOf n.ties side)) := fun H1 e Q q E =>
  ⟨p, n, s, .ref l, rfl, N.mono e, .inl ⟨l, _, rfl, e _ _ h, by
    rw [List.length_map]
    have h1 := List.Nodup.length_le_of_subset hn (l₂ := List.range n.many) fun i hi => List.mem_range.mpr (hs i hi)
    rw [List.length_range] at h1
    have := N.ok.hi
    omega, fun x hx => by
    obtain ⟨i, _, rfl⟩ := List.mem_map.mp hx
    exact kd_int, fun side' hh _ _ H2 e2 => by
    have : side = side' := map_vi_inj hh
    rw [← this]
    exact q H2 e2, fun hb => absurd ⟨side, rfl, hn, hs⟩ hb⟩⟩
end

theorem dueOf_yes {ts : List Tie} {i j : Nat} (h : j ≠ i) (hc : 0 < costOf ts i j) : dueOf (j + 1) ts i = dueOf j ts i ++ [(j : Int)] := by
  unfold dueOf
  rw [List.range_succ, List.filter_append, List.map_append]
  congr 1
  rw [List.filter_cons_of_pos (by rw [decide_eq_true h, decide_eq_true hc]; rfl)]
  rfl
theorem dueOf_no {ts : List Tie} {i j : Nat} (h : ¬ (j ≠ i ∧ 0 < costOf ts i j)) : dueOf (j + 1) ts i = dueOf j ts i := by
  unfold dueOf
  rw [List.range_succ, List.filter_append, List.filter_cons_of_neg (by rw [Bool.and_eq_true, decide_eq_true_eq, decide_eq_true_eq]; exact h)]
  simp
theorem dueOf_len (n : Nat) (ts : List Tie) (i : Nat) : (dueOf n ts i).length ≤ n := by
  unfold dueOf
  rw [List.length_map]
  exact Nat.le_trans (List.length_filter_le _ _) (by rw [List.length_range]; exact Nat.le_refl _)
section
variable {K : PySem.W.Frag} {A : Ads}
theorem pure_l_around_right (vs : List V) (H : Hp) (Q : VK) (E : XK) (h : sp_l_around_right K A vs H Q E) : t_l_around_right K A { nx := fun _ H' => Q .non H', rt := Q } (start ["_law_net", "_law_ties_here", "_law_many_here", "_law_place", "_law_due_here", "_law_other", "_law_price", "_law_found"] vs) H := by
  obtain ⟨p, l, n, s, as, i, rfl, N, hl, ta, hi, k⟩ := h
  have hm := N.ok.hi
  unfold t_l_around_right
  show tSeq _ _ _ [some (.ref p), some (.ref l), some (vi n.many), some (vi i), none, none, none, none] H
  refine q_asgL (xs := []) (el_lst ea_nil (by decide)) fun d H1 hd e1 h1 => ?_
  show tSeq _ _ _ [some (.ref p), some (.ref l), some (vi n.many), some (vi i), some (.ref d), none, none, none] H1
  refine q_forR1 (n := (n.many : Int)) (ea_cons (ev_var rfl) ea_nil) (by omega) (fun j σ G => ∃ w5 w6 w7, σ = [some (.ref p), some (.ref l), some (vi n.many), some (vi i), some (.ref d), w5, w6, w7] ∧ Ex H G ∧ G d = some (.lst ((dueOf j n.ties i).map V.int))) (fun H2 e2 => ⟨none, none, none, rfl, e1.trans e2, e2 _ _ h1⟩) ?_ ?_
  · rintro j σ G hj ⟨w5, w6, w7, rfl, e, hG⟩
    show tIfS _ _ _ _ [some (.ref p), some (.ref l), some (vi n.many), some (vi i), some (.ref d), some (vi j), w6, w7] G
    refine s_when (b := decide (j ≠ i)) (et_is (et_test (ev_op (x := .int (j : Int)) (y := .int (i : Int)) (ev_var rfl) (ev_var rfl) rv_neI)) ?_) (fun hb G1 e1 => ?_) (fun hb G1 e1 => ?_)
    · by_cases q : j = i
      · subst q; simp
      · rw [decide_eq_false (show ¬ (j : Int) = (i : Int) by omega), decide_eq_true q]; rfl
    · have hji := of_decide_eq_true hb
      have e' := e.trans e1
      have hG1 := e1 _ _ hG
      have ta1 := ta.mono e'
      have hl1 := e' _ _ hl
      have N1 := N.mono e'
      have hdue : SpV (sp_l_due K A) [.ref l, vi i, vi j] G1 (.int (costOf n.ties i j)) := spv_l_due hl1 ta1 (Ne.symm hji)
      refine q_asg (ev_call (vs := [.ref l, vi i, vi j]) (ea_cons (ev_var rfl) (ea_cons (ev_var rfl) (ea_cons (ev_var rfl) ea_nil))) hdue) fun G2 e2 => ?_
      show tSeq _ _ _ [some (.ref p), some (.ref l), some (vi n.many), some (vi i), some (.ref d), some (vi j), some (.int (costOf n.ties i j)), w7] G2
      have N2 := N1.mono e2
      have hbet : SpV (sp_between K A) [.ref p, vi i, vi j] G2 (.int (costOf n.ties i j)) := spv_between N2 hi (by omega) (Ne.symm hji)
      refine q_asg (ev_meth (vs := [vi i, vi j]) (ev_var rfl) N2.ob (by walk_at "lk") (ea_cons (ev_var rfl) (ea_cons (ev_var rfl) ea_nil)) hbet) fun G3 e3 => ?_
      show tSeq _ _ _ [some (.ref p), some (.ref l), some (vi n.many), some (vi i), some (.ref d), some (vi j), some (.int (costOf n.ties i j)), some (.int (costOf n.ties i j))] G3
      have hw : SpV (sp_l_whole K A) [.int (costOf n.ties i j)] G3 (.bl true) := spv_l_whole kd_int
      refine q_skip (et_is (b := false) (et_or (a := false) (et_not (a := true) (et_B (ev_call (vs := [.int (costOf n.ties i j)]) (ea_cons (ev_var rfl) ea_nil) hw))) fun _ => et_test (ev_op (ev_var rfl) (ev_var rfl) rv_neI)) (by rw [decide_eq_true (rfl : costOf n.ties i j = costOf n.ties i j)]; rfl)) fun G4 e4 => ?_
      have eG : Ex G1 G4 := (e2.trans e3).trans e4
      have hdl := dueOf_len j n.ties i
      refine s_when (b := decide (0 < costOf n.ties i j)) (et_test (ev_op (ev_var rfl) ev_c rv_gt)) (fun hc G5 e5 => ?_) (fun hc G5 e5 => ?_)
      · refine s_app (eG.trans e5 _ _ hG1) (ev_var rfl) (ev_var rfl) (by rw [List.length_map]; omega) fun G6 e6 => ?_
        refine ⟨_, _, _, rfl, ?_, ?_⟩
        · exact (((e'.trans eG).trans e5).trans e6).mut hd
        · rw [dueOf_yes hji (of_decide_eq_true hc), List.map_append]
          exact upd_same
      · refine ⟨_, _, _, rfl, (e'.trans eG).trans e5, ?_⟩
        rw [dueOf_no fun q => of_decide_eq_false hc q.2]
        exact eG.trans e5 _ _ hG1
    · refine ⟨_, _, _, rfl, e.trans e1, ?_⟩
      rw [dueOf_no fun q => of_decide_eq_false hb q.1]
      exact e1 _ _ hG
  · rintro σ G ⟨w5, w6, w7, rfl, e, hG⟩
    rw [show (n.many : Int).toNat = n.many by omega, ← besideOf_eq N.ok.all] at hG
    have hbl : (besideOf n.ties i).length ≤ 24 := by
      rw [besideOf_eq N.ok.all]
      have := dueOf_len n.many n.ties i
      omega
    have NG := N.mono e
    have hb : ∀ G, Ex H G → SpL (sp_beside K A) [.ref p, vi i] G ((besideOf n.ties i).map V.int) := fun G e => spl_beside (N.mono e) hi
    refine q_asgL (el_meth (vs := [vi i]) (ev_var rfl) NG.ob (by walk_at "lk") (ea_cons (ev_var rfl) ea_nil) (hb G e)) fun f G1 hf e1 h1 => ?_
    show tSeq _ _ _ [some (.ref p), some (.ref l), some (vi n.many), some (vi i), some (.ref d), w5, w6, some (.ref f)] G1
    have hG1 := e1 _ _ hG
    have N1 := NG.mono e1
    have hmod : (((i : Int) + 1) % (n.many : Int)) = (((i + 1) % n.many : Nat) : Int) := by simp
    have hlt : (i + 1) % n.many < n.many := Nat.mod_lt _ (by omega)
    refine q_appN (v := .int (0 - (n.many : Int))) (el_meth (vs := [vi ((i + 1) % n.many)]) (ev_var rfl) N1.ob (by walk_at "lk") (ea_cons (ev_is (ev_op (x := .int ((i : Int) + 1)) (y := .int (n.many : Int)) (ev_op (x := .int (i : Int)) (ev_var rfl) ev_c rv_plus) (ev_var rfl) (rv_mod (by omega))) (by rw [hmod]; rfl)) ea_nil) (spl_beside N1 hlt)) (ev_op (y := .int (n.many : Int)) ev_c (ev_var rfl) rv_minus) ?_ fun G2 e2 => ?_
    · rw [List.length_map, besideOf_eq N.ok.all]
      have := dueOf_len n.many n.ties ((i + 1) % n.many)
      omega
    have hG2 := e2 _ _ hG1
    have h2 := e2 _ _ h1
    refine q_skip (et_is (b := false) (et_or (a := false) (et_not (a := true) (by walk_at "ev")) fun _ => et_test (ev_op (x := .ref f) (y := .ref d) (ev_var rfl) (ev_var rfl) (rv_neD (dp_ints (sq_of h2)) (dp_ints (sq_of hG2)) (shaped_ints _) (shaped_ints _)))) ?_) fun G3 e3 => ?_
    · rw [eqv_ints, decide_eq_true rfl]; rfl
    have e03 : Ex H G3 := ((e.trans e1).trans e2).trans e3
    refine q_forLn (a := f) (xs := (besideOf n.ties i).map V.int) (ev_var rfl) (sq_of (e3 _ _ h2)) (fun j σ G' => ∃ w5, σ = [some (.ref p), some (.ref l), some (vi n.many), some (vi i), some (.ref d), w5, w6, some (.ref f)] ∧ Ex G3 G') (fun G4 e4 => ⟨w5, rfl, e4⟩) (fun j σ G' _ ⟨_, _, e'⟩ => sq_of (e' _ _ (e3 _ _ h2))) ?_ ?_
    · rintro j x σ G' hx ⟨w5, rfl, e'⟩
      rw [List.getElem?_map] at hx
      cases hj : (besideOf n.ties i)[j]? with
      | none => rw [hj] at hx; cases hx
      | some z =>
        rw [hj] at hx
        obtain rfl := (Option.some.inj hx)
        have hw : SpV (sp_l_whole K A) [.int z] G' (.bl true) := spv_l_whole kd_int
        refine s_no (et_not (a := true) (et_B (ev_call (vs := [.int z]) (ea_cons (ev_var rfl) ea_nil) hw))) fun G5 e5 => ?_
        exact ⟨_, rfl, e'.trans e5⟩
    · rintro σ G' ⟨w5, rfl, e'⟩
      refine q_app (e' _ _ (e3 _ _ h2)) (ev_var rfl) (v := vi n.many) (ev_var rfl) (by rw [List.length_map]; omega) fun G5 e5 => ?_
      have hfd : f ≠ d := fun q => by rw [q] at hf; rw [hf] at hG; cases hG
      have hdG : (upd G5 f (.lst ((besideOf n.ties i).map V.int ++ [vi n.many]))) d = some (.lst ((besideOf n.ties i).map V.int)) := (upd_ne (Ne.symm hfd)).trans (e5 _ _ (e' _ _ (e3 _ _ hG2)))
      have e6 : Ex H (upd G5 f (.lst ((besideOf n.ties i).map V.int ++ [vi n.many]))) := ((e03.trans e').trans e5).mut (fresh_back e hf)
      generalize upd G5 f (.lst ((besideOf n.ties i).map V.int ++ [vi n.many])) = G6 at hdG e6
      refine s_ret (v := .bl true) (ev_opL1 (y := .ref d) (el_meth (vs := [vi i]) (ev_var rfl) (N.mono e6).ob (by walk_at "lk") (ea_cons (ev_var rfl) ea_nil) (hb G6 e6)) (fun G7 e7 => ev_var rfl) fun q G7 hq e7 => ?_) fun G8 e8 => k _ (e6.trans e8)
      have := rv_eqD (K := K) (dp_ints (sq_of hq)) (dp_ints (sq_of (e7 _ _ hdG))) (shaped_ints (besideOf n.ties i)) (shaped_ints (besideOf n.ties i))
      rw [eqv_ints, decide_eq_true rfl] at this
      exact this
end

section
variable {K : PySem.W.Frag} {A : Ads} {σ : L2.St} {H H' : Hp} {D : Ends} {tz : TS} {v x y z : V} {ta tb te tl : TE}
/-- two ways that meet -/
theorem q_ifM {b : Bool} {t : TT} {tu tw : TS} (M : L2.St → Hp → Prop) (h : EvT t σ H b) (k : ∀ σ' H', M σ' H' → tz D σ' H') (h1 : b = true → ∀ H1, Ex H H1 → ∀ N : L2.St → Hp → Prop, (∀ σ' H', M σ' H' → N σ' H') → tu { D with nx := N } σ H1)
    (h2 : b = false → ∀ H1, Ex H H1 → ∀ N : L2.St → Hp → Prop, (∀ σ' H', M σ' H' → N σ' H') → tw { D with nx := N } σ H1) : tSeq (tIfS t tu tw) tz D σ H :=
  q_if h (fun hb H1 e1 => h1 hb H1 e1 _ k) (fun hb H1 e1 => h2 hb H1 e1 _ k)
/-- a list told again leaves a net, where it is none of the net's own -/
theorem NetX.told {p h : Addr} {n : Net} {s : NetS} {xs ys : List V} (N : NetX A H p n s) (hh : H h = some (.lst xs)) (nk : h ≠ s.kl) (nn : h ≠ s.nl) (nns : ∀ a ∈ s.ns, a ≠ h) : NetX A (upd H h (.lst ys)) p n s := by
  have ne : ∀ {b : Addr} {o : HO}, H b = some o → (∀ zs, o ≠ .lst zs) → upd H h (.lst ys) b = some o := fun {b o} hb ho => (upd_ne (fun q => by
    rw [q, hh] at hb
    exact ho _ (Option.some.inj hb).symm)).trans hb
  exact ⟨N.ok, ne N.ob (fun _ q => nomatch q), (upd_ne (Ne.symm nk)).trans N.hk, TiesAt.upd N.ta hh, ne N.hs (fun _ q => nomatch q), N.so, (upd_ne (Ne.symm nn)).trans N.hn, ⟨N.na.len, fun i a ha => (upd_ne (nns a (List.mem_of_getElem? ha))).trans (N.na.at_ i a ha)⟩⟩
/-- a method handed a new list -/
theorem ev_methL {C p dx : Addr} {fs : List (Str × V)} {m : Str} {sp : Sp} {xs : List V} {E : XK} (ha : Ev ta σ H (.ref p)) (h : H p = some (.ins C dx fs)) (l : fs.lookup m = none) (hv : EvL tl σ H xs) (hs : ∀ q H1, H1 q = some (.lst xs) → Ex H H1 → SpV sp [.ref p, .ref q] H1 z) :
    Ev (tMeth C m sp [] E ta (tCons tl tNil)) σ H z := fun H1 e Q q =>
  ha H1 e _ fun H2 e2 => ⟨p, dx, fs, rfl, e2 p _ (e p _ h), l, hv H2 (e.trans e2) _ fun r H3 _ e3 h3 => hs r H3 h3 ((e.trans e2).trans e3) H3 (Ex.refl H3) _ (fun H4 e4 => q H4 ((e2.trans e3).trans e4)) E⟩
/-- a call handed a new list first -/
theorem ev_callL {sp : Sp} {xs : List V} {E : XK} (hv : EvL tl σ H xs) (hb : Ev tb σ H y) (hs : ∀ q H1, H1 q = some (.lst xs) → Ex H H1 → SpV sp [.ref q, y] H1 z) : Ev (tCall sp [] E (tCons tl (tCons tb tNil))) σ H z := fun H1 e Q q =>
  hv H1 e _ fun r H3 _ e3 h3 => hb H3 (e.trans e3) _ fun H4 e4 => hs r H4 (e4 _ _ h3) ((e.trans e3).trans e4) H4 (Ex.refl H4) _ (fun H5 e5 => q H5 ((e3.trans e4).trans e5)) E
theorem q_rev {l : Addr} {xs : List V} (hl : H l = some (.lst xs)) (ha : Ev ta σ H (.ref l)) (k : ∀ H1, Ex H H1 → D.nx σ (upd H1 l (.lst xs.reverse))) : tDrop (tBM0 K "list" rReverse ta) D σ H := ha H (Ex.refl H) _ fun H1 e1 =>
  ⟨Or.inl ⟨rfl, xs, sq_of (e1 l _ hl)⟩, l, xs, rfl, rfl, e1 l _ hl, k H1 e1⟩
theorem el_range {n : Nat} (ha : Ev ta σ H (vi n)) (hn : n ≤ 100000) : EvL (tLstRg (tRg1 ta)) σ H ((List.range n).map vi) := fun H1 e Q q =>
  ha H1 e _ fun H2 e2 => ⟨(n : Int), rfl, RgOk.of_le (by omega) (by omega) (by omega) (by omega), fun r hr => q r _ (fresh_back e2 hr) (e2.mut (fresh_back e2 hr)) (by
    rw [show rgV 0 (n : Int) = (List.range n).map vi from by
      unfold rgV
      rw [show ((n : Int) - 0).toNat = n by omega]
      exact List.map_congr_left fun i _ => by rw [Int.zero_add]; rfl]
    exact upd_same)⟩
theorem vi_ints (l : List Nat) : l.map vi = (l.map fun j : Nat => (j : Int)).map V.int := by rw [List.map_map]; rfl
theorem dp_vis {a : Addr} {l : List Nat} (h : SqL K H a (l.map vi)) : Dp K H (.ref a) (intD (l.map fun j : Nat => (j : Int))) := dp_ints (by rw [← vi_ints]; exact h)
def twoD (a b : List Int) : PyData := .list [intD a, intD b]
theorem dp_two {a b c : Addr} {xs ys : List Int} (h : SqL K H a [.ref b, .ref c]) (hb : Dp K H (.ref b) (intD xs)) (hc : Dp K H (.ref c) (intD ys)) : Dp K H (.ref a) (twoD xs ys) := .lst h (.cons hb (.cons hc .nil))
theorem shaped_two (a b : List Int) : SeqAt.shaped (twoD a b) = true := by
  have h1 := shaped_ints a
  have h2 := shaped_ints b
  unfold SeqAt.shaped at *
  rw [Bool.and_eq_true] at *
  refine ⟨?_, decide_eq_true ?_⟩
  · show (PyData.canLay0 (intD a) && (PyData.canLay0 (intD b) && true)) = true
    rw [h1.1, h2.1]; rfl
  · show max (PyData.depth (intD a)) (max (PyData.depth (intD b)) 0) + 1 ≤ 64
    have ha : PyData.depth (intD a) = 1 := by show PyData.depthAll (a.map PyData.int) + 1 = 1; rw [depth_ints]
    have hb : PyData.depth (intD b) = 1 := by show PyData.depthAll (b.map PyData.int) + 1 = 1; rw [depth_ints]
    rw [ha, hb]; decide
theorem priceOf_other {m : Nat} {ts : List Tie} {a b : List Nat} (ok : ∀ t ∈ ts, okTie m t) (h : ∀ k, k < m → (k ∈ b ↔ k ∉ a)) : priceOf ts b = priceOf ts a := by
  unfold priceOf
  congr 2
  refine List.filter_congr fun t ht => ?_
  obtain ⟨h1, h2, _⟩ := ok t ht
  have e1 := h _ h1
  have e2 := h _ h2
  by_cases q1 : t.1 ∈ a <;> by_cases q2 : t.2.1 ∈ a <;> simp [e1, e2, q1, q2]
theorem priceOf_nil (ts : List Tie) : priceOf ts [] = 0 := by
  unfold priceOf
  rw [List.filter_eq_nil_iff.mpr fun t _ => by simp]
  rfl
theorem priceOf_all {m : Nat} {ts : List Tie} (ok : ∀ t ∈ ts, okTie m t) : priceOf ts (List.range m) = 0 := by
  rw [← priceOf_nil ts]
  exact priceOf_other ok fun k hk => by simp [hk]
end

section
variable {K : PySem.W.Frag} {A : Ads}
theorem spv_same {l1 l2 : Addr} {as1 as2 : List Addr} {ts : List Tie} {H : Hp} (h1 : H l1 = some (.lst (as1.map V.ref))) (h2 : H l2 = some (.lst (as2.map V.ref))) (t1 : TiesAt H as1 ts) (t2 : TiesAt H as2 ts) : SpV (sp_l_same_ties K A) [.ref l1, .ref l2] H (.bl true) := fun H1 e Q q E =>
  ⟨l1, l2, as1, as2, ts, rfl, e _ _ h1, e _ _ h2, t1.mono e, t2.mono e, fun H2 e2 => q H2 e2⟩
/-- the sides as told so far -/
structure Sides (i : Nat) (a b : List Nat) : Prop where
  na : a.Nodup
  nb : b.Nodup
  la : ∀ k ∈ a, k < i
  lb : ∀ k ∈ b, k < i
  ab : ∀ k, k < i → (k ∈ b ↔ k ∉ a)
theorem nodup_snoc {l : List Nat} {i : Nat} (h : l.Nodup) (hi : ∀ k ∈ l, k < i) : (l ++ [i]).Nodup := by
  rw [List.nodup_append]
  refine ⟨h, by simp, fun a ha b hb q => ?_⟩
  rw [List.mem_singleton] at hb
  have := hi a ha
  omega
theorem Sides.left {i : Nat} {a b : List Nat} (h : Sides i a b) : Sides (i + 1) (a ++ [i]) b := by
  refine ⟨nodup_snoc h.na h.la, h.nb, fun k hk => ?_, fun k hk => Nat.lt_succ_of_lt (h.lb k hk), fun k hk => ?_⟩
  · rw [List.mem_append, List.mem_singleton] at hk
    rcases hk with hk | hk
    · exact Nat.lt_succ_of_lt (h.la k hk)
    · omega
  · rw [List.mem_append, List.mem_singleton]
    by_cases q : k = i
    · subst q
      exact ⟨fun hb => absurd (h.lb _ hb) (by omega), fun hn => absurd (.inr rfl) hn⟩
    · rw [h.ab k (by omega)]
      exact ⟨fun h1 h2 => h2.elim h1 q, fun h1 h2 => h1 (.inl h2)⟩
theorem Sides.right {i : Nat} {a b : List Nat} (h : Sides i a b) : Sides (i + 1) a (b ++ [i]) := by
  refine ⟨h.na, nodup_snoc h.nb h.lb, fun k hk => Nat.lt_succ_of_lt (h.la k hk), fun k hk => ?_, fun k hk => ?_⟩
  · rw [List.mem_append, List.mem_singleton] at hk
    rcases hk with hk | hk
    · exact Nat.lt_succ_of_lt (h.lb k hk)
    · omega
  · rw [List.mem_append, List.mem_singleton]
    by_cases q : k = i
    · subst q
      exact ⟨fun _ ha => absurd (h.la _ ha) (by omega), fun _ => .inr rfl⟩
    · rw [h.ab k (by omega)]
      exact ⟨fun h1 h2 => h1.elim (fun g => g h2) q, fun h1 => .inl h1⟩
theorem Sides.rev {i : Nat} {a b : List Nat} (h : Sides i a b) : Sides i a.reverse b :=
  ⟨(List.reverse_perm _).nodup_iff.mpr h.na, h.nb, fun k hk => h.la k (List.mem_reverse.mp hk), h.lb, fun k hk => by rw [List.mem_reverse]; exact h.ab k hk⟩
theorem Sides.len {i : Nat} {a b : List Nat} (h : Sides i a b) : a.length ≤ i ∧ b.length ≤ i := by
  have h1 := List.Nodup.length_le_of_subset h.na (l₂ := List.range i) fun k hk => List.mem_range.mpr (h.la k hk)
  have h2 := List.Nodup.length_le_of_subset h.nb (l₂ := List.range i) fun k hk => List.mem_range.mpr (h.lb k hk)
  rw [List.length_range] at h1 h2
  exact ⟨h1, h2⟩
theorem pure_law (nc : NetC K A) (vs : List V) (H : Hp) (Q : VK) (E : XK) (h : sp_law K A vs H Q E) : t_law K A { nx := fun _ H' => Q .non H', rt := Q } (start ["_law_script", "_law_many_here", "_law_ties_here", "_law_handed", "_law_net", "_law_given", "_law_place", "_law_mark", "_law_side", "_law_rest", "_law_due_here", "_law_kept", "_law_found", "_law_price", "_law_tie_here"] vs) H := by
  obtain ⟨a, ns, rfl, hs, hlen, k⟩ := h
  unfold t_law
  show tSeq _ _ _ [some (.ref a), none, none, none, none, none, none, none, none, none, none, none, none, none, none] H
  refine q_asg0 (c_call (vs := [.ref a]) (ea_cons (ev_var rfl) ea_nil) fun H1 e1 => ⟨a, ns, rfl, ex_l e1 hs, fun m m1 m24 H2 e2 => ?_⟩)
  show tSeq _ _ _ [some (.ref a), some (vi m), none, none, none, none, none, none, none, none, none, none, none, none, none] H2
  have E2 : Ex H H2 := e1.trans e2
  refine q_asg0 (c_call (vs := [.ref a, vi m]) (ea_cons (ev_var rfl) (ea_cons (ev_var rfl) ea_nil)) fun H3 e3 => ⟨a, ns, m, rfl, ex_l (E2.trans e3) hs, hlen, m1, m24, fun l as ts H4 hl e4 hl4 ta ok few => ?_⟩)
  show tSeq _ _ _ [some (.ref a), some (vi m), some (.ref l), none, none, none, none, none, none, none, none, none, none, none, none] H4
  have E4 : Ex H H4 := (E2.trans e3).trans e4
  have nlen : (as.map V.ref).length = ts.length := by rw [List.length_map]; exact Paired.length ta
  refine q_asgL (xs := as.map V.ref) (el_cb (ea_cons (ev_var rfl) ea_nil) (rcl_list (.inl (sq_of hl4)))) fun h H5 hh e5 hh5 => ?_
  show tSeq _ _ _ [some (.ref a), some (vi m), some (.ref l), some (.ref h), none, none, none, none, none, none, none, none, none, none, none] H5
  refine q_asg0 (c_make (vs := [vi m, .ref h]) (ea_cons (ev_var rfl) (ea_cons (ev_var rfl) ea_nil)) fun H6 e6 x dx hx hdx hne => ?_)
  refine ⟨H6, x, dx, vi m, .ref h, rfl, (Ex.new hdx).mut hx, hx, upd_same, kd_int, .inl ⟨m, h, as, ts, rfl, rfl, e6 _ _ hh5, (ta.mono e5).mono e6, ⟨m1, m24, few, ok⟩, fun H7 s e7 N hsa nk nd nn nns => ⟨rfl, ?_⟩⟩⟩
  show tSeq _ _ _ [some (.ref a), some (vi m), some (.ref l), some (.ref h), some (.ref x), none, none, none, none, none, none, none, none, none, none] H7
  have hh6 := e6 _ _ hh5
  have hh7 := e7 _ _ hh6
  have e57 := e6.trans e7
  have hl7 := e57 _ _ (e5 _ _ hl4)
  have ta7 := (ta.mono e5).mono e57
  refine q_skip (et_is (b := false) (et_test (ev_op (x := .ref h) (y := .ref l) (ev_var rfl) (ev_var rfl) (rv_neD (dp_ties (sq_of hh7) ta7) (dp_ties (sq_of hl7) ta7) (shaped_ties ts) (shaped_ties ts)))) (by rw [eqv_self _ (shaped_ties ts)]; rfl)) fun H8 e8 => ?_
  refine q_app (e8 _ _ hh7) (ev_var rfl) (v := .ref h) (ev_var rfl) (by rw [nlen]; omega) fun H9 e9 => ?_
  have hhl : l ≠ h := fun q => by rw [q] at hl4; rw [hl4] at hh; cases hh
  have e79 := e8.trans e9
  have N0 : NetX A (upd H9 h (.lst (as.map V.ref ++ [.ref h]))) x ⟨m, ts⟩ s := (N.mono e79).told (e79 _ _ hh7) (fun q => by rw [q] at hh6; rw [hh6] at nk; cases nk) (fun q => by rw [q] at hh6; rw [hh6] at nn; cases nn) fun b hb q => by
    have := nns b hb
    rw [q, hh6] at this
    cases this
  have hl0 : upd H9 h (.lst (as.map V.ref ++ [.ref h])) l = some (.lst (as.map V.ref)) := (upd_ne hhl).trans (e79 _ _ hl7)
  have ta0 : TiesAt (upd H9 h (.lst (as.map V.ref ++ [.ref h]))) as ts := TiesAt.upd (ta7.mono e79) (e79 _ _ hh7)
  have E0 : Ex H (upd H9 h (.lst (as.map V.ref ++ [.ref h]))) := (((E4.trans e5).trans e57).trans e79).mut (fresh_back E4 hh)
  have hs0 := ex_l E0 hs
  generalize upd H9 h (.lst (as.map V.ref ++ [.ref h])) = G0 at N0 hl0 ta0 E0 hs0 ⊢
  have hTies : ∀ G, Ex G0 G → SpL (sp_ties K A) [.ref x] G (as.map V.ref) := fun G e => by
    have := spl_ties (K := K) (N0.mono e)
    rw [hsa] at this
    exact this
  have hCell : ∀ (kk : Nat) G, Ex G0 G → SpV (sp_l_cell_at K A) [.ref a, vi kk] G (.int (cellAt ns kk)) := fun kk G e => spv_l_cell_at (ex_l e hs0)
  refine q_asgL (xs := as.map V.ref) (el_meth (vs := []) (ev_var rfl) N0.ob (by walk_at "lk") ea_nil (hTies G0 (Ex.refl _))) fun g G1 hg e1 hg1 => ?_
  show tSeq _ _ _ [some (.ref a), some (vi m), some (.ref l), some (.ref h), some (.ref x), some (.ref g), none, none, none, none, none, none, none, none, none] G1
  refine q_appN (xs := as.map V.ref) (v := .int 8) (el_meth (vs := []) (ev_var rfl) (N0.mono e1).ob (by walk_at "lk") ea_nil (hTies G1 e1)) ev_c (by rw [nlen]; omega) fun G2 e2 => ?_
  have e02 := e1.trans e2
  have hg2 := e2 _ _ hg1
  have N2 := N0.mono e02
  have hsame := spv_same (K := K) (A := A) hg2 (e02 _ _ hl0) (ta0.mono e02) (ta0.mono e02)
  have hw : ∀ (i : Int) G, SpV (sp_l_whole K A) [.int i] G (.bl true) := fun i G => spv_l_whole kd_int
  have fm : Ev (tFld K (tVar 4) "many") [some (.ref a), some (vi m), some (.ref l), some (.ref h), some (.ref x), some (.ref g), none, none, none, none, none, none, none, none, none] G2 (vi m) := ev_fld (ev_var rfl) N2.ob nc.cl nc.nM lk_many
  refine q_skip (et_is (b := false) (et_or (a := false) (et_not (a := true) (et_B (ev_call (vs := [.ref g, .ref l]) (ea_cons (ev_var rfl) (ea_cons (ev_var rfl) ea_nil)) hsame))) fun _ => et_or (a := false) (et_not (a := true) (et_B (ev_call (vs := [vi m]) (ea_cons fm ea_nil) (hw _ G2)))) fun _ =>
    et_test (ev_op (x := .int (m : Int)) (y := .int (m : Int)) fm (ev_var rfl) rv_neI)) (by rw [decide_eq_true (rfl : (m : Int) = m)]; rfl)) fun G3 e3 => ?_
  refine q_app (e3 _ _ hg2) (ev_var rfl) (v := .int 7) ev_c (by rw [nlen]; omega) fun G4 e4 => ?_
  have e04 : Ex G0 (upd G4 g (.lst (as.map V.ref ++ [.int 7]))) := ((e02.trans e3).trans e4).mut hg
  generalize upd G4 g (.lst (as.map V.ref ++ [.int 7])) = G5 at e04 ⊢
  -- the three places
  have hmod : cellAt ns 2 % (m : Int) = (((cellAt ns 2 % (m : Int)).toNat : Nat) : Int) := by
    have := Int.emod_nonneg (cellAt ns 2) (show (m : Int) ≠ 0 by omega)
    omega
  have hml : (cellAt ns 2 % (m : Int)).toNat < m := by
    have := Int.emod_lt_of_pos (cellAt ns 2) (show (0 : Int) < m by omega)
    omega
  refine q_forNLn (xs := [vi 0, vi (m / 2), vi (cellAt ns 2 % (m : Int)).toNat]) (el_lst (ea_cons ev_c (ea_cons (ev_is (ev_op (x := .int (m : Int)) (ev_var rfl) ev_c (rv_fdiv ⟨by omega, by omega⟩)) (by show V.int ((m : Int) / 2) = V.int (((m / 2 : Nat)) : Int); congr 1)) (ea_cons (ev_is (ev_op (y := .int (m : Int)) (ev_call (vs := [.ref a, vi 2]) (ea_cons (ev_var rfl) (ea_cons ev_c ea_nil)) (hCell 2 G5 e04)) (ev_var rfl) (rv_mod (by omega))) (by rw [hmod]; rfl)) ea_nil))) (by simp only [List.length]; decide))
    (fun p' i σ G => ∃ w6, σ = [some (.ref a), some (vi m), some (.ref l), some (.ref h), some (.ref x), some (.ref g), w6, none, none, none, none, none, none, none, none] ∧ Ex G0 G ∧ G p' = some (.lst [vi 0, vi (m / 2), vi (cellAt ns 2 % (m : Int)).toNat])) (fun p' G6 hp e hG => ⟨none, rfl, e04.trans e, hG⟩) (fun p' i σ G _ ⟨_, _, _, hG⟩ => sq_of hG) ?_ ?_
  · rintro p' i v σ G hv ⟨w6, rfl, e, hG⟩
    have : ∃ pl : Nat, pl < m ∧ v = vi pl := by
      match i with
      | 0 => exact ⟨0, by omega, (Option.some.inj hv).symm⟩
      | 1 => exact ⟨m / 2, by omega, (Option.some.inj hv).symm⟩
      | 2 => exact ⟨_, hml, (Option.some.inj hv).symm⟩
      | _ + 3 => cases hv
    obtain ⟨pl, hpl, rfl⟩ := this
    have har : SpV (sp_l_around_right K A) [.ref x, .ref l, vi m, vi pl] G (.bl true) := fun H1 e' Q q E => ⟨x, l, ⟨m, ts⟩, s, as, pl, rfl, (N0.mono e).mono e', (e.trans e') _ _ hl0, ta0.mono (e.trans e'), hpl, fun H2 e2 => q H2 e2⟩
    refine s_no (et_not (a := true) (et_B (ev_call (vs := [.ref x, .ref l, vi m, vi pl]) (ea_cons (ev_var rfl) (ea_cons (ev_var rfl) (ea_cons (ev_var rfl) (ea_cons (ev_var rfl) ea_nil)))) har))) fun G7 e7 => ?_
    exact ⟨_, rfl, e.trans e7, e7 _ _ hG⟩
  rintro p' σ G6 ⟨w6, rfl, e6', -⟩
  refine q_asg (v := .int (cellAt ns 3)) (ev_call (vs := [.ref a, vi 3]) (ea_cons (ev_var rfl) (ea_cons ev_c ea_nil)) (hCell 3 G6 e6')) fun G7 e7' => ?_
  refine q_asgL (xs := []) (el_lst ea_nil (by decide)) fun sd G8 hsd e8' hsd8 => ?_
  refine q_asgL (xs := []) (el_lst ea_nil (by decide)) fun rt G9 hrt e9' hrt9 => ?_
  show tSeq _ _ _ [some (.ref a), some (vi m), some (.ref l), some (.ref h), some (.ref x), some (.ref g), w6, some (.int (cellAt ns 3)), some (.ref sd), some (.ref rt), none, none, none, none, none] G9
  have e07 : Ex G0 G7 := e6'.trans e7'
  have hsd0 : G0 sd = none := fresh_back e07 hsd
  have hrt0 : G0 rt = none := fresh_back (e07.trans e8') hrt
  have hsr : sd ≠ rt := fun q => by rw [q] at hsd8; rw [hsd8] at hrt; cases hrt
  generalize cellAt ns 3 = mk0
  refine q_forR1 (n := (m : Int)) (ea_cons (ev_var rfl) ea_nil) (by omega) (fun i σ G => ∃ (w6 : Option V) (mk : Int) (sl rl : List Nat), σ = [some (.ref a), some (vi m), some (.ref l), some (.ref h), some (.ref x), some (.ref g), w6, some (.int mk), some (.ref sd), some (.ref rt), none, none, none, none, none] ∧ Ex G0 G ∧ G sd = some (.lst (sl.map vi)) ∧ G rt = some (.lst (rl.map vi)) ∧ Sides i sl rl)
    (fun G e => ⟨w6, mk0, [], [], rfl, ((e07.trans e8').trans e9').trans e, (e9'.trans e) _ _ hsd8, e _ _ hrt9, ⟨List.nodup_nil, List.nodup_nil, (fun _ q => nomatch q), (fun _ q => nomatch q), fun _ q => absurd q (by omega)⟩⟩) ?_ ?_
  · rintro i σ G hi ⟨w6, mk, sl, rl, rfl, e, h1, h2, S⟩
    have hl1 := S.len
    show tSeq _ _ _ [some (.ref a), some (vi m), some (.ref l), some (.ref h), some (.ref x), some (.ref g), some (vi i), some (.int mk), some (.ref sd), some (.ref rt), none, none, none, none, none] G
    refine q_if (by walk_at "ev") (fun hb G1 e1 => ?_) (fun hb G1 e1 => ?_)
    · refine s_app (e1 _ _ h1) (ev_var rfl) (v := vi i) (ev_var rfl) (by rw [List.length_map]; omega) fun G2 e2 => ?_
      refine s_asg (v := .int (mk / 3)) (ev_op (ev_var rfl) ev_c (rv_fdiv ⟨by omega, by omega⟩)) fun G3 e3 => ?_
      refine ⟨some (vi i), mk / 3, sl ++ [i], rl, rfl, (((e.trans e1).trans e2).mut hsd0).trans e3, e3 _ _ ?_, e3 _ _ ?_, S.left⟩
      · rw [List.map_append]; exact upd_same
      · exact (upd_ne (Ne.symm hsr)).trans (e2 _ _ (e1 _ _ h2))
    · refine s_app (e1 _ _ h2) (ev_var rfl) (v := vi i) (ev_var rfl) (by rw [List.length_map]; omega) fun G2 e2 => ?_
      refine s_asg (v := .int (mk / 3)) (ev_op (ev_var rfl) ev_c (rv_fdiv ⟨by omega, by omega⟩)) fun G3 e3 => ?_
      refine ⟨some (vi i), mk / 3, sl, rl ++ [i], rfl, (((e.trans e1).trans e2).mut hrt0).trans e3, e3 _ _ ?_, e3 _ _ ?_, S.right⟩
      · exact (upd_ne hsr).trans (e2 _ _ (e1 _ _ h1))
      · rw [List.map_append]; exact upd_same
  rintro σ G ⟨w6', mk, sl, rl, rfl, e, h1, h2, S⟩
  rw [show (m : Int).toNat = m by omega] at S
  refine q_ifM (fun σ G => ∃ sl : List Nat, σ = [some (.ref a), some (vi m), some (.ref l), some (.ref h), some (.ref x), some (.ref g), w6', some (.int mk), some (.ref sd), some (.ref rt), none, none, none, none, none] ∧ Ex G0 G ∧ G sd = some (.lst (sl.map vi)) ∧ G rt = some (.lst (rl.map vi)) ∧ Sides m sl rl)
    (et_test (ev_op (ev_op (ev_call (vs := [.ref a, vi 3]) (ea_cons (ev_var rfl) (ea_cons ev_c ea_nil)) (hCell 3 G e)) ev_c (rv_mod (by omega))) ev_c rv_eqI)) ?_
    (fun _ G1 e1 N kk => q_rev (e1 _ _ h1) (ev_var rfl) fun G2 e2 => kk _ _ ⟨sl.reverse, rfl, ((e.trans e1).trans e2).mut hsd0, by rw [List.map_reverse]; exact upd_same, (upd_ne (Ne.symm hsr)).trans (e2 _ _ (e1 _ _ h2)), S.rev⟩)
    (fun _ G1 e1 N kk => kk _ _ ⟨sl, rfl, e.trans e1, e1 _ _ h1, e1 _ _ h2, S⟩)
  clear h1 h2 S e
  rintro σ G ⟨sl, rfl, e, h1, h2, S⟩
  have hl1 := S.len
  -- the price due
  refine q_asg (v := .int (priceOf ts sl)) (ev_cbL (xs := ((ts.filter fun t => decide (t.1 ∈ sl) != decide (t.2.1 ∈ sl)).map (·.2.2)).map V.int) ?_ fun q H2 h2 e2 => rc_sum (sq_of h2)) fun G10 e10 => ?_
  · rw [List.map_map]
    refine el_lcF (α := Tie) ts _ _ (a := l) (ev_var rfl) (sq_of (e _ _ hl0)) (by rw [nlen]; omega) nlen (fun _ => rfl) ?_ ?_
    · intro i v t H2 e2 hv ht
      obtain ⟨b, eb, rfl⟩ := list_at_ref hv
      have hta := paired_get ((ta0.mono e).mono e2) eb ht
      have hs2 := e2 _ _ h1
      show EvT _ [some (.ref a), some (vi m), some (.ref l), some (.ref h), some (.ref x), some (.ref g), w6', some (.int mk), some (.ref sd), some (.ref rt), none, none, none, none, some (.ref b)] H2 _
      refine et_test (ev_is (v := .bl (!decide (decide (t.1 ∈ sl) = decide (t.2.1 ∈ sl)))) ?_ (by congr 1))
      refine ev_op (x := .bl (decide (t.1 ∈ sl))) (y := .bl (decide (t.2.1 ∈ sl))) ?_ ?_ rv_neB
      · rw [← inV_vi]
        exact ev_op (x := vi t.1) (y := .ref sd) (ev_op (x := .ref b) (y := .int 0) (ev_var rfl) ev_c (rv_ixT (st_of hta) rfl)) (ev_var rfl) (rv_isL (sq_of hs2) rfl (flat_vi _))
      · rw [← inV_vi]
        exact ev_op (x := vi t.2.1) (y := .ref sd) (ev_op (x := .ref b) (y := .int 1) (ev_var rfl) ev_c (rv_ixT (st_of hta) rfl)) (ev_var rfl) (rv_isL (sq_of hs2) rfl (flat_vi _))
    · intro i v t H2 e2 hv ht _
      obtain ⟨b, eb, rfl⟩ := list_at_ref hv
      have hta := paired_get ((ta0.mono e).mono e2) eb ht
      exact ev_op (x := .ref b) (y := .int 2) (ev_var rfl) ev_c (rv_ixT (st_of hta) rfl)
  show tSeq _ _ _ [some (.ref a), some (vi m), some (.ref l), some (.ref h), some (.ref x), some (.ref g), w6', some (.int mk), some (.ref sd), some (.ref rt), some (.int (priceOf ts sl)), none, none, none, none] G10
  have e010 := e.trans e10
  have s10 := e10 _ _ h1
  have r10 := e10 _ _ h2
  -- what is kept
  refine q_asg0 ((el_cb (vs := [.ref sd]) (ea_cons (ev_var rfl) ea_nil) (rcl_list (.inl (sq_of s10)))) G10 (Ex.refl _) _ fun k1 G11 hk1 e11 hk11 => ?_)
  refine (el_cb (vs := [.ref rt]) (ea_cons (ev_var rfl) ea_nil) (rcl_list (.inl (sq_of (e11 _ _ r10))))) G11 (Ex.refl _) _ fun k2 G12 hk2 e12 hk22 => ?_
  refine ⟨by simp only [List.length]; decide, fun kl hkl => ?_⟩
  show tSeq _ _ _ [some (.ref a), some (vi m), some (.ref l), some (.ref h), some (.ref x), some (.ref g), w6', some (.int mk), some (.ref sd), some (.ref rt), some (.int (priceOf ts sl)), some (.ref kl), none, none, none] (upd G12 kl (.lst [.ref k1, .ref k2]))
  have e13 : Ex G12 (upd G12 kl (.lst [.ref k1, .ref k2])) := Ex.new hkl
  have hk3 : upd G12 kl (.lst [.ref k1, .ref k2]) kl = some (.lst [.ref k1, .ref k2]) := upd_same
  generalize upd G12 kl (.lst [.ref k1, .ref k2]) = G13 at e13 hk3 ⊢
  have e1013 := (e11.trans e12).trans e13
  have k1at := e13 _ _ (e12 _ _ hk11)
  have k2at := e13 _ _ hk22
  have s13 := e1013 _ _ s10
  have r13 := e1013 _ _ r10
  have e013 := e010.trans e1013
  have N13 := N0.mono e013
  have pr : priceOf ts rl = priceOf ts sl := priceOf_other ok S.ab
  -- the four prices
  have P1 : SpV (sp_price K A) [.ref x, .ref sd] G13 (.int (priceOf ts sl)) := spv_price N13 s13 S.na S.la
  have P2 : SpV (sp_price K A) [.ref x, .ref rt] G13 (.int (priceOf ts sl)) := by
    have := spv_price (K := K) N13 r13 S.nb S.lb
    rw [pr] at this
    exact this
  refine q_asgL (xs := ([priceOf ts sl, priceOf ts sl, 0, 0] : List Int).map V.int) (el_lst (ea_cons (ev_meth (vs := [.ref sd]) (ev_var rfl) N13.ob (by walk_at "lk") (ea_cons (ev_var rfl) ea_nil) P1) (ea_cons (ev_meth (vs := [.ref rt]) (ev_var rfl) N13.ob (by walk_at "lk") (ea_cons (ev_var rfl) ea_nil) P2)
    (ea_cons (ev_methL (xs := []) (ev_var rfl) N13.ob (by walk_at "lk") (el_lst ea_nil (by decide)) fun q G hq e' => ?_) (ea_cons (ev_methL (xs := (List.range m).map vi) (ev_var rfl) N13.ob (by walk_at "lk") (el_range (ev_var rfl) (by omega)) fun q G hq e' => ?_) ea_nil)))) (by show 4 ≤ 100000; decide)) fun fd G14 hfd e14 hfd14 => ?_
  · have := spv_price (K := K) (side := []) (N13.mono e') hq List.nodup_nil (fun _ q => nomatch q)
    rw [show (⟨m, ts⟩ : Net).ties = ts from rfl, priceOf_nil] at this
    exact this
  · have := spv_price (K := K) (side := List.range m) (N13.mono e') hq List.nodup_range (fun i hi => List.mem_range.mp hi)
    rw [show (⟨m, ts⟩ : Net).ties = ts from rfl, priceOf_all ok] at this
    exact this
  show tSeq _ _ _ [some (.ref a), some (vi m), some (.ref l), some (.ref h), some (.ref x), some (.ref g), w6', some (.int mk), some (.ref sd), some (.ref rt), some (.int (priceOf ts sl)), some (.ref kl), some (.ref fd), none, none] G14
  have k3at := e14 _ _ hk3
  have s14 := e14 _ _ s13
  have r14 := e14 _ _ r13
  have k114 := e14 _ _ k1at
  have k214 := e14 _ _ k2at
  refine q_skip (et_is (b := false) (et_test (ev_opL1 (y := .ref kl) (z := .bl false) (el_lst (ea_cons (ev_var rfl) (ea_cons (ev_var rfl) ea_nil)) (by simp only [List.length]; decide)) (fun G e' => ev_var rfl) fun q G hq e' => ?_)) rfl) fun G15 e15 => ?_
  · have := rv_neD (K := K) (dp_two (sq_of hq) (dp_vis (sq_of (e' _ _ s14))) (dp_vis (sq_of (e' _ _ r14)))) (dp_two (sq_of (e' _ _ k3at)) (dp_vis (sq_of (e' _ _ k114))) (dp_vis (sq_of (e' _ _ k214)))) (shaped_two _ _) (shaped_two _ _)
    rw [eqv_self _ (shaped_two _ _)] at this
    exact this
  have fd15 := e15 _ _ hfd14
  have e015 := (e013.trans e14).trans e15
  refine q_forLn (a := fd) (xs := ([priceOf ts sl, priceOf ts sl, 0, 0] : List Int).map V.int) (ev_var rfl) (sq_of fd15) (fun j σ G' => ∃ w13, σ = [some (.ref a), some (vi m), some (.ref l), some (.ref h), some (.ref x), some (.ref g), w6', some (.int mk), some (.ref sd), some (.ref rt), some (.int (priceOf ts sl)), some (.ref kl), some (.ref fd), w13, none] ∧ Ex G15 G') (fun G4 e4 => ⟨none, rfl, e4⟩) (fun j σ G' _ ⟨_, _, e'⟩ => sq_of (e' _ _ fd15)) ?_ ?_
  · rintro j v σ G' hv ⟨w13, rfl, e'⟩
    rw [List.getElem?_map] at hv
    cases hj : ([priceOf ts sl, priceOf ts sl, 0, 0] : List Int)[j]? with
    | none => rw [hj] at hv; cases hv
    | some z =>
      rw [hj] at hv
      obtain rfl := (Option.some.inj hv)
      refine s_no (et_not (a := true) (et_B (ev_call (vs := [.int z]) (ea_cons (ev_var rfl) ea_nil) (hw z G')))) fun G5 e5 => ?_
      exact ⟨_, rfl, e'.trans e5⟩
  · rintro σ G' ⟨w13, rfl, e'⟩
    have e016 := e015.trans e'
    have N16 := N0.mono e016
    refine s_ret (v := .bl true) (ev_is (ev_andV (a := true) (b := true) (ev_opL (x := .ref fd) (xs := ([priceOf ts sl, priceOf ts sl, 0, 0] : List Int).map V.int) (ev_var rfl) (el_lst (ea_cons (ev_var rfl) (ea_cons (ev_var rfl) (ea_cons ev_c (ea_cons ev_c ea_nil)))) (by show 4 ≤ 100000; decide)) fun q G hq e'' => ?_) fun _ => ev_callL (y := .ref l) (xs := as.map V.ref) (el_meth (vs := []) (ev_var rfl) N16.ob (by walk_at "lk") ea_nil (hTies _ e016)) (ev_var rfl) fun q G hq e'' => ?_) rfl) fun G16 e16 => k _
    · have := rv_eqD (K := K) (dp_ints (sq_of (e'' _ _ (e' _ _ fd15)))) (dp_ints (sq_of hq)) (shaped_ints _) (shaped_ints _)
      rw [eqv_ints, decide_eq_true rfl] at this
      exact this
    · exact spv_same hq ((e016.trans e'') _ _ hl0) (ta0.mono (e016.trans e'')) (ta0.mono (e016.trans e''))
end

def topS (i : Nat) : Stmt := PySem.Challenge.pw_onewalls_k01_ties_and_prices.main.body.getD i (.Pass ⟨0, 0, 0, 0⟩)
abbrev s_is_whole : Stmt := topS 9
abbrev s_has : Stmt := inClass (topS 10) 1
abbrev s_cost : Stmt := inClass (topS 10) 5
abbrev s_init : Stmt := inClass (topS 10) 0
abbrev s_need : Stmt := inClass (topS 10) 2
abbrev s_need_two : Stmt := inClass (topS 10) 3
abbrev s_ties : Stmt := inClass (topS 10) 4
abbrev s_between : Stmt := inClass (topS 10) 6
abbrev s_beside : Stmt := inClass (topS 10) 7
abbrev s_price : Stmt := inClass (topS 10) 8
abbrev s_l_cell_at : Stmt := topS 12
abbrev s_l_whole : Stmt := topS 13
abbrev s_l_many : Stmt := topS 14
abbrev s_l_tie : Stmt := topS 15
abbrev s_l_ties : Stmt := topS 16
abbrev s_l_due : Stmt := topS 17
abbrev s_l_same_ties : Stmt := topS 18
abbrev s_l_around_right : Stmt := topS 19
abbrev s_law : Stmt := topS 20
structure Fs where
  f_is_whole : Addr
  d_is_whole : FuncData
  f_has : Addr
  d_has : FuncData
  f_cost : Addr
  d_cost : FuncData
  f_init : Addr
  d_init : FuncData
  f_need : Addr
  d_need : FuncData
  f_need_two : Addr
  d_need_two : FuncData
  f_ties : Addr
  d_ties : FuncData
  f_between : Addr
  d_between : FuncData
  f_beside : Addr
  d_beside : FuncData
  f_price : Addr
  d_price : FuncData
  f_l_cell_at : Addr
  d_l_cell_at : FuncData
  f_l_whole : Addr
  d_l_whole : FuncData
  f_l_many : Addr
  d_l_many : FuncData
  f_l_tie : Addr
  d_l_tie : FuncData
  f_l_ties : Addr
  d_l_ties : FuncData
  f_l_due : Addr
  d_l_due : FuncData
  f_l_same_ties : Addr
  d_l_same_ties : FuncData
  f_l_around_right : Addr
  d_l_around_right : FuncData
  f_law : Addr
  d_law : FuncData
structure Txt (K : PySem.W.Frag) (mg : Str → Option Value) (A : Ads) (F : Fs) : Prop where
  nc : NetC K A
  mgC : mg "Net" = some (.ref A.C)
  mkN : Mk K A.C F.f_init
  F_is_whole : Fun K "is_whole" "is_whole" s_is_whole F.f_is_whole F.d_is_whole
  B_is_whole : Binds K F.d_is_whole ["thing"] []
  g_is_whole : mg "is_whole" = some (.ref F.f_is_whole)
  F_has : Fun K "has" "Net.has" s_has F.f_has F.d_has
  B_has : Binds K F.d_has ["self", "place"] []
  m_has : Meth K A.C "has" F.f_has
  F_cost : Fun K "cost" "Net.cost" s_cost F.f_cost F.d_cost
  B_cost : Binds K F.d_cost ["self", "one", "other"] []
  m_cost : Meth K A.C "cost" F.f_cost
  F_init : Fun K "__init__" "Net.__init__" s_init F.f_init F.d_init
  B_init : Binds K F.d_init ["self", "many", "ties"] []
  F_need : Fun K "need" "Net.need" s_need F.f_need F.d_need
  B_need : Binds K F.d_need ["self", "place"] []
  m_need : Meth K A.C "need" F.f_need
  F_need_two : Fun K "need_two" "Net.need_two" s_need_two F.f_need_two F.d_need_two
  B_need_two : Binds K F.d_need_two ["self", "one", "other"] []
  m_need_two : Meth K A.C "need_two" F.f_need_two
  F_ties : Fun K "ties" "Net.ties" s_ties F.f_ties F.d_ties
  B_ties : Binds K F.d_ties ["self"] []
  m_ties : Meth K A.C "ties" F.f_ties
  F_between : Fun K "between" "Net.between" s_between F.f_between F.d_between
  B_between : Binds K F.d_between ["self", "one", "other"] []
  m_between : Meth K A.C "between" F.f_between
  F_beside : Fun K "beside" "Net.beside" s_beside F.f_beside F.d_beside
  B_beside : Binds K F.d_beside ["self", "place"] []
  m_beside : Meth K A.C "beside" F.f_beside
  F_price : Fun K "price" "Net.price" s_price F.f_price F.d_price
  B_price : Binds K F.d_price ["self", "side"] []
  m_price : Meth K A.C "price" F.f_price
  F_l_cell_at : Fun K "_law_cell_at" "_law_cell_at" s_l_cell_at F.f_l_cell_at F.d_l_cell_at
  B_l_cell_at : Binds K F.d_l_cell_at ["_law_script", "_law_k"] []
  g_l_cell_at : mg "_law_cell_at" = some (.ref F.f_l_cell_at)
  F_l_whole : Fun K "_law_whole" "_law_whole" s_l_whole F.f_l_whole F.d_l_whole
  B_l_whole : Binds K F.d_l_whole ["_law_found"] []
  g_l_whole : mg "_law_whole" = some (.ref F.f_l_whole)
  F_l_many : Fun K "_law_many" "_law_many" s_l_many F.f_l_many F.d_l_many
  B_l_many : Binds K F.d_l_many ["_law_script"] []
  g_l_many : mg "_law_many" = some (.ref F.f_l_many)
  F_l_tie : Fun K "_law_tie" "_law_tie" s_l_tie F.f_l_tie F.d_l_tie
  B_l_tie : Binds K F.d_l_tie ["_law_cell", "_law_many_here", "_law_top"] []
  g_l_tie : mg "_law_tie" = some (.ref F.f_l_tie)
  F_l_ties : Fun K "_law_ties" "_law_ties" s_l_ties F.f_l_ties F.d_l_ties
  B_l_ties : Binds K F.d_l_ties ["_law_script", "_law_many_here"] []
  g_l_ties : mg "_law_ties" = some (.ref F.f_l_ties)
  F_l_due : Fun K "_law_due" "_law_due" s_l_due F.f_l_due F.d_l_due
  B_l_due : Binds K F.d_l_due ["_law_ties_here", "_law_one", "_law_other"] []
  g_l_due : mg "_law_due" = some (.ref F.f_l_due)
  F_l_same_ties : Fun K "_law_same_ties" "_law_same_ties" s_l_same_ties F.f_l_same_ties F.d_l_same_ties
  B_l_same_ties : Binds K F.d_l_same_ties ["_law_found", "_law_ties_here"] []
  g_l_same_ties : mg "_law_same_ties" = some (.ref F.f_l_same_ties)
  F_l_around_right : Fun K "_law_around_right" "_law_around_right" s_l_around_right F.f_l_around_right F.d_l_around_right
  B_l_around_right : Binds K F.d_l_around_right ["_law_net", "_law_ties_here", "_law_many_here", "_law_place"] []
  g_l_around_right : mg "_law_around_right" = some (.ref F.f_l_around_right)
  F_law : Fun K "law" "law" s_law F.f_law F.d_law
  B_law : Binds K F.d_law ["_law_script"] []
  g_law : mg "law" = some (.ref F.f_law)
  b_bool : mg "bool" = none
  b_int : mg "int" = none
  b_isinstance : mg "isinstance" = none
  b_len : mg "len" = none
  b_list : mg "list" = none
  b_max : mg "max" = none
  b_min : mg "min" = none
  b_range : mg "range" = none
  b_sorted : mg "sorted" = none
  b_sum : mg "sum" = none
  b_tuple : mg "tuple" = none
  b_zip : mg "zip" = none
  c_MOST_PLACES : ∃ t, mg "MOST_PLACES" = some (.int 24 t)
  c_MOST_TIES : ∃ t, mg "MOST_TIES" = some (.int 300 t)
  c_MOST_PRICE : ∃ t, mg "MOST_PRICE" = some (.int 1000000000 t)
  x_WallError : ExcT K mg "WallError" A.eWallError
  x_NoNet : ExcT K mg "NoNet" A.eNoNet
  x_NoPlace : ExcT K mg "NoPlace" A.eNoPlace
  x_NoSide : ExcT K mg "NoSide" A.eNoSide
section
variable {P : Program} {w : World} {K : PySem.W.Frag} {mg : Str → Option Value} {base : Heap}
theorem sc_is_whole : FnScope ["thing"] ["thing"] (defScope s_is_whole) := ⟨rfl, rfl, rfl, by decide +kernel, rfl, by decide +kernel, by decide +kernel⟩
theorem ok_is_whole {A : Ads} {F : Fs} (T : Txt K mg A F) : FnOk P w K mg base CX0 1 F.f_is_whole F.d_is_whole ["thing"] (sp_is_whole K A) := by
  refine Fun.ok T.F_is_whole sc_is_whole (len_is_whole K A) (fun cdv Ar outer s H vs Q E hr h => ⟨t_is_whole K A, ?_, pure_is_whole T.nc vs H Q E h⟩)
  exact (pss_one (ps_ret (pe_and (pe_callB call_isi (by rfl) T.b_isinstance (by decide +kernel) (pa_cons (pv 0) (pa_cons (pe_bltn (v := .ty "int") (by rfl) T.b_int (by decide +kernel) rfl) pa_nil))) (pe_one (pe_not (pe_callB call_isi (by rfl) T.b_isinstance (by decide +kernel) (pa_cons (pv 0) (pa_cons (pe_bltn (v := .ty "bool") (by rfl) T.b_bool (by decide +kernel) rfl) pa_nil))))))))

theorem sc_has : FnScope ["self", "place"] ["self", "place"] (defScope s_has) := ⟨rfl, rfl, rfl, by decide +kernel, rfl, by decide +kernel, by decide +kernel⟩
theorem ok_has {A : Ads} {F : Fs} (T : Txt K mg A F) : FnOk P w K mg base CX0 2 F.f_has F.d_has ["self", "place"] (sp_has K A) := by
  refine Fun.ok T.F_has sc_has (len_has K A) (fun cdv Ar outer s H vs Q E hr h => ⟨t_has K A, ?_, pure_has T.nc vs H Q E h⟩)
  exact (pss_one (ps_ret (pe_and (pe_call (ok_is_whole T) (hr.mono (by decide)) (by rfl) T.g_is_whole T.F_is_whole.kp T.B_is_whole .nil pass0 (pa_cons (pv 1) pa_nil)) (pe_one (pe_chain op_le op_lt pe_int (pv 1) (pe_fld (pv 0) rfl))))))

theorem sc_cost : FnScope ["self", "one", "other"] ["self", "one", "other"] (defScope s_cost) := ⟨rfl, rfl, rfl, by decide +kernel, rfl, by decide +kernel, by decide +kernel⟩
theorem ok_cost {A : Ads} {F : Fs} (T : Txt K mg A F) : FnOk P w K mg base CX0 1 F.f_cost F.d_cost ["self", "one", "other"] (sp_cost K A) := by
  refine Fun.ok T.F_cost sc_cost (len_cost K A) (fun cdv Ar outer s H vs Q E hr h => ⟨t_cost K A, ?_, pure_cost T.nc vs H Q E h⟩)
  exact (pss_one (ps_ret (pe_dget2 (hu_of hr) (pe_fld (pv 0) rfl) (pe_tup (pa_cons (pe_callB (call_min2 rfl) (by rfl) T.b_min (by decide +kernel) (pa_cons (pv 1) (pa_cons (pv 2) pa_nil))) (pa_cons (pe_callB (call_max2 rfl) (by rfl) T.b_max (by decide +kernel) (pa_cons (pv 1) (pa_cons (pv 2) pa_nil))) pa_nil))) pe_int ⟨rfl, rfl, rfl, rfl⟩)))

theorem sc_init : FnScope ["self", "many", "ties", "tie", "pair", "place"] ["self", "many", "ties"] (defScope s_init) := ⟨rfl, rfl, rfl, by decide +kernel, rfl, by decide +kernel, by decide +kernel⟩
theorem ok_init {A : Ads} {F : Fs} (T : Txt K mg A F) : FnOk P w K mg base (L2N.CX P w) 3 F.f_init F.d_init ["self", "many", "ties"] (sp_init K A) := by
  refine fun_okN T.F_init sc_init (len_init K A) (fun cdv Ar outer s H vs Q E hr h => ⟨t_init K A E, ?_, pure_init T.nc vs H Q E h⟩)
  exact (pss_cons (ps_if (PW.pt (pw_or (pt_not (pt_val (pe_call (ok_is_whole T) (hr.mono (by decide)) (by rfl) T.g_is_whole T.F_is_whole.kp T.B_is_whole .nil pass0 (pa_cons (pv 1) pa_nil)))) (pw_or1 (pt_not (pt_chain op_le op_le pe_int (pv 1) (pe_gi T.c_MOST_PLACES)))))) (pss_one (L2N.ps_raise rfl (L2N.takes_of rfl rfl rfl rfl) (T.x_NoNet.pmk (by rfl)))) pss_nil)
    (pss_cons (ps_if (PW.pt (pw_or (pt_not (pt_val (pe_callB call_isi (by rfl) T.b_isinstance (by decide +kernel) (pa_cons (pv 2) (pa_cons (pe_bltn (v := .ty "list") (by rfl) T.b_list (by decide +kernel) rfl) pa_nil))))) (pw_or1 (pt_cmpR op_gt (pe_callB call_len_seq (by rfl) T.b_len PySem.boot_len (pa_cons (pv 2) pa_nil)) (pe_gi T.c_MOST_TIES) (nomark _))))) (pss_one (L2N.ps_raise rfl (L2N.takes_of rfl rfl rfl rfl) (T.x_NoNet.pmk (by rfl)))) pss_nil)
    (pss_cons (ps_fld (pv 0) (pv 1) rfl)
    (pss_cons (ps_fld (pv 0) (pe_lst pa_nil) rfl)
    (pss_cons (ps_fld (pv 0) pe_dnewT rfl)
    (pss_cons (ps_fld (pv 0) (pe_lc (own := [("place", 5)]) (g := (gName 5)) (tt := tYes) rfl sc_init.nd (pi_range1 (by rfl) T.b_range (pa_cons (pv 1) pa_nil)) (blkOk_by (own := [("place", 5)]) (N := ["self", "many", "ties", "tie", "pair", "place"]) (sc := defScope s_init) (by decide +kernel)) (fun _ _ _ _ _ => (pg_name (i := 5) sc_init.nd rfl (by first | exact Or.inl rfl | exact Or.inr rfl))) (fun _ _ _ _ _ => pts_nil) (fun _ _ _ _ _ => (pe_lst pa_nil))) rfl)
    (pss_one (ps_for (L2.passes_of rfl) rfl (pi_list (pv 2)) (pg_name (i := 3) sc_init.nd rfl (by first | exact Or.inl rfl | exact Or.inr rfl)) (pss_cons (ps_if (PW.pt (pw_or (pt_not (pt_val (pe_callB call_isi (by rfl) T.b_isinstance (by decide +kernel) (pa_cons (pv 3) (pa_cons (pe_bltn (v := .ty "tuple") (by rfl) T.b_tuple (by decide +kernel) rfl) pa_nil))))) (pw_or (pt_cmpR op_ne (pe_callB call_len_seq (by rfl) T.b_len PySem.boot_len (pa_cons (pv 3) pa_nil)) pe_int (nomark _)) (pw_or (pt_not (pt_val (pe_meth (pv 0) T.nc.cl T.m_has (ok_has T) (hr.mono (by decide)) T.B_has .nil pass0 (pa_cons (pe_ix ix_tup (pv 3) pe_int (fun _ _ => rfl)) pa_nil)))) (pw_or1 (pt_not (pt_val (pe_meth (pv 0) T.nc.cl T.m_has (ok_has T) (hr.mono (by decide)) T.B_has .nil pass0 (pa_cons (pe_ix ix_tup (pv 3) pe_int (fun _ _ => rfl)) pa_nil))))))))) (pss_one (L2N.ps_raise rfl (L2N.takes_of rfl rfl rfl rfl) (T.x_NoNet.pmk (by rfl)))) pss_nil)
    (pss_cons (ps_if (PW.pt (pw_or (pt_cmpR op_eq (pe_ix ix_tup (pv 3) pe_int (fun _ _ => rfl)) (pe_ix ix_tup (pv 3) pe_int (fun _ _ => rfl)) (nomark _)) (pw_or (pt_not (pt_val (pe_call (ok_is_whole T) (hr.mono (by decide)) (by rfl) T.g_is_whole T.F_is_whole.kp T.B_is_whole .nil pass0 (pa_cons (pe_ix ix_tup (pv 3) pe_int (fun _ _ => rfl)) pa_nil)))) (pw_or1 (pt_not (pt_chain op_le op_le pe_int (pe_ix ix_tup (pv 3) pe_int (fun _ _ => rfl)) (pe_gi T.c_MOST_PRICE))))))) (pss_one (L2N.ps_raise rfl (L2N.takes_of rfl rfl rfl rfl) (T.x_NoNet.pmk (by rfl)))) pss_nil)
    (pss_cons (ps_set (i := 4) sc_init.nd rfl (by first | exact Or.inl rfl | exact Or.inr rfl) (pe_tup (pa_cons (pe_callB (call_min2 rfl) (by rfl) T.b_min (by decide +kernel) (pa_cons (pe_ix ix_tup (pv 3) pe_int (fun _ _ => rfl)) (pa_cons (pe_ix ix_tup (pv 3) pe_int (fun _ _ => rfl)) pa_nil))) (pa_cons (pe_callB (call_max2 rfl) (by rfl) T.b_max (by decide +kernel) (pa_cons (pe_ix ix_tup (pv 3) pe_int (fun _ _ => rfl)) (pa_cons (pe_ix ix_tup (pv 3) pe_int (fun _ _ => rfl)) pa_nil))) pa_nil))))
    (pss_cons (ps_expr (pe_bm PySem.F.plainAttrs_list PySem.F.slot_list_append PySem.F.type_list_append mt_append (pe_fld (pv 0) rfl) (pa_cons (pv 3) pa_nil)))
    (pss_cons (ps_if (pt_cmp (pc_dnotin (hu_of hr) (pv 4) (pe_fld (pv 0) rfl))) (pss_cons (ps_expr (pe_bm PySem.F.plainAttrs_list PySem.F.slot_list_append PySem.F.type_list_append mt_append (pe_ix ix_list (pe_fld (pv 0) rfl) (pe_ix ix_tup (pv 4) pe_int (fun _ _ => rfl)) (fun _ _ => rfl)) (pa_cons (pe_ix ix_tup (pv 4) pe_int (fun _ _ => rfl)) pa_nil)))
    (pss_one (ps_expr (pe_bm PySem.F.plainAttrs_list PySem.F.slot_list_append PySem.F.type_list_append mt_append (pe_ix ix_list (pe_fld (pv 0) rfl) (pe_ix ix_tup (pv 4) pe_int (fun _ _ => rfl)) (fun _ _ => rfl)) (pa_cons (pe_ix ix_tup (pv 4) pe_int (fun _ _ => rfl)) pa_nil))))) pss_nil)
    (pss_one (ps_dput (hu_of hr) (pe_fld (pv 0) rfl) (pv 4) (pe_op op_add (pe_meth (pv 0) T.nc.cl T.m_cost (ok_cost T) (hr.mono (by decide)) T.B_cost .nil pass0 (pa_cons (pe_ix ix_tup (pv 4) pe_int (fun _ _ => rfl)) (pa_cons (pe_ix ix_tup (pv 4) pe_int (fun _ _ => rfl)) pa_nil))) (pe_ix ix_tup (pv 3) pe_int (fun _ _ => rfl))) rfl)))))))))))))))

theorem sc_need : FnScope ["self", "place"] ["self", "place"] (defScope s_need) := ⟨rfl, rfl, rfl, by decide +kernel, rfl, by decide +kernel, by decide +kernel⟩
theorem ok_need {A : Ads} {F : Fs} (T : Txt K mg A F) : FnOk P w K mg base (L2N.CX P w) 3 F.f_need F.d_need ["self", "place"] (sp_need K A) := by
  refine fun_okN T.F_need sc_need (len_need K A) (fun cdv Ar outer s H vs Q E hr h => ⟨t_need K A E, ?_, pure_need T.nc vs H Q E h⟩)
  exact (pss_one (ps_if (pt_not (pt_val (pe_meth (pv 0) T.nc.cl T.m_has (ok_has T) (hr.mono (by decide)) T.B_has .nil pass0 (pa_cons (pv 1) pa_nil)))) (pss_one (L2N.ps_raise rfl (L2N.takes_of rfl rfl rfl rfl) (T.x_NoPlace.pmk (by rfl)))) pss_nil))

theorem sc_need_two : FnScope ["self", "one", "other"] ["self", "one", "other"] (defScope s_need_two) := ⟨rfl, rfl, rfl, by decide +kernel, rfl, by decide +kernel, by decide +kernel⟩
theorem ok_need_two {A : Ads} {F : Fs} (T : Txt K mg A F) : FnOk P w K mg base (L2N.CX P w) 4 F.f_need_two F.d_need_two ["self", "one", "other"] (sp_need_two K A) := by
  refine fun_okN T.F_need_two sc_need_two (len_need_two K A) (fun cdv Ar outer s H vs Q E hr h => ⟨t_need_two K A E, ?_, pure_need_two T.nc vs H Q E h⟩)
  exact (pss_cons (ps_expr (pe_meth (pv 0) T.nc.cl T.m_need (ok_need T) (hr.mono (by decide)) T.B_need .nil (L2N.passes_call (L2N.takes_of rfl rfl rfl rfl) fun _ _ _ _ z => z) (pa_cons (pv 1) pa_nil)))
    (pss_cons (ps_expr (pe_meth (pv 0) T.nc.cl T.m_need (ok_need T) (hr.mono (by decide)) T.B_need .nil (L2N.passes_call (L2N.takes_of rfl rfl rfl rfl) fun _ _ _ _ z => z) (pa_cons (pv 2) pa_nil)))
    (pss_one (ps_if (pt_cmpR op_eq (pv 1) (pv 2) (nomark _)) (pss_one (L2N.ps_raise rfl (L2N.takes_of rfl rfl rfl rfl) (T.x_NoPlace.pmk (by rfl)))) pss_nil))))

theorem sc_ties : FnScope ["self"] ["self"] (defScope s_ties) := ⟨rfl, rfl, rfl, by decide +kernel, rfl, by decide +kernel, by decide +kernel⟩
theorem ok_ties {A : Ads} {F : Fs} (T : Txt K mg A F) : FnOk P w K mg base CX0 1 F.f_ties F.d_ties ["self"] (sp_ties K A) := by
  refine Fun.ok T.F_ties sc_ties (len_ties K A) (fun cdv Ar outer s H vs Q E hr h => ⟨t_ties K A, ?_, pure_ties T.nc vs H Q E h⟩)
  exact (pss_one (ps_ret (pe_callTy call_list_of (by rfl) T.b_list (by decide +kernel) (pa_cons (pe_fld (pv 0) rfl) pa_nil))))

theorem sc_between : FnScope ["self", "one", "other"] ["self", "one", "other"] (defScope s_between) := ⟨rfl, rfl, rfl, by decide +kernel, rfl, by decide +kernel, by decide +kernel⟩
theorem ok_between {A : Ads} {F : Fs} (T : Txt K mg A F) : FnOk P w K mg base (L2N.CX P w) 5 F.f_between F.d_between ["self", "one", "other"] (sp_between K A) := by
  refine fun_okN T.F_between sc_between (len_between K A) (fun cdv Ar outer s H vs Q E hr h => ⟨t_between K A E, ?_, pure_between T.nc vs H Q E h⟩)
  exact (pss_cons (ps_expr (pe_meth (pv 0) T.nc.cl T.m_need_two (ok_need_two T) (hr.mono (by decide)) T.B_need_two .nil (L2N.passes_call (L2N.takes_of rfl rfl rfl rfl) fun _ _ _ _ z => z) (pa_cons (pv 1) (pa_cons (pv 2) pa_nil))))
    (pss_one (ps_ret (pe_meth (pv 0) T.nc.cl T.m_cost (ok_cost T) (hr.mono (by decide)) T.B_cost .nil pass0 (pa_cons (pv 1) (pa_cons (pv 2) pa_nil))))))

theorem sc_beside : FnScope ["self", "place"] ["self", "place"] (defScope s_beside) := ⟨rfl, rfl, rfl, by decide +kernel, rfl, by decide +kernel, by decide +kernel⟩
theorem ok_beside {A : Ads} {F : Fs} (T : Txt K mg A F) : FnOk P w K mg base (L2N.CX P w) 4 F.f_beside F.d_beside ["self", "place"] (sp_beside K A) := by
  refine fun_okN T.F_beside sc_beside (len_beside K A) (fun cdv Ar outer s H vs Q E hr h => ⟨t_beside K A E, ?_, pure_beside T.nc vs H Q E h⟩)
  exact (pss_cons (ps_expr (pe_meth (pv 0) T.nc.cl T.m_need (ok_need T) (hr.mono (by decide)) T.B_need .nil (L2N.passes_call (L2N.takes_of rfl rfl rfl rfl) fun _ _ _ _ z => z) (pa_cons (pv 1) pa_nil)))
    (pss_one (ps_ret (pe_callB cr_sortedI (by rfl) T.b_sorted (by decide +kernel) (pa_cons (pe_ix ix_list (pe_fld (pv 0) rfl) (pv 1) (fun _ _ => rfl)) pa_nil)))))

theorem sc_price : FnScope ["self", "side", "at", "tie"] ["self", "side"] (defScope s_price) := ⟨rfl, rfl, rfl, by decide +kernel, rfl, by decide +kernel, by decide +kernel⟩
theorem ok_price {A : Ads} {F : Fs} (T : Txt K mg A F) : FnOk P w K mg base (L2N.CX P w) 3 F.f_price F.d_price ["self", "side"] (sp_price K A) := by
  refine fun_okN T.F_price sc_price (len_price K A) (fun cdv Ar outer s H vs Q E hr h => ⟨t_price K A E, ?_, pure_price T.nc vs H Q E h⟩)
  exact (pss_cons (ps_if (pt_not (pt_val (pe_callB call_isi (by rfl) T.b_isinstance (by decide +kernel) (pa_cons (pv 1) (pa_cons (pe_bltn (v := .ty "list") (by rfl) T.b_list (by decide +kernel) rfl) pa_nil))))) (pss_one (L2N.ps_raise rfl (L2N.takes_of rfl rfl rfl rfl) (T.x_NoSide.pmk (by rfl)))) pss_nil)
    (pss_cons (ps_for (L2.passes_of rfl) rfl (pi_range1 (by rfl) T.b_range (pa_cons (pe_callB call_len_seq (by rfl) T.b_len PySem.boot_len (pa_cons (pv 1) pa_nil)) pa_nil)) (pg_name (i := 2) sc_price.nd rfl (by first | exact Or.inl rfl | exact Or.inr rfl)) (pss_one (ps_if (PW.pt (pw_or (pt_not (pt_val (pe_meth (pv 0) T.nc.cl T.m_has (ok_has T) (hr.mono (by decide)) T.B_has .nil pass0 (pa_cons (pe_ix ix_list (pv 1) (pv 2) (fun _ _ => rfl)) pa_nil)))) (pw_or1 (pt_cmpR op_in_seq (pe_ix ix_list (pv 1) (pv 2) (fun _ _ => rfl)) (pe_slice sl_list (pv 1) po_none (po_some (pv 2))) (by rfl))))) (pss_one (L2N.ps_raise rfl (L2N.takes_of rfl rfl rfl rfl) (T.x_NoSide.pmk (by rfl)))) pss_nil)))
    (pss_one (ps_ret (pe_callB (cr_sum rfl) (by rfl) T.b_sum (by decide +kernel) (pa_cons (pe_lc (own := [("tie", 3)]) (g := (gName 3)) (tt := (tTest (tOp rNe (tOp (rIn K false) (tOp (rIxT K) (tVar 3) (tC (.int 0))) (tVar 1)) (tOp (rIn K false) (tOp (rIxT K) (tVar 3) (tC (.int 1))) (tVar 1))))) rfl sc_price.nd (pi_list (pe_fld (pv 0) rfl)) (blkOk_by (own := [("tie", 3)]) (N := ["self", "side", "at", "tie"]) (sc := defScope s_price) (by decide +kernel)) (fun _ _ _ _ _ => (pg_name (i := 3) sc_price.nd rfl (by first | exact Or.inl rfl | exact Or.inr rfl))) (fun _ _ _ _ _ => (pts_one (pt_cmpR op_ne (pe_cmpR op_in_seq (pe_ix ix_tup (pv 3) pe_int (fun _ _ => rfl)) (pv 1) (by rfl)) (pe_cmpR op_in_seq (pe_ix ix_tup (pv 3) pe_int (fun _ _ => rfl)) (pv 1) (by rfl)) (nomark _)))) (fun _ _ _ _ _ => (pe_ix ix_tup (pv 3) pe_int (fun _ _ => rfl)))) pa_nil))))))

theorem sc_l_cell_at : FnScope ["_law_script", "_law_k"] ["_law_script", "_law_k"] (defScope s_l_cell_at) := ⟨rfl, rfl, rfl, by decide +kernel, rfl, by decide +kernel, by decide +kernel⟩
theorem ok_l_cell_at {A : Ads} {F : Fs} (T : Txt K mg A F) : FnOk P w K mg base CX0 1 F.f_l_cell_at F.d_l_cell_at ["_law_script", "_law_k"] (sp_l_cell_at K A) := by
  refine Fun.ok T.F_l_cell_at sc_l_cell_at (len_l_cell_at K A) (fun cdv Ar outer s H vs Q E hr h => ⟨t_l_cell_at K A, ?_, pure_l_cell_at vs H Q E h⟩)
  exact (pss_cons (ps_if (pt_cmpR op_lt (pv 1) (pe_callB call_len_seq (by rfl) T.b_len PySem.boot_len (pa_cons (pv 0) pa_nil)) (nomark _)) (pss_one (ps_ret (pe_ix ix_list (pv 0) (pv 1) (fun _ _ => rfl)))) pss_nil)
    (pss_one (ps_ret pe_int)))

theorem sc_l_whole : FnScope ["_law_found"] ["_law_found"] (defScope s_l_whole) := ⟨rfl, rfl, rfl, by decide +kernel, rfl, by decide +kernel, by decide +kernel⟩
theorem ok_l_whole {A : Ads} {F : Fs} (T : Txt K mg A F) : FnOk P w K mg base CX0 1 F.f_l_whole F.d_l_whole ["_law_found"] (sp_l_whole K A) := by
  refine Fun.ok T.F_l_whole sc_l_whole (len_l_whole K A) (fun cdv Ar outer s H vs Q E hr h => ⟨t_l_whole K A, ?_, pure_l_whole vs H Q E h⟩)
  exact (pss_one (ps_ret (pe_and (pe_callB call_isi (by rfl) T.b_isinstance (by decide +kernel) (pa_cons (pv 0) (pa_cons (pe_bltn (v := .ty "int") (by rfl) T.b_int (by decide +kernel) rfl) pa_nil))) (pe_one (pe_not (pe_callB call_isi (by rfl) T.b_isinstance (by decide +kernel) (pa_cons (pv 0) (pa_cons (pe_bltn (v := .ty "bool") (by rfl) T.b_bool (by decide +kernel) rfl) pa_nil))))))))

theorem sc_l_many : FnScope ["_law_script", "_law_first"] ["_law_script"] (defScope s_l_many) := ⟨rfl, rfl, rfl, by decide +kernel, rfl, by decide +kernel, by decide +kernel⟩
theorem ok_l_many {A : Ads} {F : Fs} (T : Txt K mg A F) : FnOk P w K mg base CX0 2 F.f_l_many F.d_l_many ["_law_script"] (sp_l_many K A) := by
  refine Fun.ok T.F_l_many sc_l_many (len_l_many K A) (fun cdv Ar outer s H vs Q E hr h => ⟨t_l_many K A, ?_, pure_l_many vs H Q E h⟩)
  exact (pss_cons (ps_set (i := 1) sc_l_many.nd rfl (by first | exact Or.inl rfl | exact Or.inr rfl) (pe_call (ok_l_cell_at T) (hr.mono (by decide)) (by rfl) T.g_l_cell_at T.F_l_cell_at.kp T.B_l_cell_at .nil pass0 (pa_cons (pv 0) (pa_cons pe_int pa_nil))))
    (pss_cons (ps_if (pt_cmpR op_eq (pe_op op_mod (pe_op op_fdiv (pv 1) pe_int) pe_int) pe_int (nomark _)) (pss_one (ps_ret (pe_op op_add pe_int (pe_op op_mod (pe_op op_fdiv (pv 1) pe_int) pe_int)))) pss_nil)
    (pss_one (ps_ret (pe_op op_add pe_int (pe_op op_mod (pv 1) pe_int))))))

theorem sc_l_tie : FnScope ["_law_cell", "_law_many_here", "_law_top", "_law_one", "_law_other"] ["_law_cell", "_law_many_here", "_law_top"] (defScope s_l_tie) := ⟨rfl, rfl, rfl, by decide +kernel, rfl, by decide +kernel, by decide +kernel⟩
theorem ok_l_tie {A : Ads} {F : Fs} (T : Txt K mg A F) : FnOk P w K mg base CX0 1 F.f_l_tie F.d_l_tie ["_law_cell", "_law_many_here", "_law_top"] (sp_l_tie K A) := by
  refine Fun.ok T.F_l_tie sc_l_tie (len_l_tie K A) (fun cdv Ar outer s H vs Q E hr h => ⟨t_l_tie K A, ?_, pure_l_tie vs H Q E h⟩)
  exact (pss_cons (ps_set (i := 3) sc_l_tie.nd rfl (by first | exact Or.inl rfl | exact Or.inr rfl) (pe_op op_mod (pv 0) (pv 1)))
    (pss_cons (ps_set (i := 4) sc_l_tie.nd rfl (by first | exact Or.inl rfl | exact Or.inr rfl) (pe_op op_mod (pe_op op_add (pe_op op_add (pv 3) pe_int) (pe_op op_mod (pe_op op_fdiv (pv 0) (pv 1)) (pe_op op_sub (pv 1) pe_int))) (pv 1)))
    (pss_one (ps_ret (pe_tup (pa_cons (pv 3) (pa_cons (pv 4) (pa_cons (pe_op op_add pe_int (pe_op op_mod (pe_op op_fdiv (pv 0) (pe_op op_mul (pv 1) (pe_op op_sub (pv 1) pe_int))) (pv 2))) pa_nil))))))))

theorem sc_l_ties : FnScope ["_law_script", "_law_many_here", "_law_top", "_law_ties_here", "_law_one", "_law_other", "_law_cell"] ["_law_script", "_law_many_here"] (defScope s_l_ties) := ⟨rfl, rfl, rfl, by decide +kernel, rfl, by decide +kernel, by decide +kernel⟩
theorem ok_l_ties {A : Ads} {F : Fs} (T : Txt K mg A F) : FnOk P w K mg base CX0 2 F.f_l_ties F.d_l_ties ["_law_script", "_law_many_here"] (sp_l_ties K A) := by
  refine Fun.ok T.F_l_ties sc_l_ties (len_l_ties K A) (fun cdv Ar outer s H vs Q E hr h => ⟨t_l_ties K A, ?_, pure_l_ties vs H Q E h⟩)
  exact (pss_cons (ps_if (pt_cmpR op_eq (pv 1) pe_int (nomark _)) (pss_one (ps_ret (pe_lst pa_nil))) pss_nil)
    (pss_cons (ps_set (i := 2) sc_l_ties.nd rfl (by first | exact Or.inl rfl | exact Or.inr rfl) (pe_ix ix_list (pe_lst (pa_cons pe_int (pa_cons pe_int (pa_cons pe_int pa_nil)))) (pe_op op_mod (pe_call (ok_l_cell_at T) (hr.mono (by decide)) (by rfl) T.g_l_cell_at T.F_l_cell_at.kp T.B_l_cell_at .nil pass0 (pa_cons (pv 0) (pa_cons pe_int pa_nil))) pe_int) (fun _ _ => rfl)))
    (pss_cons (ps_setLc (i := 3) (own := [("_law_cell", 6)]) (g := (gName 6)) (tt := tYes) rfl sc_l_ties.nd rfl rfl (sw_true rfl rfl rfl (by decide +kernel)) (pi_list (pe_slice sl_list (pv 0) (po_some pe_int) (po_some pe_int))) (blkOk_by (own := [("_law_cell", 6)]) (N := ["_law_script", "_law_many_here", "_law_top", "_law_ties_here", "_law_one", "_law_other", "_law_cell"]) (sc := defScope s_l_ties) (by decide +kernel)) (fun _ _ _ _ _ => (pg_name (i := 6) sc_l_ties.nd rfl (by first | exact Or.inl rfl | exact Or.inr rfl))) (fun _ _ _ _ _ => pts_nil) (fun _ _ _ _ _ => (pe_call (ok_l_tie T) (hr.mono (by decide)) (by rfl) T.g_l_tie T.F_l_tie.kp T.B_l_tie .nil pass0 (pa_cons (pv 6) (pa_cons (pv 1) (pa_cons (pv 2) pa_nil))))))
    (pss_cons (ps_if (pt_cmpR op_eq (pe_op op_mod (pe_op op_fdiv (pe_call (ok_l_cell_at T) (hr.mono (by decide)) (by rfl) T.g_l_cell_at T.F_l_cell_at.kp T.B_l_cell_at .nil pass0 (pa_cons (pv 0) (pa_cons pe_int pa_nil))) pe_int) pe_int) pe_int (nomark _)) (pss_cons (ps_if (pt_cmpR op_gt (pv 1) pe_int (nomark _)) (pss_one (ps_set (i := 3) sc_l_ties.nd rfl (by first | exact Or.inl rfl | exact Or.inr rfl) (pe_slice sl_list (pv 3) po_none (po_some pe_int)))) pss_nil)
    (pss_one (ps_for PassesOwn.never rfl (pi_range1 (by rfl) T.b_range (pa_cons (pv 1) pa_nil)) (pg_name (i := 4) sc_l_ties.nd rfl (by first | exact Or.inl rfl | exact Or.inr rfl)) (pss_one (ps_for PassesOwn.never rfl (pi_range1 (by rfl) T.b_range (pa_cons (pv 4) pa_nil)) (pg_name (i := 5) sc_l_ties.nd rfl (by first | exact Or.inl rfl | exact Or.inr rfl)) (pss_one (ps_expr (pe_bm PySem.F.plainAttrs_list PySem.F.slot_list_append PySem.F.type_list_append mt_append (pv 3) (pa_cons (pe_tup (pa_cons (pv 5) (pa_cons (pv 4) (pa_cons (pe_op op_add pe_int (pe_op op_mod (pe_op op_add (pe_call (ok_l_cell_at T) (hr.mono (by decide)) (by rfl) T.g_l_cell_at T.F_l_cell_at.kp T.B_l_cell_at .nil pass0 (pa_cons (pv 0) (pa_cons pe_int pa_nil))) (pe_op op_mul (pv 4) (pv 5))) (pv 2))) pa_nil)))) pa_nil))))))))) pss_nil)
    (pss_one (ps_ret (pv 3)))))))

theorem sc_l_due : FnScope ["_law_ties_here", "_law_one", "_law_other", "_law_total", "_law_tie_here"] ["_law_ties_here", "_law_one", "_law_other"] (defScope s_l_due) := ⟨rfl, rfl, rfl, by decide +kernel, rfl, by decide +kernel, by decide +kernel⟩
theorem ok_l_due {A : Ads} {F : Fs} (T : Txt K mg A F) : FnOk P w K mg base CX0 1 F.f_l_due F.d_l_due ["_law_ties_here", "_law_one", "_law_other"] (sp_l_due K A) := by
  refine Fun.ok T.F_l_due sc_l_due (len_l_due K A) (fun cdv Ar outer s H vs Q E hr h => ⟨t_l_due K A, ?_, pure_l_due vs H Q E h⟩)
  exact (pss_cons (ps_set (i := 3) sc_l_due.nd rfl (by first | exact Or.inl rfl | exact Or.inr rfl) pe_int)
    (pss_cons (ps_for PassesOwn.never rfl (pi_list (pv 0)) (pg_name (i := 4) sc_l_due.nd rfl (by first | exact Or.inl rfl | exact Or.inr rfl)) (pss_one (ps_if (PW.pt (pw_or (PW.pt (pw_and (pt_cmpR op_eq (pe_ix ix_tup (pv 4) pe_int (fun _ _ => rfl)) (pv 1) (nomark _)) (pw_and1 (pt_cmpR op_eq (pe_ix ix_tup (pv 4) pe_int (fun _ _ => rfl)) (pv 2) (nomark _))))) (pw_or1 (PW.pt (pw_and (pt_cmpR op_eq (pe_ix ix_tup (pv 4) pe_int (fun _ _ => rfl)) (pv 2) (nomark _)) (pw_and1 (pt_cmpR op_eq (pe_ix ix_tup (pv 4) pe_int (fun _ _ => rfl)) (pv 1) (nomark _)))))))) (pss_one (ps_set (i := 3) sc_l_due.nd rfl (by first | exact Or.inl rfl | exact Or.inr rfl) (pe_op op_add (pv 3) (pe_ix ix_tup (pv 4) pe_int (fun _ _ => rfl))))) pss_nil)))
    (pss_one (ps_ret (pv 3)))))

theorem sc_l_same_ties : FnScope ["_law_found", "_law_ties_here", "_law_one", "_law_tie_here"] ["_law_found", "_law_ties_here"] (defScope s_l_same_ties) := ⟨rfl, rfl, rfl, by decide +kernel, rfl, by decide +kernel, by decide +kernel⟩
theorem ok_l_same_ties {A : Ads} {F : Fs} (T : Txt K mg A F) : FnOk P w K mg base CX0 2 F.f_l_same_ties F.d_l_same_ties ["_law_found", "_law_ties_here"] (sp_l_same_ties K A) := by
  refine Fun.ok T.F_l_same_ties sc_l_same_ties (len_l_same_ties K A) (fun cdv Ar outer s H vs Q E hr h => ⟨t_l_same_ties K A, ?_, pure_l_same_ties vs H Q E h⟩)
  exact (pss_cons (ps_if (PW.pt (pw_or (pt_not (pt_val (pe_callB call_isi (by rfl) T.b_isinstance (by decide +kernel) (pa_cons (pv 0) (pa_cons (pe_bltn (v := .ty "list") (by rfl) T.b_list (by decide +kernel) rfl) pa_nil))))) (pw_or1 (pt_cmpR op_ne (pe_callB call_len_seq (by rfl) T.b_len PySem.boot_len (pa_cons (pv 0) pa_nil)) (pe_callB call_len_seq (by rfl) T.b_len PySem.boot_len (pa_cons (pv 1) pa_nil)) (nomark _))))) (pss_one (ps_ret pe_bl)) pss_nil)
    (pss_cons (ps_for PassesOwn.never rfl (pi_zip (by rfl) T.b_zip (pa_cons (pv 0) (pa_cons (pv 1) pa_nil))) (pg_tup rfl (pgs_cons (pg_name (i := 2) sc_l_same_ties.nd rfl (by first | exact Or.inl rfl | exact Or.inr rfl)) (pgs_cons (pg_name (i := 3) sc_l_same_ties.nd rfl (by first | exact Or.inl rfl | exact Or.inr rfl)) pgs_nil))) (pss_cons (ps_if (PW.pt (pw_or (pt_not (pt_val (pe_callB call_isi (by rfl) T.b_isinstance (by decide +kernel) (pa_cons (pv 2) (pa_cons (pe_bltn (v := .ty "tuple") (by rfl) T.b_tuple (by decide +kernel) rfl) pa_nil))))) (pw_or (pt_cmpR op_ne (pe_callB call_len_seq (by rfl) T.b_len PySem.boot_len (pa_cons (pv 2) pa_nil)) pe_int (nomark _)) (pw_or1 (pt_cmpR (op_neD hr.units) (pv 2) (pv 3) (nomark _)))))) (pss_one (ps_ret pe_bl)) pss_nil)
    (pss_one (ps_if (PW.pt (pw_or (pt_not (pt_val (pe_call (ok_l_whole T) (hr.mono (by decide)) (by rfl) T.g_l_whole T.F_l_whole.kp T.B_l_whole .nil pass0 (pa_cons (pe_ix ix_tup (pv 2) pe_int (fun _ _ => rfl)) pa_nil)))) (pw_or (pt_not (pt_val (pe_call (ok_l_whole T) (hr.mono (by decide)) (by rfl) T.g_l_whole T.F_l_whole.kp T.B_l_whole .nil pass0 (pa_cons (pe_ix ix_tup (pv 2) pe_int (fun _ _ => rfl)) pa_nil)))) (pw_or1 (pt_not (pt_val (pe_call (ok_l_whole T) (hr.mono (by decide)) (by rfl) T.g_l_whole T.F_l_whole.kp T.B_l_whole .nil pass0 (pa_cons (pe_ix ix_tup (pv 2) pe_int (fun _ _ => rfl)) pa_nil)))))))) (pss_one (ps_ret pe_bl)) pss_nil))))
    (pss_one (ps_ret pe_bl))))

theorem sc_l_around_right : FnScope ["_law_net", "_law_ties_here", "_law_many_here", "_law_place", "_law_due_here", "_law_other", "_law_price", "_law_found"] ["_law_net", "_law_ties_here", "_law_many_here", "_law_place"] (defScope s_l_around_right) := ⟨rfl, rfl, rfl, by decide +kernel, rfl, by decide +kernel, by decide +kernel⟩
theorem ok_l_around_right {A : Ads} {F : Fs} (T : Txt K mg A F) : FnOk P w K mg base CX0 6 F.f_l_around_right F.d_l_around_right ["_law_net", "_law_ties_here", "_law_many_here", "_law_place"] (sp_l_around_right K A) := by
  refine Fun.ok T.F_l_around_right sc_l_around_right (len_l_around_right K A) (fun cdv Ar outer s H vs Q E hr h => ⟨t_l_around_right K A, ?_, pure_l_around_right vs H Q E h⟩)
  exact (pss_cons (ps_set (i := 4) sc_l_around_right.nd rfl (by first | exact Or.inl rfl | exact Or.inr rfl) (pe_lst pa_nil))
    (pss_cons (ps_for PassesOwn.never rfl (pi_range1 (by rfl) T.b_range (pa_cons (pv 2) pa_nil)) (pg_name (i := 5) sc_l_around_right.nd rfl (by first | exact Or.inl rfl | exact Or.inr rfl)) (pss_one (ps_if (pt_cmpR op_ne (pv 5) (pv 3) (nomark _)) (pss_cons (ps_set (i := 6) sc_l_around_right.nd rfl (by first | exact Or.inl rfl | exact Or.inr rfl) (pe_call (ok_l_due T) (hr.mono (by decide)) (by rfl) T.g_l_due T.F_l_due.kp T.B_l_due .nil pass0 (pa_cons (pv 1) (pa_cons (pv 3) (pa_cons (pv 5) pa_nil)))))
    (pss_cons (ps_set (i := 7) sc_l_around_right.nd rfl (by first | exact Or.inl rfl | exact Or.inr rfl) (pe_meth (pv 0) T.nc.cl T.m_between (ok_between T) (hr.mono (by decide)) T.B_between .nil passN (pa_cons (pv 3) (pa_cons (pv 5) pa_nil))))
    (pss_cons (ps_if (PW.pt (pw_or (pt_not (pt_val (pe_call (ok_l_whole T) (hr.mono (by decide)) (by rfl) T.g_l_whole T.F_l_whole.kp T.B_l_whole .nil pass0 (pa_cons (pv 7) pa_nil)))) (pw_or1 (pt_cmpR op_ne (pv 7) (pv 6) (nomark _))))) (pss_one (ps_ret pe_bl)) pss_nil)
    (pss_one (ps_if (pt_cmpR op_gt (pv 6) pe_int (nomark _)) (pss_one (ps_expr (pe_bm PySem.F.plainAttrs_list PySem.F.slot_list_append PySem.F.type_list_append mt_append (pv 4) (pa_cons (pv 5) pa_nil)))) pss_nil))))) pss_nil)))
    (pss_cons (ps_set (i := 7) sc_l_around_right.nd rfl (by first | exact Or.inl rfl | exact Or.inr rfl) (pe_meth (pv 0) T.nc.cl T.m_beside (ok_beside T) (hr.mono (by decide)) T.B_beside .nil passN (pa_cons (pv 3) pa_nil)))
    (pss_cons (ps_expr (pe_bm PySem.F.plainAttrs_list PySem.F.slot_list_append PySem.F.type_list_append mt_append (pe_meth (pv 0) T.nc.cl T.m_beside (ok_beside T) (hr.mono (by decide)) T.B_beside .nil passN (pa_cons (pe_op op_mod (pe_op op_add (pv 3) pe_int) (pv 2)) pa_nil)) (pa_cons (pe_op op_sub pe_int (pv 2)) pa_nil)))
    (pss_cons (ps_if (PW.pt (pw_or (pt_not (pt_val (pe_callB call_isi (by rfl) T.b_isinstance (by decide +kernel) (pa_cons (pv 7) (pa_cons (pe_bltn (v := .ty "list") (by rfl) T.b_list (by decide +kernel) rfl) pa_nil))))) (pw_or1 (pt_cmpR (op_neD hr.units) (pv 7) (pv 4) (nomark _))))) (pss_one (ps_ret pe_bl)) pss_nil)
    (pss_cons (ps_for PassesOwn.never rfl (pi_list (pv 7)) (pg_name (i := 5) sc_l_around_right.nd rfl (by first | exact Or.inl rfl | exact Or.inr rfl)) (pss_one (ps_if (pt_not (pt_val (pe_call (ok_l_whole T) (hr.mono (by decide)) (by rfl) T.g_l_whole T.F_l_whole.kp T.B_l_whole .nil pass0 (pa_cons (pv 5) pa_nil)))) (pss_one (ps_ret pe_bl)) pss_nil)))
    (pss_cons (ps_expr (pe_bm PySem.F.plainAttrs_list PySem.F.slot_list_append PySem.F.type_list_append mt_append (pv 7) (pa_cons (pv 2) pa_nil)))
    (pss_one (ps_ret (pe_cmpR (op_eqD hr.units) (pe_meth (pv 0) T.nc.cl T.m_beside (ok_beside T) (hr.mono (by decide)) T.B_beside .nil passN (pa_cons (pv 3) pa_nil)) (pv 4) (nomark _)))))))))))

theorem sc_law : FnScope ["_law_script", "_law_many_here", "_law_ties_here", "_law_handed", "_law_net", "_law_given", "_law_place", "_law_mark", "_law_side", "_law_rest", "_law_due_here", "_law_kept", "_law_found", "_law_price", "_law_tie_here"] ["_law_script"] (defScope s_law) := ⟨rfl, rfl, rfl, by decide +kernel, rfl, by decide +kernel, by decide +kernel⟩
theorem ok_law {A : Ads} {F : Fs} (T : Txt K mg A F) : FnOk P w K mg base CX0 7 F.f_law F.d_law ["_law_script"] (sp_law K A) := by
  refine Fun.ok T.F_law sc_law (len_law K A) (fun cdv Ar outer s H vs Q E hr h => ⟨t_law K A, ?_, pure_law T.nc vs H Q E h⟩)
  exact (pss_cons (ps_set (i := 1) sc_law.nd rfl (by first | exact Or.inl rfl | exact Or.inr rfl) (pe_call (ok_l_many T) (hr.mono (by decide)) (by rfl) T.g_l_many T.F_l_many.kp T.B_l_many .nil pass0 (pa_cons (pv 0) pa_nil)))
    (pss_cons (ps_set (i := 2) sc_law.nd rfl (by first | exact Or.inl rfl | exact Or.inr rfl) (pe_call (ok_l_ties T) (hr.mono (by decide)) (by rfl) T.g_l_ties T.F_l_ties.kp T.B_l_ties .nil pass0 (pa_cons (pv 0) (pa_cons (pv 1) pa_nil))))
    (pss_cons (ps_set (i := 3) sc_law.nd rfl (by first | exact Or.inl rfl | exact Or.inr rfl) (pe_callTy call_list_of (by rfl) T.b_list (by decide +kernel) (pa_cons (pv 2) pa_nil)))
    (pss_cons (ps_set (i := 4) sc_law.nd rfl (by first | exact Or.inl rfl | exact Or.inr rfl) (pe_make T.mkN (ok_init T) (hr.mono (by decide)) (by rfl) T.mgC T.B_init .nil passN (pa_cons (pv 1) (pa_cons (pv 3) pa_nil))))
    (pss_cons (ps_if (pt_cmpR (op_neD hr.units) (pv 3) (pv 2) (nomark _)) (pss_one (ps_ret pe_bl)) pss_nil)
    (pss_cons (ps_expr (pe_bm PySem.F.plainAttrs_list PySem.F.slot_list_append PySem.F.type_list_append mt_append (pv 3) (pa_cons (pv 3) pa_nil)))
    (pss_cons (ps_set (i := 5) sc_law.nd rfl (by first | exact Or.inl rfl | exact Or.inr rfl) (pe_meth0 (pv 4) T.nc.cl T.m_ties (ok_ties T) (hr.mono (by decide)) T.B_ties .nil pass0))
    (pss_cons (ps_expr (pe_bm PySem.F.plainAttrs_list PySem.F.slot_list_append PySem.F.type_list_append mt_append (pe_meth0 (pv 4) T.nc.cl T.m_ties (ok_ties T) (hr.mono (by decide)) T.B_ties .nil pass0) (pa_cons pe_int pa_nil)))
    (pss_cons (ps_if (PW.pt (pw_or (pt_not (pt_val (pe_call (ok_l_same_ties T) (hr.mono (by decide)) (by rfl) T.g_l_same_ties T.F_l_same_ties.kp T.B_l_same_ties .nil pass0 (pa_cons (pv 5) (pa_cons (pv 2) pa_nil))))) (pw_or (pt_not (pt_val (pe_call (ok_l_whole T) (hr.mono (by decide)) (by rfl) T.g_l_whole T.F_l_whole.kp T.B_l_whole .nil pass0 (pa_cons (pe_fld (pv 4) rfl) pa_nil)))) (pw_or1 (pt_cmpR op_ne (pe_fld (pv 4) rfl) (pv 1) (nomark _)))))) (pss_one (ps_ret pe_bl)) pss_nil)
    (pss_cons (ps_expr (pe_bm PySem.F.plainAttrs_list PySem.F.slot_list_append PySem.F.type_list_append mt_append (pv 5) (pa_cons pe_int pa_nil)))
    (pss_cons (ps_for PassesOwn.never rfl (pi_list (pe_lst (pa_cons pe_int (pa_cons (pe_op op_fdiv (pv 1) pe_int) (pa_cons (pe_op op_mod (pe_call (ok_l_cell_at T) (hr.mono (by decide)) (by rfl) T.g_l_cell_at T.F_l_cell_at.kp T.B_l_cell_at .nil pass0 (pa_cons (pv 0) (pa_cons pe_int pa_nil))) (pv 1)) pa_nil))))) (pg_name (i := 6) sc_law.nd rfl (by first | exact Or.inl rfl | exact Or.inr rfl)) (pss_one (ps_if (pt_not (pt_val (pe_call (ok_l_around_right T) (hr.mono (by decide)) (by rfl) T.g_l_around_right T.F_l_around_right.kp T.B_l_around_right .nil pass0 (pa_cons (pv 4) (pa_cons (pv 2) (pa_cons (pv 1) (pa_cons (pv 6) pa_nil))))))) (pss_one (ps_ret pe_bl)) pss_nil)))
    (pss_cons (ps_set (i := 7) sc_law.nd rfl (by first | exact Or.inl rfl | exact Or.inr rfl) (pe_call (ok_l_cell_at T) (hr.mono (by decide)) (by rfl) T.g_l_cell_at T.F_l_cell_at.kp T.B_l_cell_at .nil pass0 (pa_cons (pv 0) (pa_cons pe_int pa_nil))))
    (pss_cons (ps_set (i := 8) sc_law.nd rfl (by first | exact Or.inl rfl | exact Or.inr rfl) (pe_lst pa_nil))
    (pss_cons (ps_set (i := 9) sc_law.nd rfl (by first | exact Or.inl rfl | exact Or.inr rfl) (pe_lst pa_nil))
    (pss_cons (ps_for PassesOwn.never rfl (pi_range1 (by rfl) T.b_range (pa_cons (pv 1) pa_nil)) (pg_name (i := 6) sc_law.nd rfl (by first | exact Or.inl rfl | exact Or.inr rfl)) (pss_cons (ps_if (pt_cmpR op_eq (pe_op op_mod (pv 7) pe_int) pe_int (nomark _)) (pss_one (ps_expr (pe_bm PySem.F.plainAttrs_list PySem.F.slot_list_append PySem.F.type_list_append mt_append (pv 8) (pa_cons (pv 6) pa_nil)))) (pss_one (ps_expr (pe_bm PySem.F.plainAttrs_list PySem.F.slot_list_append PySem.F.type_list_append mt_append (pv 9) (pa_cons (pv 6) pa_nil)))))
    (pss_one (ps_set (i := 7) sc_law.nd rfl (by first | exact Or.inl rfl | exact Or.inr rfl) (pe_op op_fdiv (pv 7) pe_int)))))
    (pss_cons (ps_if (pt_cmpR op_eq (pe_op op_mod (pe_call (ok_l_cell_at T) (hr.mono (by decide)) (by rfl) T.g_l_cell_at T.F_l_cell_at.kp T.B_l_cell_at .nil pass0 (pa_cons (pv 0) (pa_cons pe_int pa_nil))) pe_int) pe_int (nomark _)) (pss_one (ps_expr (pe_bm0 PySem.F.plainAttrs_list PySem.F.slot_list_reverse PySem.F.type_list_reverse mt_reverse (pv 8)))) pss_nil)
    (pss_cons (ps_set (i := 10) sc_law.nd rfl (by first | exact Or.inl rfl | exact Or.inr rfl) (pe_callB (cr_sum rfl) (by rfl) T.b_sum (by decide +kernel) (pa_cons (pe_lc (own := [("_law_tie_here", 14)]) (g := (gName 14)) (tt := (tTest (tOp rNe (tOp (rIn K false) (tOp (rIxT K) (tVar 14) (tC (.int 0))) (tVar 8)) (tOp (rIn K false) (tOp (rIxT K) (tVar 14) (tC (.int 1))) (tVar 8))))) rfl sc_law.nd (pi_list (pv 2)) (blkOk_by (own := [("_law_tie_here", 14)]) (N := ["_law_script", "_law_many_here", "_law_ties_here", "_law_handed", "_law_net", "_law_given", "_law_place", "_law_mark", "_law_side", "_law_rest", "_law_due_here", "_law_kept", "_law_found", "_law_price", "_law_tie_here"]) (sc := defScope s_law) (by decide +kernel)) (fun _ _ _ _ _ => (pg_name (i := 14) sc_law.nd rfl (by first | exact Or.inl rfl | exact Or.inr rfl))) (fun _ _ _ _ _ => (pts_one (pt_cmpR op_ne (pe_cmpR op_in_seq (pe_ix ix_tup (pv 14) pe_int (fun _ _ => rfl)) (pv 8) (by rfl)) (pe_cmpR op_in_seq (pe_ix ix_tup (pv 14) pe_int (fun _ _ => rfl)) (pv 8) (by rfl)) (nomark _)))) (fun _ _ _ _ _ => (pe_ix ix_tup (pv 14) pe_int (fun _ _ => rfl)))) pa_nil)))
    (pss_cons (ps_set (i := 11) sc_law.nd rfl (by first | exact Or.inl rfl | exact Or.inr rfl) (pe_lst (pa_cons (pe_callTy call_list_of (by rfl) T.b_list (by decide +kernel) (pa_cons (pv 8) pa_nil)) (pa_cons (pe_callTy call_list_of (by rfl) T.b_list (by decide +kernel) (pa_cons (pv 9) pa_nil)) pa_nil))))
    (pss_cons (ps_set (i := 12) sc_law.nd rfl (by first | exact Or.inl rfl | exact Or.inr rfl) (pe_lst (pa_cons (pe_meth (pv 4) T.nc.cl T.m_price (ok_price T) (hr.mono (by decide)) T.B_price .nil passN (pa_cons (pv 8) pa_nil)) (pa_cons (pe_meth (pv 4) T.nc.cl T.m_price (ok_price T) (hr.mono (by decide)) T.B_price .nil passN (pa_cons (pv 9) pa_nil)) (pa_cons (pe_meth (pv 4) T.nc.cl T.m_price (ok_price T) (hr.mono (by decide)) T.B_price .nil passN (pa_cons (pe_lst pa_nil) pa_nil)) (pa_cons (pe_meth (pv 4) T.nc.cl T.m_price (ok_price T) (hr.mono (by decide)) T.B_price .nil passN (pa_cons (pe_listRg rfl (by rfl) T.b_list (prg_1 (by rfl) T.b_range (pv 1))) pa_nil)) pa_nil))))))
    (pss_cons (ps_if (pt_cmpR (op_neD hr.units) (pe_lst (pa_cons (pv 8) (pa_cons (pv 9) pa_nil))) (pv 11) (nomark _)) (pss_one (ps_ret pe_bl)) pss_nil)
    (pss_cons (ps_for PassesOwn.never rfl (pi_list (pv 12)) (pg_name (i := 13) sc_law.nd rfl (by first | exact Or.inl rfl | exact Or.inr rfl)) (pss_one (ps_if (pt_not (pt_val (pe_call (ok_l_whole T) (hr.mono (by decide)) (by rfl) T.g_l_whole T.F_l_whole.kp T.B_l_whole .nil pass0 (pa_cons (pv 13) pa_nil)))) (pss_one (ps_ret pe_bl)) pss_nil)))
    (pss_one (ps_ret (pe_and (pe_cmpR (op_eqD hr.units) (pv 12) (pe_lst (pa_cons (pv 10) (pa_cons (pv 10) (pa_cons pe_int (pa_cons pe_int pa_nil))))) (nomark _)) (pe_one (pe_call (ok_l_same_ties T) (hr.mono (by decide)) (by rfl) T.g_l_same_ties T.F_l_same_ties.kp T.B_l_same_ties .nil pass0 (pa_cons (pe_meth0 (pv 4) T.nc.cl T.m_ties (ok_ties T) (hr.mono (by decide)) T.B_ties .nil pass0) (pa_cons (pv 2) pa_nil))))))))))))))))))))))))))))

end
theorem all_mk {l : PySem.W.OpenLaw} {w : World} {K : PySem.W.Frag} {h : Heap} {mg : Str → Option Value} {fa : Addr} (X : K.In h) (G : h.Ns mainGlobals mg) (hfa : mg "law" = some (.ref fa))
    {C : Addr}
    {od_is_whole an_is_whole : Option Addr} {sl_is_whole : Array (Option Value)} {oc_is_whole kV_is_whole dc_is_whole pm_is_whole cd_is_whole ct_is_whole : Value} {f_is_whole : Addr}
    {od_has an_has : Option Addr} {sl_has : Array (Option Value)} {oc_has kV_has dc_has pm_has cd_has ct_has : Value} {f_has : Addr}
    {od_cost an_cost : Option Addr} {sl_cost : Array (Option Value)} {oc_cost kV_cost dc_cost pm_cost cd_cost ct_cost : Value} {f_cost : Addr}
    {od_init an_init : Option Addr} {sl_init : Array (Option Value)} {oc_init kV_init dc_init pm_init cd_init ct_init : Value} {f_init : Addr}
    {od_need an_need : Option Addr} {sl_need : Array (Option Value)} {oc_need kV_need dc_need pm_need cd_need ct_need : Value} {f_need : Addr}
    {od_need_two an_need_two : Option Addr} {sl_need_two : Array (Option Value)} {oc_need_two kV_need_two dc_need_two pm_need_two cd_need_two ct_need_two : Value} {f_need_two : Addr}
    {od_ties an_ties : Option Addr} {sl_ties : Array (Option Value)} {oc_ties kV_ties dc_ties pm_ties cd_ties ct_ties : Value} {f_ties : Addr}
    {od_between an_between : Option Addr} {sl_between : Array (Option Value)} {oc_between kV_between dc_between pm_between cd_between ct_between : Value} {f_between : Addr}
    {od_beside an_beside : Option Addr} {sl_beside : Array (Option Value)} {oc_beside kV_beside dc_beside pm_beside cd_beside ct_beside : Value} {f_beside : Addr}
    {od_price an_price : Option Addr} {sl_price : Array (Option Value)} {oc_price kV_price dc_price pm_price cd_price ct_price : Value} {f_price : Addr}
    {od_l_cell_at an_l_cell_at : Option Addr} {sl_l_cell_at : Array (Option Value)} {oc_l_cell_at kV_l_cell_at dc_l_cell_at pm_l_cell_at cd_l_cell_at ct_l_cell_at : Value} {f_l_cell_at : Addr}
    {od_l_whole an_l_whole : Option Addr} {sl_l_whole : Array (Option Value)} {oc_l_whole kV_l_whole dc_l_whole pm_l_whole cd_l_whole ct_l_whole : Value} {f_l_whole : Addr}
    {od_l_many an_l_many : Option Addr} {sl_l_many : Array (Option Value)} {oc_l_many kV_l_many dc_l_many pm_l_many cd_l_many ct_l_many : Value} {f_l_many : Addr}
    {od_l_tie an_l_tie : Option Addr} {sl_l_tie : Array (Option Value)} {oc_l_tie kV_l_tie dc_l_tie pm_l_tie cd_l_tie ct_l_tie : Value} {f_l_tie : Addr}
    {od_l_ties an_l_ties : Option Addr} {sl_l_ties : Array (Option Value)} {oc_l_ties kV_l_ties dc_l_ties pm_l_ties cd_l_ties ct_l_ties : Value} {f_l_ties : Addr}
    {od_l_due an_l_due : Option Addr} {sl_l_due : Array (Option Value)} {oc_l_due kV_l_due dc_l_due pm_l_due cd_l_due ct_l_due : Value} {f_l_due : Addr}
    {od_l_same_ties an_l_same_ties : Option Addr} {sl_l_same_ties : Array (Option Value)} {oc_l_same_ties kV_l_same_ties dc_l_same_ties pm_l_same_ties cd_l_same_ties ct_l_same_ties : Value} {f_l_same_ties : Addr}
    {od_l_around_right an_l_around_right : Option Addr} {sl_l_around_right : Array (Option Value)} {oc_l_around_right kV_l_around_right dc_l_around_right pm_l_around_right cd_l_around_right ct_l_around_right : Value} {f_l_around_right : Addr}
    {od_law an_law : Option Addr} {sl_law : Array (Option Value)} {oc_law kV_law dc_law pm_law cd_law ct_law : Value} {f_law : Addr}
    {t_MOST_PLACES : Tok}
    {t_MOST_TIES : Tok}
    {t_MOST_PRICE : Tok}
    {e_WallError : Addr}
    {e_NoNet : Addr}
    {e_NoPlace : Addr}
    {e_NoSide : Addr}
    (aC : PySem.W.nsIn K mainGlobals "Net" = some (some (.ref C)))
    (pg : PySem.W.plainGet K C Str.empty = true)
    (hd : PySem.W.hasDictIn K C = true)
    (po : PySem.W.plainOver K C = true)
    (sa : PySem.W.findIn K (.ref C) "__setattr__" = some (some (.builtin "object.__setattr__")))
    (mk : PySem.W.makesIn K C = true)
    (kc : PySem.W.keepIn K (.ref C) = true)
    (n_many : PySem.W.findIn K (.ref C) "many" = some none)
    (n_kept : PySem.W.findIn K (.ref C) "kept" = some none)
    (n_summed : PySem.W.findIn K (.ref C) "summed" = some none)
    (n_near : PySem.W.findIn K (.ref C) "near" = some none)
    (a_is_whole : PySem.W.nsIn K mainGlobals "is_whole" = some (some (.ref f_is_whole)))
    (l_is_whole : K.lookup f_is_whole = some ⟨oc_is_whole, od_is_whole, .func (PySem.W.fnOf "is_whole" "is_whole" (defArgs s_is_whole) (defBody s_is_whole) (defScope s_is_whole) .none kV_is_whole dc_is_whole pm_is_whole an_is_whole cd_is_whole ct_is_whole), sl_is_whole⟩)
    (c_is_whole : PySem.W.codeIn K cd_is_whole "is_whole" = true)
    (k_is_whole : PySem.W.keepIn K (.ref f_is_whole) = true)
    (a_has : PySem.W.findIn K (.ref C) "has" = some (some (.ref f_has)))
    (i_has : PySem.W.isFn K (.ref f_has) = true)
    (l_has : K.lookup f_has = some ⟨oc_has, od_has, .func (PySem.W.fnOf "has" "Net.has" (defArgs s_has) (defBody s_has) (defScope s_has) .none kV_has dc_has pm_has an_has cd_has ct_has), sl_has⟩)
    (c_has : PySem.W.codeIn K cd_has "Net.has" = true)
    (k_has : PySem.W.keepIn K (.ref f_has) = true)
    (a_cost : PySem.W.findIn K (.ref C) "cost" = some (some (.ref f_cost)))
    (i_cost : PySem.W.isFn K (.ref f_cost) = true)
    (l_cost : K.lookup f_cost = some ⟨oc_cost, od_cost, .func (PySem.W.fnOf "cost" "Net.cost" (defArgs s_cost) (defBody s_cost) (defScope s_cost) .none kV_cost dc_cost pm_cost an_cost cd_cost ct_cost), sl_cost⟩)
    (c_cost : PySem.W.codeIn K cd_cost "Net.cost" = true)
    (k_cost : PySem.W.keepIn K (.ref f_cost) = true)
    (a_init : PySem.W.findIn K (.ref C) "__init__" = some (some (.ref f_init)))
    (i_init : PySem.W.isFn K (.ref f_init) = true)
    (l_init : K.lookup f_init = some ⟨oc_init, od_init, .func (PySem.W.fnOf "__init__" "Net.__init__" (defArgs s_init) (defBody s_init) (defScope s_init) .none kV_init dc_init pm_init an_init cd_init ct_init), sl_init⟩)
    (c_init : PySem.W.codeIn K cd_init "Net.__init__" = true)
    (k_init : PySem.W.keepIn K (.ref f_init) = true)
    (a_need : PySem.W.findIn K (.ref C) "need" = some (some (.ref f_need)))
    (i_need : PySem.W.isFn K (.ref f_need) = true)
    (l_need : K.lookup f_need = some ⟨oc_need, od_need, .func (PySem.W.fnOf "need" "Net.need" (defArgs s_need) (defBody s_need) (defScope s_need) .none kV_need dc_need pm_need an_need cd_need ct_need), sl_need⟩)
    (c_need : PySem.W.codeIn K cd_need "Net.need" = true)
    (k_need : PySem.W.keepIn K (.ref f_need) = true)
    (a_need_two : PySem.W.findIn K (.ref C) "need_two" = some (some (.ref f_need_two)))
    (i_need_two : PySem.W.isFn K (.ref f_need_two) = true)
    (l_need_two : K.lookup f_need_two = some ⟨oc_need_two, od_need_two, .func (PySem.W.fnOf "need_two" "Net.need_two" (defArgs s_need_two) (defBody s_need_two) (defScope s_need_two) .none kV_need_two dc_need_two pm_need_two an_need_two cd_need_two ct_need_two), sl_need_two⟩)
    (c_need_two : PySem.W.codeIn K cd_need_two "Net.need_two" = true)
    (k_need_two : PySem.W.keepIn K (.ref f_need_two) = true)
    (a_ties : PySem.W.findIn K (.ref C) "ties" = some (some (.ref f_ties)))
    (i_ties : PySem.W.isFn K (.ref f_ties) = true)
    (l_ties : K.lookup f_ties = some ⟨oc_ties, od_ties, .func (PySem.W.fnOf "ties" "Net.ties" (defArgs s_ties) (defBody s_ties) (defScope s_ties) .none kV_ties dc_ties pm_ties an_ties cd_ties ct_ties), sl_ties⟩)
    (c_ties : PySem.W.codeIn K cd_ties "Net.ties" = true)
    (k_ties : PySem.W.keepIn K (.ref f_ties) = true)
    (a_between : PySem.W.findIn K (.ref C) "between" = some (some (.ref f_between)))
    (i_between : PySem.W.isFn K (.ref f_between) = true)
    (l_between : K.lookup f_between = some ⟨oc_between, od_between, .func (PySem.W.fnOf "between" "Net.between" (defArgs s_between) (defBody s_between) (defScope s_between) .none kV_between dc_between pm_between an_between cd_between ct_between), sl_between⟩)
    (c_between : PySem.W.codeIn K cd_between "Net.between" = true)
    (k_between : PySem.W.keepIn K (.ref f_between) = true)
    (a_beside : PySem.W.findIn K (.ref C) "beside" = some (some (.ref f_beside)))
    (i_beside : PySem.W.isFn K (.ref f_beside) = true)
    (l_beside : K.lookup f_beside = some ⟨oc_beside, od_beside, .func (PySem.W.fnOf "beside" "Net.beside" (defArgs s_beside) (defBody s_beside) (defScope s_beside) .none kV_beside dc_beside pm_beside an_beside cd_beside ct_beside), sl_beside⟩)
    (c_beside : PySem.W.codeIn K cd_beside "Net.beside" = true)
    (k_beside : PySem.W.keepIn K (.ref f_beside) = true)
    (a_price : PySem.W.findIn K (.ref C) "price" = some (some (.ref f_price)))
    (i_price : PySem.W.isFn K (.ref f_price) = true)
    (l_price : K.lookup f_price = some ⟨oc_price, od_price, .func (PySem.W.fnOf "price" "Net.price" (defArgs s_price) (defBody s_price) (defScope s_price) .none kV_price dc_price pm_price an_price cd_price ct_price), sl_price⟩)
    (c_price : PySem.W.codeIn K cd_price "Net.price" = true)
    (k_price : PySem.W.keepIn K (.ref f_price) = true)
    (a_l_cell_at : PySem.W.nsIn K mainGlobals "_law_cell_at" = some (some (.ref f_l_cell_at)))
    (l_l_cell_at : K.lookup f_l_cell_at = some ⟨oc_l_cell_at, od_l_cell_at, .func (PySem.W.fnOf "_law_cell_at" "_law_cell_at" (defArgs s_l_cell_at) (defBody s_l_cell_at) (defScope s_l_cell_at) .none kV_l_cell_at dc_l_cell_at pm_l_cell_at an_l_cell_at cd_l_cell_at ct_l_cell_at), sl_l_cell_at⟩)
    (c_l_cell_at : PySem.W.codeIn K cd_l_cell_at "_law_cell_at" = true)
    (k_l_cell_at : PySem.W.keepIn K (.ref f_l_cell_at) = true)
    (a_l_whole : PySem.W.nsIn K mainGlobals "_law_whole" = some (some (.ref f_l_whole)))
    (l_l_whole : K.lookup f_l_whole = some ⟨oc_l_whole, od_l_whole, .func (PySem.W.fnOf "_law_whole" "_law_whole" (defArgs s_l_whole) (defBody s_l_whole) (defScope s_l_whole) .none kV_l_whole dc_l_whole pm_l_whole an_l_whole cd_l_whole ct_l_whole), sl_l_whole⟩)
    (c_l_whole : PySem.W.codeIn K cd_l_whole "_law_whole" = true)
    (k_l_whole : PySem.W.keepIn K (.ref f_l_whole) = true)
    (a_l_many : PySem.W.nsIn K mainGlobals "_law_many" = some (some (.ref f_l_many)))
    (l_l_many : K.lookup f_l_many = some ⟨oc_l_many, od_l_many, .func (PySem.W.fnOf "_law_many" "_law_many" (defArgs s_l_many) (defBody s_l_many) (defScope s_l_many) .none kV_l_many dc_l_many pm_l_many an_l_many cd_l_many ct_l_many), sl_l_many⟩)
    (c_l_many : PySem.W.codeIn K cd_l_many "_law_many" = true)
    (k_l_many : PySem.W.keepIn K (.ref f_l_many) = true)
    (a_l_tie : PySem.W.nsIn K mainGlobals "_law_tie" = some (some (.ref f_l_tie)))
    (l_l_tie : K.lookup f_l_tie = some ⟨oc_l_tie, od_l_tie, .func (PySem.W.fnOf "_law_tie" "_law_tie" (defArgs s_l_tie) (defBody s_l_tie) (defScope s_l_tie) .none kV_l_tie dc_l_tie pm_l_tie an_l_tie cd_l_tie ct_l_tie), sl_l_tie⟩)
    (c_l_tie : PySem.W.codeIn K cd_l_tie "_law_tie" = true)
    (k_l_tie : PySem.W.keepIn K (.ref f_l_tie) = true)
    (a_l_ties : PySem.W.nsIn K mainGlobals "_law_ties" = some (some (.ref f_l_ties)))
    (l_l_ties : K.lookup f_l_ties = some ⟨oc_l_ties, od_l_ties, .func (PySem.W.fnOf "_law_ties" "_law_ties" (defArgs s_l_ties) (defBody s_l_ties) (defScope s_l_ties) .none kV_l_ties dc_l_ties pm_l_ties an_l_ties cd_l_ties ct_l_ties), sl_l_ties⟩)
    (c_l_ties : PySem.W.codeIn K cd_l_ties "_law_ties" = true)
    (k_l_ties : PySem.W.keepIn K (.ref f_l_ties) = true)
    (a_l_due : PySem.W.nsIn K mainGlobals "_law_due" = some (some (.ref f_l_due)))
    (l_l_due : K.lookup f_l_due = some ⟨oc_l_due, od_l_due, .func (PySem.W.fnOf "_law_due" "_law_due" (defArgs s_l_due) (defBody s_l_due) (defScope s_l_due) .none kV_l_due dc_l_due pm_l_due an_l_due cd_l_due ct_l_due), sl_l_due⟩)
    (c_l_due : PySem.W.codeIn K cd_l_due "_law_due" = true)
    (k_l_due : PySem.W.keepIn K (.ref f_l_due) = true)
    (a_l_same_ties : PySem.W.nsIn K mainGlobals "_law_same_ties" = some (some (.ref f_l_same_ties)))
    (l_l_same_ties : K.lookup f_l_same_ties = some ⟨oc_l_same_ties, od_l_same_ties, .func (PySem.W.fnOf "_law_same_ties" "_law_same_ties" (defArgs s_l_same_ties) (defBody s_l_same_ties) (defScope s_l_same_ties) .none kV_l_same_ties dc_l_same_ties pm_l_same_ties an_l_same_ties cd_l_same_ties ct_l_same_ties), sl_l_same_ties⟩)
    (c_l_same_ties : PySem.W.codeIn K cd_l_same_ties "_law_same_ties" = true)
    (k_l_same_ties : PySem.W.keepIn K (.ref f_l_same_ties) = true)
    (a_l_around_right : PySem.W.nsIn K mainGlobals "_law_around_right" = some (some (.ref f_l_around_right)))
    (l_l_around_right : K.lookup f_l_around_right = some ⟨oc_l_around_right, od_l_around_right, .func (PySem.W.fnOf "_law_around_right" "_law_around_right" (defArgs s_l_around_right) (defBody s_l_around_right) (defScope s_l_around_right) .none kV_l_around_right dc_l_around_right pm_l_around_right an_l_around_right cd_l_around_right ct_l_around_right), sl_l_around_right⟩)
    (c_l_around_right : PySem.W.codeIn K cd_l_around_right "_law_around_right" = true)
    (k_l_around_right : PySem.W.keepIn K (.ref f_l_around_right) = true)
    (a_law : PySem.W.nsIn K mainGlobals "law" = some (some (.ref f_law)))
    (l_law : K.lookup f_law = some ⟨oc_law, od_law, .func (PySem.W.fnOf "law" "law" (defArgs s_law) (defBody s_law) (defScope s_law) .none kV_law dc_law pm_law an_law cd_law ct_law), sl_law⟩)
    (c_law : PySem.W.codeIn K cd_law "law" = true)
    (k_law : PySem.W.keepIn K (.ref f_law) = true)
    (z_bool : PySem.W.nsIn K mainGlobals "bool" = some none)
    (z_int : PySem.W.nsIn K mainGlobals "int" = some none)
    (z_isinstance : PySem.W.nsIn K mainGlobals "isinstance" = some none)
    (z_len : PySem.W.nsIn K mainGlobals "len" = some none)
    (z_list : PySem.W.nsIn K mainGlobals "list" = some none)
    (z_max : PySem.W.nsIn K mainGlobals "max" = some none)
    (z_min : PySem.W.nsIn K mainGlobals "min" = some none)
    (z_range : PySem.W.nsIn K mainGlobals "range" = some none)
    (z_sorted : PySem.W.nsIn K mainGlobals "sorted" = some none)
    (z_sum : PySem.W.nsIn K mainGlobals "sum" = some none)
    (z_tuple : PySem.W.nsIn K mainGlobals "tuple" = some none)
    (z_zip : PySem.W.nsIn K mainGlobals "zip" = some none)
    (v_MOST_PLACES : PySem.W.nsIn K mainGlobals "MOST_PLACES" = some (some (.int 24 t_MOST_PLACES)))
    (v_MOST_TIES : PySem.W.nsIn K mainGlobals "MOST_TIES" = some (some (.int 300 t_MOST_TIES)))
    (v_MOST_PRICE : PySem.W.nsIn K mainGlobals "MOST_PRICE" = some (some (.int 1000000000 t_MOST_PRICE)))
    (xg_WallError : PySem.W.nsIn K mainGlobals "WallError" = some (some (.ref e_WallError)))
    (xq_WallError : PySem.W.excIn K e_WallError [.type "ValueError", .type "Exception", .type "BaseException", .type "object"] "ValueError.__new__" = true)
    (xk_WallError : PySem.W.keepIn K (.ref e_WallError) = true)
    (xb_WallError : PySem.W.subIn K (.ref e_WallError) (.type "BaseException") = some true)
    (xt_WallError : PySem.W.typeIn K (.ref e_WallError) = some (.type "type"))
    (xg_NoNet : PySem.W.nsIn K mainGlobals "NoNet" = some (some (.ref e_NoNet)))
    (xq_NoNet : PySem.W.excIn K e_NoNet [.type "ValueError", .type "Exception", .type "BaseException", .type "object"] "ValueError.__new__" = true)
    (xk_NoNet : PySem.W.keepIn K (.ref e_NoNet) = true)
    (xb_NoNet : PySem.W.subIn K (.ref e_NoNet) (.type "BaseException") = some true)
    (xt_NoNet : PySem.W.typeIn K (.ref e_NoNet) = some (.type "type"))
    (xg_NoPlace : PySem.W.nsIn K mainGlobals "NoPlace" = some (some (.ref e_NoPlace)))
    (xq_NoPlace : PySem.W.excIn K e_NoPlace [.type "ValueError", .type "Exception", .type "BaseException", .type "object"] "ValueError.__new__" = true)
    (xk_NoPlace : PySem.W.keepIn K (.ref e_NoPlace) = true)
    (xb_NoPlace : PySem.W.subIn K (.ref e_NoPlace) (.type "BaseException") = some true)
    (xt_NoPlace : PySem.W.typeIn K (.ref e_NoPlace) = some (.type "type"))
    (xg_NoSide : PySem.W.nsIn K mainGlobals "NoSide" = some (some (.ref e_NoSide)))
    (xq_NoSide : PySem.W.excIn K e_NoSide [.type "ValueError", .type "Exception", .type "BaseException", .type "object"] "ValueError.__new__" = true)
    (xk_NoSide : PySem.W.keepIn K (.ref e_NoSide) = true)
    (xb_NoSide : PySem.W.subIn K (.ref e_NoSide) (.type "BaseException") = some true)
    (xt_NoSide : PySem.W.typeIn K (.ref e_NoSide) = some (.type "type"))
    : ∃ fd : FuncData, (∀ (s : Shared) (v : Value), BindsTo s fd ⟨[v], []⟩ [("_law_script", v)]) ∧ ∀ base : Heap, K.In base → base.Ns mainGlobals mg → FnOk l.prog w K mg base CX0 7 fa fd ["_law_script"] (spLaw K) := by
  have e := hfa.symm.trans (PySem.W.mg_of X G a_law)
  cases e
  let A : Ads := ⟨C, e_WallError, e_NoNet, e_NoPlace, e_NoSide, 0⟩
  have F_is_whole := fun_mk (st := s_is_whole) l_is_whole c_is_whole k_is_whole
  have B_is_whole := F_is_whole.binds (ps := ["thing"]) fun _ _ _ _ _ _ us hl => match us, hl with | [_], _ => rfl
  have F_has := fun_mk (st := s_has) l_has c_has k_has
  have B_has := F_has.binds (ps := ["self", "place"]) fun _ _ _ _ _ _ us hl => match us, hl with | [_, _], _ => rfl
  have F_cost := fun_mk (st := s_cost) l_cost c_cost k_cost
  have B_cost := F_cost.binds (ps := ["self", "one", "other"]) fun _ _ _ _ _ _ us hl => match us, hl with | [_, _, _], _ => rfl
  have F_init := fun_mk (st := s_init) l_init c_init k_init
  have B_init := F_init.binds (ps := ["self", "many", "ties"]) fun _ _ _ _ _ _ us hl => match us, hl with | [_, _, _], _ => rfl
  have F_need := fun_mk (st := s_need) l_need c_need k_need
  have B_need := F_need.binds (ps := ["self", "place"]) fun _ _ _ _ _ _ us hl => match us, hl with | [_, _], _ => rfl
  have F_need_two := fun_mk (st := s_need_two) l_need_two c_need_two k_need_two
  have B_need_two := F_need_two.binds (ps := ["self", "one", "other"]) fun _ _ _ _ _ _ us hl => match us, hl with | [_, _, _], _ => rfl
  have F_ties := fun_mk (st := s_ties) l_ties c_ties k_ties
  have B_ties := F_ties.binds (ps := ["self"]) fun _ _ _ _ _ _ us hl => match us, hl with | [_], _ => rfl
  have F_between := fun_mk (st := s_between) l_between c_between k_between
  have B_between := F_between.binds (ps := ["self", "one", "other"]) fun _ _ _ _ _ _ us hl => match us, hl with | [_, _, _], _ => rfl
  have F_beside := fun_mk (st := s_beside) l_beside c_beside k_beside
  have B_beside := F_beside.binds (ps := ["self", "place"]) fun _ _ _ _ _ _ us hl => match us, hl with | [_, _], _ => rfl
  have F_price := fun_mk (st := s_price) l_price c_price k_price
  have B_price := F_price.binds (ps := ["self", "side"]) fun _ _ _ _ _ _ us hl => match us, hl with | [_, _], _ => rfl
  have F_l_cell_at := fun_mk (st := s_l_cell_at) l_l_cell_at c_l_cell_at k_l_cell_at
  have B_l_cell_at := F_l_cell_at.binds (ps := ["_law_script", "_law_k"]) fun _ _ _ _ _ _ us hl => match us, hl with | [_, _], _ => rfl
  have F_l_whole := fun_mk (st := s_l_whole) l_l_whole c_l_whole k_l_whole
  have B_l_whole := F_l_whole.binds (ps := ["_law_found"]) fun _ _ _ _ _ _ us hl => match us, hl with | [_], _ => rfl
  have F_l_many := fun_mk (st := s_l_many) l_l_many c_l_many k_l_many
  have B_l_many := F_l_many.binds (ps := ["_law_script"]) fun _ _ _ _ _ _ us hl => match us, hl with | [_], _ => rfl
  have F_l_tie := fun_mk (st := s_l_tie) l_l_tie c_l_tie k_l_tie
  have B_l_tie := F_l_tie.binds (ps := ["_law_cell", "_law_many_here", "_law_top"]) fun _ _ _ _ _ _ us hl => match us, hl with | [_, _, _], _ => rfl
  have F_l_ties := fun_mk (st := s_l_ties) l_l_ties c_l_ties k_l_ties
  have B_l_ties := F_l_ties.binds (ps := ["_law_script", "_law_many_here"]) fun _ _ _ _ _ _ us hl => match us, hl with | [_, _], _ => rfl
  have F_l_due := fun_mk (st := s_l_due) l_l_due c_l_due k_l_due
  have B_l_due := F_l_due.binds (ps := ["_law_ties_here", "_law_one", "_law_other"]) fun _ _ _ _ _ _ us hl => match us, hl with | [_, _, _], _ => rfl
  have F_l_same_ties := fun_mk (st := s_l_same_ties) l_l_same_ties c_l_same_ties k_l_same_ties
  have B_l_same_ties := F_l_same_ties.binds (ps := ["_law_found", "_law_ties_here"]) fun _ _ _ _ _ _ us hl => match us, hl with | [_, _], _ => rfl
  have F_l_around_right := fun_mk (st := s_l_around_right) l_l_around_right c_l_around_right k_l_around_right
  have B_l_around_right := F_l_around_right.binds (ps := ["_law_net", "_law_ties_here", "_law_many_here", "_law_place"]) fun _ _ _ _ _ _ us hl => match us, hl with | [_, _, _, _], _ => rfl
  have F_law := fun_mk (st := s_law) l_law c_law k_law
  have B_law := F_law.binds (ps := ["_law_script"]) fun _ _ _ _ _ _ us hl => match us, hl with | [_], _ => rfl
  let F : Fs := ⟨f_is_whole, PySem.W.fnOf "is_whole" "is_whole" (defArgs s_is_whole) (defBody s_is_whole) (defScope s_is_whole) .none kV_is_whole dc_is_whole pm_is_whole an_is_whole cd_is_whole ct_is_whole,
    f_has, PySem.W.fnOf "has" "Net.has" (defArgs s_has) (defBody s_has) (defScope s_has) .none kV_has dc_has pm_has an_has cd_has ct_has,
    f_cost, PySem.W.fnOf "cost" "Net.cost" (defArgs s_cost) (defBody s_cost) (defScope s_cost) .none kV_cost dc_cost pm_cost an_cost cd_cost ct_cost,
    f_init, PySem.W.fnOf "__init__" "Net.__init__" (defArgs s_init) (defBody s_init) (defScope s_init) .none kV_init dc_init pm_init an_init cd_init ct_init,
    f_need, PySem.W.fnOf "need" "Net.need" (defArgs s_need) (defBody s_need) (defScope s_need) .none kV_need dc_need pm_need an_need cd_need ct_need,
    f_need_two, PySem.W.fnOf "need_two" "Net.need_two" (defArgs s_need_two) (defBody s_need_two) (defScope s_need_two) .none kV_need_two dc_need_two pm_need_two an_need_two cd_need_two ct_need_two,
    f_ties, PySem.W.fnOf "ties" "Net.ties" (defArgs s_ties) (defBody s_ties) (defScope s_ties) .none kV_ties dc_ties pm_ties an_ties cd_ties ct_ties,
    f_between, PySem.W.fnOf "between" "Net.between" (defArgs s_between) (defBody s_between) (defScope s_between) .none kV_between dc_between pm_between an_between cd_between ct_between,
    f_beside, PySem.W.fnOf "beside" "Net.beside" (defArgs s_beside) (defBody s_beside) (defScope s_beside) .none kV_beside dc_beside pm_beside an_beside cd_beside ct_beside,
    f_price, PySem.W.fnOf "price" "Net.price" (defArgs s_price) (defBody s_price) (defScope s_price) .none kV_price dc_price pm_price an_price cd_price ct_price,
    f_l_cell_at, PySem.W.fnOf "_law_cell_at" "_law_cell_at" (defArgs s_l_cell_at) (defBody s_l_cell_at) (defScope s_l_cell_at) .none kV_l_cell_at dc_l_cell_at pm_l_cell_at an_l_cell_at cd_l_cell_at ct_l_cell_at,
    f_l_whole, PySem.W.fnOf "_law_whole" "_law_whole" (defArgs s_l_whole) (defBody s_l_whole) (defScope s_l_whole) .none kV_l_whole dc_l_whole pm_l_whole an_l_whole cd_l_whole ct_l_whole,
    f_l_many, PySem.W.fnOf "_law_many" "_law_many" (defArgs s_l_many) (defBody s_l_many) (defScope s_l_many) .none kV_l_many dc_l_many pm_l_many an_l_many cd_l_many ct_l_many,
    f_l_tie, PySem.W.fnOf "_law_tie" "_law_tie" (defArgs s_l_tie) (defBody s_l_tie) (defScope s_l_tie) .none kV_l_tie dc_l_tie pm_l_tie an_l_tie cd_l_tie ct_l_tie,
    f_l_ties, PySem.W.fnOf "_law_ties" "_law_ties" (defArgs s_l_ties) (defBody s_l_ties) (defScope s_l_ties) .none kV_l_ties dc_l_ties pm_l_ties an_l_ties cd_l_ties ct_l_ties,
    f_l_due, PySem.W.fnOf "_law_due" "_law_due" (defArgs s_l_due) (defBody s_l_due) (defScope s_l_due) .none kV_l_due dc_l_due pm_l_due an_l_due cd_l_due ct_l_due,
    f_l_same_ties, PySem.W.fnOf "_law_same_ties" "_law_same_ties" (defArgs s_l_same_ties) (defBody s_l_same_ties) (defScope s_l_same_ties) .none kV_l_same_ties dc_l_same_ties pm_l_same_ties an_l_same_ties cd_l_same_ties ct_l_same_ties,
    f_l_around_right, PySem.W.fnOf "_law_around_right" "_law_around_right" (defArgs s_l_around_right) (defBody s_l_around_right) (defScope s_l_around_right) .none kV_l_around_right dc_l_around_right pm_l_around_right an_l_around_right cd_l_around_right ct_l_around_right,
    fa, PySem.W.fnOf "law" "law" (defArgs s_law) (defBody s_law) (defScope s_law) .none kV_law dc_law pm_law an_law cd_law ct_law⟩
  have T : Txt K mg A F := ⟨⟨⟨pg, hd, po, sa⟩, n_many, n_kept, n_summed, n_near⟩, PySem.W.mg_of X G aC, ⟨mk, a_init, i_init, kc⟩,
    F_is_whole, B_is_whole,
    PySem.W.mg_of X G a_is_whole,
    F_has, B_has,
    ⟨a_has, i_has, k_has⟩,
    F_cost, B_cost,
    ⟨a_cost, i_cost, k_cost⟩,
    F_init, B_init,
    F_need, B_need,
    ⟨a_need, i_need, k_need⟩,
    F_need_two, B_need_two,
    ⟨a_need_two, i_need_two, k_need_two⟩,
    F_ties, B_ties,
    ⟨a_ties, i_ties, k_ties⟩,
    F_between, B_between,
    ⟨a_between, i_between, k_between⟩,
    F_beside, B_beside,
    ⟨a_beside, i_beside, k_beside⟩,
    F_price, B_price,
    ⟨a_price, i_price, k_price⟩,
    F_l_cell_at, B_l_cell_at,
    PySem.W.mg_of X G a_l_cell_at,
    F_l_whole, B_l_whole,
    PySem.W.mg_of X G a_l_whole,
    F_l_many, B_l_many,
    PySem.W.mg_of X G a_l_many,
    F_l_tie, B_l_tie,
    PySem.W.mg_of X G a_l_tie,
    F_l_ties, B_l_ties,
    PySem.W.mg_of X G a_l_ties,
    F_l_due, B_l_due,
    PySem.W.mg_of X G a_l_due,
    F_l_same_ties, B_l_same_ties,
    PySem.W.mg_of X G a_l_same_ties,
    F_l_around_right, B_l_around_right,
    PySem.W.mg_of X G a_l_around_right,
    F_law, B_law,
    PySem.W.mg_of X G a_law,
    PySem.W.mg_none_of X G z_bool,
    PySem.W.mg_none_of X G z_int,
    PySem.W.mg_none_of X G z_isinstance,
    PySem.W.mg_none_of X G z_len,
    PySem.W.mg_none_of X G z_list,
    PySem.W.mg_none_of X G z_max,
    PySem.W.mg_none_of X G z_min,
    PySem.W.mg_none_of X G z_range,
    PySem.W.mg_none_of X G z_sorted,
    PySem.W.mg_none_of X G z_sum,
    PySem.W.mg_none_of X G z_tuple,
    PySem.W.mg_none_of X G z_zip,
    ⟨_, PySem.W.mg_of X G v_MOST_PLACES⟩,
    ⟨_, PySem.W.mg_of X G v_MOST_TIES⟩,
    ⟨_, PySem.W.mg_of X G v_MOST_PRICE⟩,
    ⟨PySem.W.mg_of X G xg_WallError, xq_WallError, xk_WallError, xb_WallError, xt_WallError⟩,
    ⟨PySem.W.mg_of X G xg_NoNet, xq_NoNet, xk_NoNet, xb_NoNet, xt_NoNet⟩,
    ⟨PySem.W.mg_of X G xg_NoPlace, xq_NoPlace, xk_NoPlace, xb_NoPlace, xt_NoPlace⟩,
    ⟨PySem.W.mg_of X G xg_NoSide, xq_NoSide, xk_NoSide, xb_NoSide, xt_NoSide⟩⟩
  exact ⟨F.d_law, fun s v => .of_eq rfl, fun base _ _ => ok_law T⟩
theorem walk {l : PySem.W.OpenLaw} {q : Program} {loose : List Str} {XP : (Str → Option Value) → Heap → Prop} {YP : World → Heap → Prop} {d : DefRec} {K : Params → PySem.W.Frag} (hn : l.most = some 63) (hdf : d.params.defaults = [])
    (hY : ∀ (w : World) (h : Heap), YP w h → (K w.params).In h)
    (F : ∀ (w : World) (mg : Str → Option Value) (fa : Addr) (h : Heap), (K w.params).In h → h.Ns mainGlobals mg → mg d.name = some (.ref fa) →
      ∃ fd : FuncData, (∀ (s : Shared) (u : Value), BindsTo s fd ⟨[u], []⟩ [("_law_script", u)]) ∧ ∀ base : Heap, (K w.params).In base → base.Ns mainGlobals mg → FnOk l.prog w (K w.params) mg base CX0 7 fa fd ["_law_script"] (spLaw (K w.params))) :
    PySem.W.WalkO q loose XP YP l.row.toRowW d [] (fun f vs => PySem.call f vs) :=
  L2.walk_of (n := 63) (k := 7) (x := "_law_script") (CX := fun _ => CX0) (sp := fun w => spLaw (K w.params)) hn (by decide) hdf ⟨rfl, by decide, by decide⟩ hY F (fun _ _ a ns hl _ hS => ⟨a, ns, rfl, hS, hl, fun _ => rfl⟩) fun _ _ _ _ _ z => z

end OW

open PySem PySem.W PyProof.Rows in
set_option maxRecDepth 100000 in
set_option maxHeartbeats 0 in
theorem PySem.Challenge.cw_onewalls_k01_ties_and_prices_holds : PySem.Challenge.rw_onewalls_k01_ties_and_prices.Holds := by
  w_on; o_law; k_head; (case hw => w_witness2)
  k_fill
  refine OW.walk (l := PySem.Challenge.rw_onewalls_k01_ties_and_prices) rfl rfl (fun w h Y => PySem.W.kIn_of Y) ?F
  case F =>
    intro w mg fa h KX G hmg
    refine' OW.all_mk KX G hmg ?aC ?pg ?hd ?po ?sa ?mk ?kc ?n_many ?n_kept ?n_summed ?n_near ?a_is_whole ?l_is_whole ?c_is_whole ?k_is_whole ?a_has ?i_has ?l_has ?c_has ?k_has ?a_cost ?i_cost ?l_cost ?c_cost ?k_cost ?a_init ?i_init ?l_init ?c_init ?k_init ?a_need ?i_need ?l_need ?c_need ?k_need ?a_need_two ?i_need_two ?l_need_two ?c_need_two ?k_need_two ?a_ties ?i_ties ?l_ties ?c_ties ?k_ties ?a_between ?i_between ?l_between ?c_between ?k_between ?a_beside ?i_beside ?l_beside ?c_beside ?k_beside ?a_price ?i_price ?l_price ?c_price ?k_price ?a_l_cell_at ?l_l_cell_at ?c_l_cell_at ?k_l_cell_at ?a_l_whole ?l_l_whole ?c_l_whole ?k_l_whole ?a_l_many ?l_l_many ?c_l_many ?k_l_many ?a_l_tie ?l_l_tie ?c_l_tie ?k_l_tie ?a_l_ties ?l_l_ties ?c_l_ties ?k_l_ties ?a_l_due ?l_l_due ?c_l_due ?k_l_due ?a_l_same_ties ?l_l_same_ties ?c_l_same_ties ?k_l_same_ties ?a_l_around_right ?l_l_around_right ?c_l_around_right ?k_l_around_right ?a_law ?l_law ?c_law ?k_law ?z_bool ?z_int ?z_isinstance ?z_len ?z_list ?z_max ?z_min ?z_range ?z_sorted ?z_sum ?z_tuple ?z_zip ?v_MOST_PLACES ?v_MOST_TIES ?v_MOST_PRICE ?xg_WallError ?xq_WallError ?xk_WallError ?xb_WallError ?xt_WallError ?xg_NoNet ?xq_NoNet ?xk_NoNet ?xb_NoNet ?xt_NoNet ?xg_NoPlace ?xq_NoPlace ?xk_NoPlace ?xb_NoPlace ?xt_NoPlace ?xg_NoSide ?xq_NoSide ?xk_NoSide ?xb_NoSide ?xt_NoSide
    (case aC => k_is)
    (case pg => k_is)
    (case hd => k_is)
    (case po => k_is)
    (case sa => k_is)
    (case mk => k_is)
    (case kc => k_is)
    (case n_many => k_is)
    (case n_kept => k_is)
    (case n_summed => k_is)
    (case n_near => k_is)
    (case a_is_whole => k_is)
    (case l_is_whole => k_is)
    (case c_is_whole => k_is)
    (case k_is_whole => k_is)
    (case a_has => k_is)
    (case i_has => k_is)
    (case l_has => k_is)
    (case c_has => k_is)
    (case k_has => k_is)
    (case a_cost => k_is)
    (case i_cost => k_is)
    (case l_cost => k_is)
    (case c_cost => k_is)
    (case k_cost => k_is)
    (case a_init => k_is)
    (case i_init => k_is)
    (case l_init => k_is)
    (case c_init => k_is)
    (case k_init => k_is)
    (case a_need => k_is)
    (case i_need => k_is)
    (case l_need => k_is)
    (case c_need => k_is)
    (case k_need => k_is)
    (case a_need_two => k_is)
    (case i_need_two => k_is)
    (case l_need_two => k_is)
    (case c_need_two => k_is)
    (case k_need_two => k_is)
    (case a_ties => k_is)
    (case i_ties => k_is)
    (case l_ties => k_is)
    (case c_ties => k_is)
    (case k_ties => k_is)
    (case a_between => k_is)
    (case i_between => k_is)
    (case l_between => k_is)
    (case c_between => k_is)
    (case k_between => k_is)
    (case a_beside => k_is)
    (case i_beside => k_is)
    (case l_beside => k_is)
    (case c_beside => k_is)
    (case k_beside => k_is)
    (case a_price => k_is)
    (case i_price => k_is)
    (case l_price => k_is)
    (case c_price => k_is)
    (case k_price => k_is)
    (case a_l_cell_at => k_is)
    (case l_l_cell_at => k_is)
    (case c_l_cell_at => k_is)
    (case k_l_cell_at => k_is)
    (case a_l_whole => k_is)
    (case l_l_whole => k_is)
    (case c_l_whole => k_is)
    (case k_l_whole => k_is)
    (case a_l_many => k_is)
    (case l_l_many => k_is)
    (case c_l_many => k_is)
    (case k_l_many => k_is)
    (case a_l_tie => k_is)
    (case l_l_tie => k_is)
    (case c_l_tie => k_is)
    (case k_l_tie => k_is)
    (case a_l_ties => k_is)
    (case l_l_ties => k_is)
    (case c_l_ties => k_is)
    (case k_l_ties => k_is)
    (case a_l_due => k_is)
    (case l_l_due => k_is)
    (case c_l_due => k_is)
    (case k_l_due => k_is)
    (case a_l_same_ties => k_is)
    (case l_l_same_ties => k_is)
    (case c_l_same_ties => k_is)
    (case k_l_same_ties => k_is)
    (case a_l_around_right => k_is)
    (case l_l_around_right => k_is)
    (case c_l_around_right => k_is)
    (case k_l_around_right => k_is)
    (case a_law => k_is)
    (case l_law => k_is)
    (case c_law => k_is)
    (case k_law => k_is)
    (case z_bool => k_is)
    (case z_int => k_is)
    (case z_isinstance => k_is)
    (case z_len => k_is)
    (case z_list => k_is)
    (case z_max => k_is)
    (case z_min => k_is)
    (case z_range => k_is)
    (case z_sorted => k_is)
    (case z_sum => k_is)
    (case z_tuple => k_is)
    (case z_zip => k_is)
    (case v_MOST_PLACES => k_is)
    (case v_MOST_TIES => k_is)
    (case v_MOST_PRICE => k_is)
    (case xg_WallError => k_is)
    (case xq_WallError => k_exc)
    (case xk_WallError => k_is)
    (case xb_WallError => k_is)
    (case xt_WallError => k_is)
    (case xg_NoNet => k_is)
    (case xq_NoNet => k_exc)
    (case xk_NoNet => k_is)
    (case xb_NoNet => k_is)
    (case xt_NoNet => k_is)
    (case xg_NoPlace => k_is)
    (case xq_NoPlace => k_exc)
    (case xk_NoPlace => k_is)
    (case xb_NoPlace => k_is)
    (case xt_NoPlace => k_is)
    (case xg_NoSide => k_is)
    (case xq_NoSide => k_exc)
    (case xk_NoSide => k_is)
    (case xb_NoSide => k_is)
    (case xt_NoSide => k_is)
