import PyProof.Rows.All
import Wide.All
import OpenK.AllK
import Wide.FinOn
import HandS.ForMost
import HandS.ForExc
import HandS.Evl
import HandS.Steps
import HandS.IsInst
import HandS.SortInts
import HandS.Conv
import HandS.Style
import HandS.TupLe
import HandS.TupAny
import HandS.Deep
import HandS.ExcCtx
import HandS.ExcIs
import HandS.Codes
import HandS.Zip
import HandS.Walk
import HandS.More
import HandS.RaiseFrom
import HandS.SuiteRaise
import PySem.Challenge.RW_onewalls_k02_nets_refused

set_option Elab.async false
set_option linter.all false
set_option maxRecDepth 100000
set_option maxHeartbeats 4000000
/-! The base of our walk: operators by name, rules of our own, readings. -/
namespace OW
open PySem PySem.Spec PyProof.Rows L2 Evl

/-! ### operators by name -/
abbrev rPlus : R2 := rI0 fun i j => .int (i + j)
abbrev rMinus : R2 := rI0 fun i j => .int (i - j)
abbrev rTimes : R2 := rI CMul fun i j => .int (i * j)
abbrev rFdiv : R2 := rI CDiv fun i j => .int (i / j)
abbrev rMod : R2 := rI (fun _ j => 0 < j) fun i j => .int (i % j)
abbrev rPow : R2 := rI CPow fun i j => .int (i ^ j.toNat)
abbrev rNeg : V → Hp → VK → Prop := rU fun i => .int (-i)
abbrev rPlusS : R2 := fun x y H Q => ∃ i j, x = .str i ∧ y = .str j ∧ i.length + j.length ≤ sizeLine ∧ Q (.str (i ++ j)) H
abbrev rLt : R2 := rI0 fun i j => .bl (decide (i < j))
abbrev rLe : R2 := rI0 fun i j => .bl (decide (i ≤ j))
abbrev rGt1 : R2 := rI0 fun i j => .bl (decide (j < i))
abbrev rGe1 : R2 := rI0 fun i j => .bl (decide (j ≤ i))
abbrev RCt := List V → Hp → VK → Prop
abbrev rLenStr : RCt := fun xs H Q => ∃ z, xs = [.str z] ∧ z.length ≤ sizeLine ∧ Q (.int z.length) H
abbrev rLenD : RCt := fun xs H Q => ∃ a kvs, xs = [V.ref a] ∧ H a = some (.dK kvs) ∧ Q (.int kvs.length) H
abbrev rMin2 : RCt := fun xs H Q => ∃ i j, xs = [.int i, .int j] ∧ Q (.int (if j < i then j else i)) H
abbrev rInt1 : RCt := fun xs H Q => (∃ i, xs = [.int i] ∧ Q (.int i) H) ∨ ∃ k, xs = [.bl k] ∧ Q (.int (if k then 1 else 0)) H
abbrev rIntStr : RCt := fun xs H Q => ∃ a n, xs = [.str a] ∧ PySem.intText? a = some n ∧ a.length ≤ 640 ∧ Q (.int n) H
abbrev rStrI : RCt := fun xs H Q => ∃ i, xs = [.int i] ∧ i.natAbs.log2 < 1920 ∧ Q (.str (toString i)) H
abbrev rTupS (K : PySem.W.Frag) : RCt := fun xs H Q => ∃ p ys, xs = [.ref p] ∧ ((SqL K H p ys ∧ ∀ l, H l = none → Q (.ref l) (upd H l (.tup ys))) ∨ (SqT K H p ys ∧ Q (.ref p) H))
abbrev rSplit : V → List V → Hp → VK → Prop := fun x xs H Q => ∃ a b, x = .str a ∧ xs = [.str b] ∧ (b.length == 0) = false ∧ a.length + 2 ≤ sizeLine ∧ rNewStrs (Txt.split a b) H Q
abbrev rJoin (K : PySem.W.Frag) : V → List V → Hp → VK → Prop := fun x xs H Q => ∃ a p, ∃ ys : List Str, x = .str a ∧ xs = [.ref p] ∧ (SqL K H p (ys.map V.str) ∨ SqT K H p (ys.map V.str)) ∧ (ys.map (·.length)).sum + ys.length * a.length ≤ 16777216 ∧ Q (.str (Txt.join a ys)) H
abbrev rIsC (C : Addr) : RCt := fun xs H Q => ∃ a dx fs, xs = [V.ref a, V.ref C] ∧ H a = some (.ins C dx fs) ∧ Q (.bl true) H
abbrev rInsert : V → List V → Hp → VK → Prop := fun x vs H Q => ∃ (l : Addr) (xs : List V) (i : Int) (y : V), x = .ref l ∧ vs = [.int i, y] ∧ H l = some (.lst xs) ∧ xs.length < sizeLine ∧ 0 ≤ i ∧ i < 2 ^ 63 ∧ Q .non (upd H l (.lst (xs.take i.toNat ++ [y] ++ xs.drop i.toNat)))
def tRaiseE (E : XK) (c : Addr) : TS := fun _ _ H => E (.ref c) none H

/-! ### where our classes lie -/
structure Ads where
  C : Addr
  eWallError : Addr
  eNoNet : Addr
  eNoPlace : Addr
  eNoSide : Addr
  eNoText : Addr
structure NetC (K : PySem.W.Frag) (A : Ads) : Prop where
  cl : Cls K A.C
  nM : NoAttr K A.C "many"
  nK : NoAttr K A.C "kept"
  nS : NoAttr K A.C "summed"
  nN : NoAttr K A.C "near"
/-- an own exception class -/
structure ExcT (K : PySem.W.Frag) (mg : Str → Option Value) (x : Str) (C : Addr) : Prop where
  gC : mg x = some (.ref C)
  q : PySem.W.excIn K C [.type "ValueError", .type "Exception", .type "BaseException", .type "object"] "ValueError.__new__" = true
  kC : PySem.W.keepIn K (.ref C) = true
  b : PySem.W.subIn K (.ref C) (.type "BaseException") = some true
  t : PySem.W.typeIn K (.ref C) = some (.type "type")
section
variable {X : Cx}
theorem pe_gi {x : Str} {pos : Pos} {i : Int} (h : ∃ t, X.mg x = some (.int i t)) (hg : Gl X x := by rfl) (hd : (x == ("__debug__" : Str)) = false := by decide) : PE X (.Name x pos) (tC (.int i)) := by
  obtain ⟨t, h⟩ := h
  exact pe_glob hg h ⟨t, rfl⟩ hd
theorem pe_gs {x : Str} {pos : Pos} {i : Str} (h : ∃ t, X.mg x = some (.str i t)) (hg : Gl X x := by rfl) (hd : (x == ("__debug__" : Str)) = false := by decide) : PE X (.Name x pos) (tC (.str i)) := by
  obtain ⟨t, h⟩ := h
  exact pe_glob hg h ⟨t, rfl⟩ hd
theorem ExcT.pmk {x m : Str} {C : Addr} {j : Nat} {p p2 pos : Pos} (h : ExcT X.K X.mg x C) (hg : Gl X x) (hd : (x == ("__debug__" : Str)) = false := by decide) :
    L2N.PMk X (.Call (.Name x p) [.Constant (.str m) j p2] [] pos) (fun _ H Q => Q (.ref C) none H) :=
  L2N.pmk_own PySem.F.excBase_ValueError h.q h.gC h.kC (raises_own h.b h.t) hg hd
theorem passN : Passes (L2N.CX X.prog X.w) X E0 := fun _ _ _ _ _ _ _ h => by
  obtain ⟨_, _, _, _, _, _, _, _, _, _, _, _, z⟩ := h
  exact z.elim
theorem take0N : L2N.Takes X (fun _ _ _ _ => False) := fun _ _ x => by
  obtain ⟨_, _, _, _, _, _, _, _, _, _, _, _, _, _, _, _, z⟩ := x
  exact z.elim
end
section
variable {P : Program} {w : World} {K : PySem.W.Frag} {mg : Str → Option Value} {base : Heap}
/-- a def that may raise, the context of its error None -/
theorem fun_okN {x qual : Str} {st : Stmt} {f : Addr} {fd : FuncData} {N ps : List Str} {k : Nat} {sp : Sp} (F : Fun K x qual st f fd) (S : FnScope N ps (defScope st)) (len : ∀ vs H Q E, sp vs H Q E → vs.length = ps.length)
    (hbody : ∀ (cdv : Value) (A : Around) (outer : List Env) (s : Shared) (H : Hp) (vs : List V) (Q : VK) (E : XK), Room k (A.deeper (envOfC qual (defScope st) s.heap.objs.size f cdv)) → sp vs H Q E →
      ∃ t, PSs (cxOf (L2N.CX P w) P w K mg base N qual (defScope st) f cdv A outer s H E) (defBody st) t ∧ t { nx := fun _ H' => Q .non H', rt := Q } (start N vs) H) : FnOk P w K mg base (L2N.CX P w) (k + 1) f fd ps sp := by
  obtain ⟨oc, od, kV, doc, pm, an, cdv, ct, osl, rfl, lk, hcd⟩ := F.ex
  exact fn_of lk hcd S len fun A outer s H vs Q E hr hsp => hbody cdv A outer s H vs Q E hr hsp
end

/-! ### readings -/
section
variable {K : PySem.W.Frag} {σ : L2.St} {H H' : Hp} {ta tb tc te tx : TE} {t u : TT} {x y z v : V} {r r' : R2}
theorem ev_fld {a C dx : Addr} {fs : List (Str × V)} {f : Str} (ha : Ev ta σ H (.ref a)) (h : H a = some (.ins C dx fs)) (c : Cls K C) (n : NoAttr K C f) (l : fs.lookup f = some v) : Ev (tFld K ta f) σ H v := fun H1 e Q q =>
  ha H1 e _ fun H2 e2 => ⟨a, C, dx, fs, v, rfl, e2 a _ (e a _ h), c, n, l, q H2 e2⟩
theorem ev_chain {a b : Bool} (ha : Ev ta σ H x) (hb : Ev tb σ H y) (hr : RV r x y H (.bl a)) (hc : a = true → Ev tc σ H z) (hr' : a = true → RV r' y z H (.bl b)) : Ev (tChain r r' ta tb tc) σ H (.bl (a && b)) := fun H1 e Q q =>
  ha H1 e _ fun H2 e2 => hb H2 (e.trans e2) _ fun H3 e3 => hr H3 ((e.trans e2).trans e3) _ fun H4 e4 => ⟨a, rfl, by
    cases a with
    | true =>
      show tc σ H4 _
      exact hc rfl H4 (((e.trans e2).trans e3).trans e4) _ fun H5 e5 => hr' rfl H5 ((((e.trans e2).trans e3).trans e4).trans e5) Q fun H6 e6 => q H6 ((((e2.trans e3).trans e4).trans e5).trans e6)
    | false => exact q H4 ((e2.trans e3).trans e4)⟩
theorem ev_meth {C p dx : Addr} {fs : List (Str × V)} {m : Str} {sp : Sp} {dvs vs : List V} {E : XK} {t : TA} (ha : Ev ta σ H (.ref p)) (h : H p = some (.ins C dx fs)) (l : fs.lookup m = none) (hv : EvA t σ H vs) (hs : SpV sp (.ref p :: (vs ++ dvs)) H z) :
    Ev (tMeth C m sp dvs E ta t) σ H z := fun H1 e Q q =>
  ha H1 e _ fun H2 e2 => ⟨p, dx, fs, rfl, e2 p _ (e p _ h), l, hv H2 (e.trans e2) _ fun H3 e3 => hs H3 ((e.trans e2).trans e3) Q (fun H4 e4 => q H4 ((e2.trans e3).trans e4)) E⟩
theorem el_meth {C p dx : Addr} {fs : List (Str × V)} {m : Str} {sp : Sp} {dvs vs xs : List V} {E : XK} {t : TA} (ha : Ev ta σ H (.ref p)) (h : H p = some (.ins C dx fs)) (l : fs.lookup m = none) (hv : EvA t σ H vs) (hs : SpL sp (.ref p :: (vs ++ dvs)) H xs) :
    EvL (tMeth C m sp dvs E ta t) σ H xs := fun H1 e Q q =>
  ha H1 e _ fun H2 e2 => ⟨p, dx, fs, rfl, e2 p _ (e p _ h), l, hv H2 (e.trans e2) _ fun H3 e3 => hs H3 ((e.trans e2).trans e3) Q (fun a H4 ha e4 h4 => q a H4 (fresh_back (e2.trans e3) ha) ((e2.trans e3).trans e4) h4) E⟩
/-- a built-in of one new list -/
theorem ev_cbL {r : RCt} {xs : List V} (ha : EvL ta σ H xs) (hr : ∀ p H1, H1 p = some (.lst xs) → Ex H H1 → RC r [.ref p] H1 z) : Ev (tCB r (tCons ta tNil)) σ H z := fun H1 e Q q =>
  ha H1 e _ fun p H2 _ e2 hp => hr p H2 hp (e.trans e2) H2 (Ex.refl H2) Q fun H3 e3 => q H3 (e2.trans e3)
theorem el_cbL {r : RCt} {xs ys : List V} (ha : EvL ta σ H xs) (hr : ∀ p H1, H1 p = some (.lst xs) → Ex H H1 → RCL r [.ref p] H1 ys) : EvL (tCB r (tCons ta tNil)) σ H ys := fun H1 e Q q =>
  ha H1 e _ fun p H2 _ e2 hp => hr p H2 hp (e.trans e2) H2 (Ex.refl H2) Q fun b H3 hb e3 h3 => q b H3 (fresh_back e2 hb) (e2.trans e3) h3
theorem rv_plus {i j : Int} : RV rPlus (.int i) (.int j) H (.int (i + j)) := rv_I0
theorem rv_minus {i j : Int} : RV rMinus (.int i) (.int j) H (.int (i - j)) := rv_I0
theorem rv_times {i j : Int} (h : CMul i j) : RV rTimes (.int i) (.int j) H (.int (i * j)) := rv_I h
theorem rv_fdiv {i j : Int} (h : CDiv i j) : RV rFdiv (.int i) (.int j) H (.int (i / j)) := rv_I h
theorem rv_mod {i j : Int} (h : 0 < j) : RV rMod (.int i) (.int j) H (.int (i % j)) := rv_I h
theorem rv_lt {i j : Int} : RV rLt (.int i) (.int j) H (.bl (decide (i < j))) := rv_I0
theorem rv_le {i j : Int} : RV rLe (.int i) (.int j) H (.bl (decide (i ≤ j))) := rv_I0
theorem rv_gt {i j : Int} : RV rGt1 (.int i) (.int j) H (.bl (decide (j < i))) := rv_I0
theorem rv_ge {i j : Int} : RV rGe1 (.int i) (.int j) H (.bl (decide (j ≤ i))) := rv_I0
theorem deq_int (i j : Int) : decide (V.int i = V.int j) = decide (i = j) := by
  by_cases h : i = j
  · rw [decide_eq_true h, decide_eq_true (by rw [h])]
  · rw [decide_eq_false h, decide_eq_false (fun e => h (V.int.inj e))]
theorem deq_bl (i j : Bool) : decide (V.bl i = V.bl j) = decide (i = j) := by
  by_cases h : i = j
  · rw [decide_eq_true h, decide_eq_true (by rw [h])]
  · rw [decide_eq_false h, decide_eq_false (fun e => h (V.bl.inj e))]
theorem deq_str (i j : Str) : decide (V.str i = V.str j) = decide (i = j) := by
  by_cases h : i = j
  · rw [decide_eq_true h, decide_eq_true (by rw [h])]
  · rw [decide_eq_false h, decide_eq_false (fun e => h (V.str.inj e))]
theorem rv_eqI {i j : Int} : RV rEq (.int i) (.int j) H (.bl (decide (i = j))) := by
  rw [← deq_int]
  exact rv_eq rfl
theorem rv_neI {i j : Int} : RV rNe (.int i) (.int j) H (.bl (!decide (i = j))) := by
  rw [← deq_int]
  exact rv_ne rfl
theorem rv_eqB {i j : Bool} : RV rEq (.bl i) (.bl j) H (.bl (decide (i = j))) := by
  rw [← deq_bl]
  exact rv_eq rfl
theorem rv_neB {i j : Bool} : RV rNe (.bl i) (.bl j) H (.bl (!decide (i = j))) := by
  rw [← deq_bl]
  exact rv_ne rfl
theorem rv_eqS {i j : Str} : RV rEq (.str i) (.str j) H (.bl (decide (i = j))) := by
  rw [← deq_str]
  exact rv_eq rfl
theorem rv_neS {i j : Str} : RV rNe (.str i) (.str j) H (.bl (!decide (i = j))) := by
  rw [← deq_str]
  exact rv_ne rfl
theorem rc_min2 {i j : Int} : RC rMin2 [.int i, .int j] H (.int (min i j)) := fun H1 _ _ q => ⟨i, j, rfl, by
  have e : (if j < i then j else i) = min i j := by omega
  rw [e]
  exact q H1 (Ex.refl H1)⟩
theorem rc_max2 {i j : Int} : RC rMax2 [.int i, .int j] H (.int (max i j)) := fun H1 _ _ q => ⟨i, j, rfl, by
  have e : (if j > i then j else i) = max i j := by omega
  rw [e]
  exact q H1 (Ex.refl H1)⟩
theorem rc_lenL {p : Addr} {xs : List V} (h : SqL K H p xs) : RC (rLenS K) [.ref p] H (.int (xs.length : Int)) := fun H1 e _ q => ⟨p, xs, rfl, .inl (ex_l e h), q H1 (Ex.refl H1)⟩
theorem rc_lenT {p : Addr} {xs : List V} (h : SqT K H p xs) : RC (rLenS K) [.ref p] H (.int (xs.length : Int)) := fun H1 e _ q => ⟨p, xs, rfl, .inr (ex_t e h), q H1 (Ex.refl H1)⟩
theorem rc_sum {p : Addr} {ns : List Int} (h : SqL K H p (ns.map V.int)) : RC (rSum K) [.ref p] H (.int ns.sum) := fun H1 e _ q => ⟨p, ns, rfl, ex_l e h, q H1 (Ex.refl H1)⟩
theorem rcl_list {p : Addr} {xs : List V} (h : SqL K H p xs ∨ SqT K H p xs) : RCL (rListS K) [.ref p] H xs := fun H1 e _ q => ⟨p, xs, rfl, h.elim (fun h => .inl (ex_l e h)) (fun h => .inr (ex_t e h)), fun l hl => q l _ hl (Ex.new hl) upd_same⟩
/-- the sorted list -/
def srt (ns : List Int) : List Int := ns.mergeSort (fun x y => decide (x ≤ y))
theorem srt_perm (ns : List Int) : (srt ns).Perm ns := List.mergeSort_perm _ _
theorem srt_sorted (ns : List Int) : (srt ns).Pairwise (· ≤ ·) := by
  have h := List.pairwise_mergeSort (le := fun x y : Int => decide (x ≤ y)) (by intro x y z hxy hyz; simp only [decide_eq_true_eq] at *; omega) (by intro x y; simp only [Bool.or_eq_true, decide_eq_true_eq]; omega) ns
  exact h.imp (by intro a b hab; simpa using hab)
theorem srt_one {a b : List Int} (p : a.Perm b) (h : a.Pairwise (· ≤ ·)) : a = srt b :=
  List.Perm.eq_of_pairwise (le := (· ≤ ·)) (fun _ _ _ _ h1 h2 => Int.le_antisymm h1 h2) h (srt_sorted b) (p.trans (srt_perm b).symm)
theorem rcl_sorted {p : Addr} {ns : List Int} (h : SqL K H p (ns.map V.int)) : RCL (rSortedI K) [.ref p] H ((srt ns).map V.int) := fun H1 e _ q => ⟨p, ns, rfl, ex_l e h, fun ns' l hp hs hl => by
  rw [srt_one hp hs]
  exact q l _ hl (Ex.new hl) upd_same⟩
/-- a value's type is known -/
def Vt (K : PySem.W.Frag) (H : Hp) (v : V) (ty : String) : Prop := TyOf K H v (.type ty)
theorem ex_ty {ty : Value} (e : Ex H H') (h : TyOf K H v ty) : TyOf K H' v ty := by
  cases h with
  | non => exact .non
  | bl x => exact .bl x
  | int i => exact .int i
  | str x => exact .str x
  | flt x => exact .flt x
  | lst h => exact .lst (e _ _ h)
  | frz h => exact .frz (e _ _ h)
  | tup h => exact .tup (e _ _ h)
  | dK h => exact .dK (e _ _ h)
  | dT h => exact .dT (e _ _ h)
  | ins h cl ha hn htk hm => exact .ins (e _ _ h) cl ha hn htk hm
theorem Vt.mono {ty : String} (e : Ex H H') (h : Vt K H v ty) : Vt K H' v ty := ex_ty e h
theorem vt_int {i : Int} : Vt K H (.int i) "int" := .int i
theorem vt_bl {i : Bool} : Vt K H (.bl i) "bool" := .bl i
theorem vt_str {i : Str} : Vt K H (.str i) "str" := .str i
theorem vt_non : Vt K H .non "NoneType" := .non
theorem vt_lst {a : Addr} {xs : List V} (h : H a = some (.lst xs)) : Vt K H (.ref a) "list" := .lst h
theorem vt_tup {a : Addr} {xs : List V} (h : H a = some (.tup xs)) : Vt K H (.ref a) "tuple" := .tup h
theorem vt_is_tup {a : Addr} {xs : List V} {ty : String} (h : H a = some (.tup xs)) (t : Vt K H (.ref a) ty) : ty = "tuple" := by
  have key : ∀ T : Value, TyOf K H (.ref a) T → T = .type "tuple" := by
    intro T t
    cases t with
    | tup e => rfl
    | lst e => rw [h] at e; cases e
    | frz e => rw [h] at e; cases e
    | dK e => rw [h] at e; cases e
    | dT e => rw [h] at e; cases e
    | ins e => rw [h] at e; cases e
  exact Value.type.inj (key _ t)
theorem kitB_self (T : String) : kitB T T = some true := by
  unfold kitB
  rw [if_pos (by exact beq_self_eq_true _)]
theorem rc_isi {v : V} {ty T : String} {b : Bool} (h : Vt K H v ty) (hb : kitB ty T = some b) : RC (rIsi K) [v, .ty T] H (.bl b) := fun H1 e _ q =>
  ⟨v, .ty T, .type ty, .type T, b, rfl, .ty T, .base (ex_ty e h), kit_ty hb, q H1 (Ex.refl H1)⟩
/-- dict reads -/
theorem ev_get2 {d : Addr} {kvs : List (List Key × V)} {k : List Key} (hd : Ev ta σ H (.ref d)) (h : H d = some (.dT kvs)) (hk : EvU tb σ H (k.map kV)) (hx : Ev tc σ H z) : Ev (tDGet2 ta tb tc) σ H ((valV kvs k).getD z) := fun H1 e Q q =>
  hd H1 e _ fun H2 e2 => ⟨d, rfl, .inr ⟨kvs, .inl (e2 d _ (e d _ h))⟩, hk H2 (e.trans e2) _ fun a H3 _ e3 ha => hx H3 ((e.trans e2).trans e3) _ fun H4 e4 =>
    ⟨valV kvs k, .inr ⟨kvs, k, a, .inl (e4 d _ (e3 d _ (e2 d _ (e d _ h)))), rfl, e4 a _ ha, rfl⟩, q H4 ((e2.trans e3).trans e4)⟩⟩
theorem ev_getT {d a : Addr} {kvs : List (List Key × V)} {k : List Key} (hd : Ev ta σ H (.ref d)) (h : Rd H d (.dT kvs)) (hk : Ev tb σ H (.ref a)) (ha : H a = some (.tup (k.map kV))) (hv : valV kvs k = some v) : Ev (tDGet ta tb) σ H v := fun H1 e Q q =>
  hd H1 e _ fun H2 e2 => hk H2 (e.trans e2) _ fun H3 e3 => ⟨d, v, rfl, .inr ⟨kvs, k, a, ex_rd ((e.trans e2).trans e3) h, rfl, (((e.trans e2).trans e3)) a _ ha, hv.symm⟩, q H3 (e2.trans e3)⟩
theorem ev_getK {d : Addr} {kvs : List (Key × V)} {k : Key} (hd : Ev ta σ H (.ref d)) (h : Rd H d (.dK kvs)) (hk : Ev tb σ H (kV k)) (hv : valV kvs k = some v) : Ev (tDGet ta tb) σ H v := fun H1 e Q q =>
  hd H1 e _ fun H2 e2 => hk H2 (e.trans e2) _ fun H3 e3 => ⟨d, v, rfl, .inl ⟨kvs, k, ex_rd ((e.trans e2).trans e3) h, rfl, hv.symm⟩, q H3 (e2.trans e3)⟩
theorem ev_inK {d : Addr} {kvs : List (Key × V)} {k : Key} (hd : Ev ta σ H (.ref d)) (h : Rd H d (.dK kvs)) (hk : Ev tb σ H (kV k)) : Ev (tDIn tb ta) σ H (.bl (valV kvs k).isSome) := fun H1 e Q q =>
  hk H1 e _ fun H2 e2 => hd H2 (e.trans e2) _ fun H3 e3 => ⟨d, valV kvs k, rfl, .inl ⟨kvs, k, ex_rd ((e.trans e2).trans e3) h, rfl, rfl⟩, q H3 (e2.trans e3)⟩
theorem ev_notInK {d : Addr} {kvs : List (Key × V)} {k : Key} (hd : Ev ta σ H (.ref d)) (h : Rd H d (.dK kvs)) (hk : Ev tb σ H (kV k)) : Ev (tDNotIn tb ta) σ H (.bl (!(valV kvs k).isSome)) := fun H1 e Q q =>
  hk H1 e _ fun H2 e2 => hd H2 (e.trans e2) _ fun H3 e3 => ⟨d, valV kvs k, rfl, .inl ⟨kvs, k, ex_rd ((e.trans e2).trans e3) h, rfl, rfl⟩, q H3 (e2.trans e3)⟩
theorem ev_notInT {d a : Addr} {kvs : List (List Key × V)} {k : List Key} (hd : Ev ta σ H (.ref d)) (h : Rd H d (.dT kvs)) (hk : Ev tb σ H (.ref a)) (ha : H a = some (.tup (k.map kV))) : Ev (tDNotIn tb ta) σ H (.bl (!(valV kvs k).isSome)) := fun H1 e Q q =>
  hk H1 e _ fun H2 e2 => hd H2 (e.trans e2) _ fun H3 e3 => ⟨d, valV kvs k, rfl, .inr ⟨kvs, k, a, ex_rd ((e.trans e2).trans e3) h, rfl, ((e.trans e2).trans e3) a _ ha, rfl⟩, q H3 (e2.trans e3)⟩
theorem ev_inT {d a : Addr} {kvs : List (List Key × V)} {k : List Key} (hd : Ev ta σ H (.ref d)) (h : Rd H d (.dT kvs)) (hk : Ev tb σ H (.ref a)) (ha : H a = some (.tup (k.map kV))) : Ev (tDIn tb ta) σ H (.bl (valV kvs k).isSome) := fun H1 e Q q =>
  hk H1 e _ fun H2 e2 => hd H2 (e.trans e2) _ fun H3 e3 => ⟨d, valV kvs k, rfl, .inr ⟨kvs, k, a, ex_rd ((e.trans e2).trans e3) h, rfl, ((e.trans e2).trans e3) a _ ha, rfl⟩, q H3 (e2.trans e3)⟩
theorem rd_of {d : Addr} {u : HO} (h : H d = some u) : Rd H d u := .inl h
/-- the end of a reading: what is known passes on -/
theorem Ev.go {Q : VK} (h : Ev te σ H v) (k : ∀ H1, Ex H H1 → Q v H1) : te σ H Q := h H (Ex.refl H) Q k
theorem EvT.go {b : Bool} {Q : Bool → Hp → Prop} (h : EvT t σ H b) (k : ∀ H1, Ex H H1 → Q b H1) : t σ H Q := h H (Ex.refl H) Q k
/-- an if whose test is known -/
theorem s_yes {D : Ends} {tu tw : TS} (h : EvT t σ H true) (k : ∀ H1, Ex H H1 → tu D σ H1) : tIfS t tu tw D σ H := s_if h (fun _ => k) (fun q => nomatch q)
theorem s_no {D : Ends} {tu tw : TS} (h : EvT t σ H false) (k : ∀ H1, Ex H H1 → tw D σ H1) : tIfS t tu tw D σ H := s_if h (fun q => nomatch q) (fun _ => k)
theorem q_yes {D : Ends} {tu tw tz : TS} (h : EvT t σ H true) (k : ∀ H1, Ex H H1 → tu { D with nx := tz D } σ H1) : tSeq (tIfS t tu tw) tz D σ H := s_yes (D := { D with nx := tz D }) h k
theorem q_skip {D : Ends} {tu tz : TS} (h : EvT t σ H false) (k : ∀ H1, Ex H H1 → tz D σ H1) : tSeq (tIfS t tu tNext) tz D σ H := s_no (D := { D with nx := tz D }) h k
theorem q_no {D : Ends} {tu tw tz : TS} (h : EvT t σ H false) (k : ∀ H1, Ex H H1 → tw { D with nx := tz D } σ H1) : tSeq (tIfS t tu tw) tz D σ H := s_no (D := { D with nx := tz D }) h k
end
/-! ### statements by what follows -/
section
variable {K : PySem.W.Frag} {σ : L2.St} {H H' : Hp} {ta tb tc te tx : TE} {t u : TT} {x y z v : V} {D : Ends} {tu tw tz : TS}
theorem q_drop0 (h : te σ H fun _ H1 => tz D σ H1) : tSeq (tDrop te) tz D σ H := h
theorem s_drop0 (h : te σ H fun _ H1 => D.nx σ H1) : tDrop te D σ H := h
theorem s_ret0 (h : te σ H D.rt) : tRet te D σ H := h
theorem q_asg0 {i : Nat} (h : te σ H fun v H1 => tz D (σ.set i (some v)) H1) : tSeq (tAsg te (gName i)) tz D σ H := h
theorem s_asg0 {i : Nat} (h : te σ H fun v H1 => D.nx (σ.set i (some v)) H1) : tAsg te (gName i) D σ H := h
theorem q_seq0 (h : tu { D with nx := tz D } σ H) : tSeq tu tz D σ H := h
theorem c_meth {C p dx : Addr} {fs : List (Str × V)} {m : Str} {sp : Sp} {dvs vs : List V} {E : XK} {t : TA} {Q : VK} (ha : Ev ta σ H (.ref p)) (h : H p = some (.ins C dx fs)) (l : fs.lookup m = none) (hv : EvA t σ H vs) (hs : ∀ H1, Ex H H1 → sp (.ref p :: (vs ++ dvs)) H1 Q E) :
    tMeth C m sp dvs E ta t σ H Q :=
  ha H (Ex.refl H) _ fun H2 e2 => ⟨p, dx, fs, rfl, e2 p _ h, l, hv H2 e2 _ fun H3 e3 => hs H3 (e2.trans e3)⟩
theorem c_call {sp : Sp} {dvs vs : List V} {E : XK} {t : TA} {Q : VK} (hv : EvA t σ H vs) (hs : ∀ H1, Ex H H1 → sp (vs ++ dvs) H1 Q E) : tCall sp dvs E t σ H Q :=
  hv H (Ex.refl H) _ fun H3 e3 => hs H3 e3
theorem c_make {C : Addr} {sp : Sp} {dvs vs : List V} {E : XK} {t : TA} {Q : VK} (hv : EvA t σ H vs)
    (hs : ∀ H1, Ex H H1 → ∀ x dx, H1 x = none → H1 dx = none → dx ≠ x → sp (.ref x :: (vs ++ dvs)) (upd (upd H1 dx (.own x)) x (.ins C dx [])) (fun v H2 => v = .non ∧ Q (.ref x) H2) E) : tMake C sp dvs E t σ H Q :=
  hv H (Ex.refl H) _ fun H3 e3 => hs H3 e3
/-- e.f = v -/
theorem q_fld {C p dx : Addr} {fs : List (Str × V)} {f : Str} (hv : Ev tb σ H v) (ha : Ev ta σ H (.ref p)) (h : H p = some (.ins C dx fs)) (c : Cls K C) (n : NoAttr K C f) (hl : fs.length < 1000) (k : ∀ H1, Ex H H1 → tz D σ (upd H1 p (.ins C dx (putF f v fs)))) :
    tSeq (sFld K ta tb f) tz D σ H :=
  hv H (Ex.refl H) _ fun H1 e1 => ha H1 e1 _ fun H2 e2 => ⟨p, C, dx, fs, rfl, e2 p _ (e1 p _ h), c, n, hl, k H2 (e1.trans e2)⟩
/-- e.f = [..] -/
theorem q_fldL {C p dx : Addr} {fs : List (Str × V)} {f : Str} {xs : List V} (hv : EvL tb σ H xs) (ha : Ev ta σ H (.ref p)) (h : H p = some (.ins C dx fs)) (c : Cls K C) (n : NoAttr K C f) (hl : fs.length < 1000) (k : ∀ l H1, H l = none → Ex H H1 → H1 l = some (.lst xs) → tz D σ (upd H1 p (.ins C dx (putF f (.ref l) fs)))) :
    tSeq (sFld K ta tb f) tz D σ H :=
  hv H (Ex.refl H) _ fun l H1 hl1 e1 h1 => ha H1 e1 _ fun H2 e2 => ⟨p, C, dx, fs, rfl, e2 p _ (e1 p _ h), c, n, hl, k l H2 hl1 (e1.trans e2) (e2 l _ h1)⟩
theorem q_fld0 {f : Str} (h : tb σ H fun y H1 => ta σ H1 fun x H2 => ∃ a C dx fs, x = .ref a ∧ H2 a = some (.ins C dx fs) ∧ Cls K C ∧ NoAttr K C f ∧ fs.length < 1000 ∧ tz D σ (upd H2 a (.ins C dx (putF f y fs)))) : tSeq (sFld K ta tb f) tz D σ H := h
end
/-! ### comprehensions over a list that stands for data -/
section
variable {K : PySem.W.Frag} {σ : L2.St} {H H' : Hp} {ta tb tc te tx : TE} {t u : TT} {x y z v : V}
theorem given_cons (n : Nat) (f : Nat → Bool) (v : Nat → V) : given (n + 1) f v = (if f 0 then [v 0] else []) ++ given n (fun i => f (i + 1)) (fun i => v (i + 1)) := by
  unfold given
  rw [List.range_succ_eq_map, List.filter_cons]
  cases h : f 0 with
  | true => simp [List.filter_map, Function.comp_def]
  | false => simp [List.filter_map, Function.comp_def]
theorem given_list {α : Type} (d : α) (g : α → Bool) (h : α → V) : ∀ ts : List α, given ts.length (fun i => g (ts.getD i d)) (fun i => h (ts.getD i d)) = (ts.filter g).map h
  | [] => rfl
  | a :: r => by
    rw [List.length_cons, given_cons]
    have ih := given_list d g h r
    have e0 : (a :: r).getD 0 d = a := rfl
    have e1 : ∀ i, (a :: r).getD (i + 1) d = r.getD i d := fun i => rfl
    simp only [e0, e1, ih]
    cases hg : g a with
    | true => simp [hg]
    | false => simp [hg]
theorem el_lcF {α : Type} {a : Addr} {xs : List V} {tl : TE} {j : Nat} {vs : List Nat} (ts : List α) (g : α → Bool) (h : α → V) (hl : Ev tl σ H (.ref a)) (hx : SqL K H a xs) (hz : xs.length ≤ 40000) (hn : xs.length = ts.length) (hw : ∀ x, wipe ((wipe σ vs).set j (some x)) vs = wipe σ vs)
    (ht : ∀ (i : Nat) (x : V) (b : α) H1, Ex H H1 → xs[i]? = some x → ts[i]? = some b → EvT t ((wipe σ vs).set j (some x)) H1 (g b)) (he : ∀ (i : Nat) (x : V) (b : α) H1, Ex H H1 → xs[i]? = some x → ts[i]? = some b → g b = true → Ev te ((wipe σ vs).set j (some x)) H1 (h b)) :
    EvL (tLc (iList K tl) (gName j) t te vs) σ H ((ts.filter g).map h) := by
  cases ts with
  | nil =>
    have q := el_lcL (K := K) (te := te) (t := t) (fun _ => true) (fun _ => V.non) hl hx hz hw (fun i x H1 e hi => by
      have := (List.getElem?_eq_some_iff.mp hi).1
      rw [hn] at this
      exact absurd this (Nat.not_lt_zero _)) (fun i x H1 e hi => by
      have := (List.getElem?_eq_some_iff.mp hi).1
      rw [hn] at this
      exact absurd this (Nat.not_lt_zero _))
    rw [hn] at q
    exact q
  | cons d r =>
    have gt : ∀ (i : Nat) (x : V), xs[i]? = some x → ((d :: r)[i]? = some ((d :: r).getD i d)) := fun i x hi => by
      have := (List.getElem?_eq_some_iff.mp hi).1
      rw [hn] at this
      rw [List.getD, List.getElem?_eq_getElem this]
      rfl
    have q := el_lcL (K := K) (te := te) (t := t) (fun i => g ((d :: r).getD i d)) (fun i => h ((d :: r).getD i d)) hl hx hz hw (fun i x H1 e hi => ht i x _ H1 e hi (gt i x hi)) (fun i x H1 e hi hg => he i x _ H1 e hi (gt i x hi) hg)
    rw [hn, given_list d g h (d :: r)] at q
    exact q
end
/-! ### stores into dicts, calls at the slots -/
section
variable {K : PySem.W.Frag} {σ : L2.St} {H H' : Hp} {ta tb tc te tx : TE} {t u : TT} {x y z v : V} {D : Ends} {tu tw tz : TS}
theorem s_dputT {d q : Addr} {kvs : List (List Key × V)} {k : List Key} (hv : Ev tc σ H v) (hd : Ev ta σ H (.ref d)) (hk : Ev tb σ H (.ref q)) (h : H d = some (.dT kvs)) (hq : H q = some (.tup (k.map kV))) (hz : kvs.length < 100000)
    (n : ∀ H1, Ex H H1 → D.nx σ (upd H1 d (.dT (putK kvs k v)))) : sDPut ta tb tc D σ H :=
  hv H (Ex.refl H) _ fun H1 e1 => hd H1 e1 _ fun H2 e2 => hk H2 (e1.trans e2) _ fun H3 e3 => ⟨d, _, rfl, DPut.t (((e1.trans e2).trans e3) _ _ h) (((e1.trans e2).trans e3) _ _ hq) (sz_lt hz), n H3 ((e1.trans e2).trans e3)⟩
theorem q_dputT {d q : Addr} {kvs : List (List Key × V)} {k : List Key} (hv : Ev tc σ H v) (hd : Ev ta σ H (.ref d)) (hk : Ev tb σ H (.ref q)) (h : H d = some (.dT kvs)) (hq : H q = some (.tup (k.map kV))) (hz : kvs.length < 100000)
    (n : ∀ H1, Ex H H1 → tz D σ (upd H1 d (.dT (putK kvs k v)))) : tSeq (sDPut ta tb tc) tz D σ H := s_dputT (D := { D with nx := tz D }) hv hd hk h hq hz n
/-- the key a new tuple -/
theorem s_dputU {d : Addr} {kvs : List (List Key × V)} {k : List Key} (hv : Ev tc σ H v) (hd : Ev ta σ H (.ref d)) (hk : EvU tb σ H (k.map kV)) (h : H d = some (.dT kvs)) (hz : kvs.length < 100000)
    (n : ∀ H1, Ex H H1 → D.nx σ (upd H1 d (.dT (putK kvs k v)))) : sDPut ta tb tc D σ H :=
  hv H (Ex.refl H) _ fun H1 e1 => hd H1 e1 _ fun H2 e2 => hk H2 (e1.trans e2) _ fun q H3 _ e3 hq => ⟨d, _, rfl, DPut.t (((e1.trans e2).trans e3) _ _ h) hq (sz_lt hz), n H3 ((e1.trans e2).trans e3)⟩
theorem q_dputU {d : Addr} {kvs : List (List Key × V)} {k : List Key} (hv : Ev tc σ H v) (hd : Ev ta σ H (.ref d)) (hk : EvU tb σ H (k.map kV)) (h : H d = some (.dT kvs)) (hz : kvs.length < 100000)
    (n : ∀ H1, Ex H H1 → tz D σ (upd H1 d (.dT (putK kvs k v)))) : tSeq (sDPut ta tb tc) tz D σ H := s_dputU (D := { D with nx := tz D }) hv hd hk h hz n
theorem s_dputK {d : Addr} {kvs : List (Key × V)} {k : Key} (hv : Ev tc σ H v) (hd : Ev ta σ H (.ref d)) (hk : Ev tb σ H (kV k)) (h : H d = some (.dK kvs)) (hz : kvs.length < 100000)
    (n : ∀ H1, Ex H H1 → D.nx σ (upd H1 d (.dK (putK kvs k v)))) : sDPut ta tb tc D σ H :=
  hv H (Ex.refl H) _ fun H1 e1 => hd H1 e1 _ fun H2 e2 => hk H2 (e1.trans e2) _ fun H3 e3 => ⟨d, _, rfl, DPut.k (((e1.trans e2).trans e3) _ _ h) (sz_lt hz), n H3 ((e1.trans e2).trans e3)⟩
theorem q_dputK {d : Addr} {kvs : List (Key × V)} {k : Key} (hv : Ev tc σ H v) (hd : Ev ta σ H (.ref d)) (hk : Ev tb σ H (kV k)) (h : H d = some (.dK kvs)) (hz : kvs.length < 100000)
    (n : ∀ H1, Ex H H1 → tz D σ (upd H1 d (.dK (putK kvs k v)))) : tSeq (sDPut ta tb tc) tz D σ H := s_dputK (D := { D with nx := tz D }) hv hd hk h hz n
end
/-- all that stood in H stands, but for p -/
def Fr (p : Addr) (H H' : Hp) : Prop := ∀ b o, H b = some o → b ≠ p → H' b = some o
section
variable {p q : Addr} {H H1 H2 : Hp} {o : HO}
theorem Fr.ex (h : Fr p H H1) (e : Ex H1 H2) : Fr p H H2 := fun b u hb hp => e b u (h b u hb hp)
theorem Ex.fr (e : Ex H H1) : Fr p H H1 := fun b u hb _ => e b u hb
theorem Fr.mut (h : Fr p H H1) (hq : H q = none ∨ q = p) : Fr p H (upd H1 q o) := fun b u hb hp => by
  rw [upd_ne (fun z => by
    subst z
    rcases hq with hq | hq
    · rw [hq] at hb; cases hb
    · exact hp hq)]
  exact h b u hb hp
theorem Fr.free (h : Fr p H H1) (hq : H1 q = none) (hp : q ≠ p) : H q = none := by
  cases e : H q with
  | none => rfl
  | some u => rw [h q u e hp] at hq; cases hq
/-- seen from a heap that does not know p -/
theorem Fr.toEx (h : Fr p H H1) (hp : H p = none) : Ex H H1 := fun b u hb => h b u hb (fun z => by subst z; rw [hp] at hb; cases hb)
end
section
variable {K : PySem.W.Frag} {σ : L2.St} {H H' : Hp} {D : Ends} {tu tw tz : TS} {g : TG}
theorem q_forZ {ta : TA} {a b : Addr} {xs ys : List V} (h : EvA ta σ H [.ref a, .ref b]) (hx : SqL K H a xs) (hy : SqL K H b ys) (hl : xs.length = ys.length) (Pv : Nat → L2.St → Hp → Prop) (h0 : ∀ H1, Ex H H1 → Pv 0 σ H1) (hq : ∀ i σ H, Pv i σ H → SqL K H a xs ∧ SqL K H b ys)
    (hs : ∀ (i : Nat) (x y : V) (T : Addr) (σ : L2.St) (H : Hp), xs[i]? = some x → ys[i]? = some y → Pv i σ H → H T = none → g (.ref T) σ (upd H T (.tup [x, y])) fun σ2 H2 => tu { D with nx := Pv (i + 1), ct := Pv (i + 1), bk := tz D } σ2 H2) (hd : ∀ σ H, Pv xs.length σ H → tz D σ H) :
    tSeq (tFor (iZip K ta) g tu) tz D σ H :=
  h H (Ex.refl H) _ fun H1 e1 => ⟨a, b, xs, ys, rfl, ex_l e1 hx, ex_l e1 hy, RZ.for_zipL (D := { D with nx := tz D }) hl Pv (h0 H1 e1) hq hs hd⟩
end

theorem Ex.get {H H' : Hp} {a : Addr} {o : HO} (e : Ex H H') (h : H a = some o) : H' a = some o := e a o h

/-! ### a net's attributes -/
def flds (m : Int) (kl sd nl : Addr) : List (Str × V) := [("many", .int m), ("kept", .ref kl), ("summed", .ref sd), ("near", .ref nl)]
theorem lk_here {k : Str} {v : V} {r : List (Str × V)} : List.lookup k ((k, v) :: r) = some v := by
  have e : (k == k) = true := beq_self_eq_true k
  simp only [List.lookup, e]
theorem lk_past {k g : Str} {v : V} {r : List (Str × V)} (h : (k == g) = false) : List.lookup k ((g, v) :: r) = List.lookup k r := by
  simp only [List.lookup, h]
section
variable {m : Int} {kl sd nl : Addr}
theorem lk_many : (flds m kl sd nl).lookup ("many" : Str) = some (.int m) := lk_here
theorem lk_kept : (flds m kl sd nl).lookup ("kept" : Str) = some (.ref kl) := (lk_past (by decide +kernel)).trans lk_here
theorem lk_summed : (flds m kl sd nl).lookup ("summed" : Str) = some (.ref sd) := (lk_past (by decide +kernel)).trans ((lk_past (by decide +kernel)).trans lk_here)
theorem lk_near : (flds m kl sd nl).lookup ("near" : Str) = some (.ref nl) := (lk_past (by decide +kernel)).trans ((lk_past (by decide +kernel)).trans ((lk_past (by decide +kernel)).trans lk_here))
theorem lk_no {f : Str} (h : (f == "many") = false ∧ (f == "kept") = false ∧ (f == "summed") = false ∧ (f == "near") = false) : (flds m kl sd nl).lookup f = none :=
  (lk_past h.1).trans ((lk_past h.2.1).trans ((lk_past h.2.2.1).trans ((lk_past h.2.2.2).trans rfl)))
end

/-! ### promises of the small defs -/
def isI : V → Bool
  | .int _ => true
  | _ => false
/-- a place of a net of so many -/
def isPl (m : Int) : V → Bool
  | .int i => decide (0 ≤ i) && decide (i < m)
  | _ => false
/-- a value of a known kind -/
def Kd (K : PySem.W.Frag) (H : Hp) (v : V) : Prop := ∃ (ty : String) (b1 b2 : Bool), Vt K H v ty ∧ kitB ty "int" = some b1 ∧ kitB ty "bool" = some b2 ∧ (b1 && !b2) = isI v
section
variable {K : PySem.W.Frag} {H H' : Hp}
theorem Kd.mono {v : V} (e : Ex H H') (h : Kd K H v) : Kd K H' v := let ⟨ty, b1, b2, a, b⟩ := h; ⟨ty, b1, b2, a.mono e, b⟩
theorem kd_int {i : Int} : Kd K H (.int i) := ⟨"int", true, false, vt_int, by decide +kernel, by decide +kernel, rfl⟩
theorem kd_bl {i : Bool} : Kd K H (.bl i) := ⟨"bool", true, true, vt_bl, by decide +kernel, by decide +kernel, rfl⟩
theorem kd_str {i : Str} : Kd K H (.str i) := ⟨"str", false, false, vt_str, by decide +kernel, by decide +kernel, rfl⟩
theorem kd_non : Kd K H .non := ⟨"NoneType", false, false, vt_non, by decide +kernel, by decide +kernel, rfl⟩
theorem kd_lst {a : Addr} {xs : List V} (h : H a = some (.lst xs)) : Kd K H (.ref a) := ⟨"list", false, false, vt_lst h, by decide +kernel, by decide +kernel, rfl⟩
theorem kd_tup {a : Addr} {xs : List V} (h : H a = some (.tup xs)) : Kd K H (.ref a) := ⟨"tuple", false, false, vt_tup h, by decide +kernel, by decide +kernel, rfl⟩
end
/-- an instance with the four attributes -/
def ObjAt (A : Ads) (H : Hp) (p : Addr) (m : Int) (kl sd nl : Addr) : Prop := ∃ dx, H p = some (.ins A.C dx (flds m kl sd nl))
theorem ObjAt.mono {A : Ads} {H H' : Hp} {p : Addr} {m : Int} {kl sd nl : Addr} (e : Ex H H') (h : ObjAt A H p m kl sd nl) : ObjAt A H' p m kl sd nl := let ⟨dx, h⟩ := h; ⟨dx, e _ _ h⟩

def sp_is_whole (K : PySem.W.Frag) (_ : Ads) : Sp := fun vs H Q _ => ∃ v, vs = [v] ∧ Kd K H v ∧ ∀ H', Ex H H' → Q (.bl (isI v)) H'
def sp_has (K : PySem.W.Frag) (A : Ads) : Sp := fun vs H Q _ => ∃ p m kl sd nl v, vs = [.ref p, v] ∧ ObjAt A H p m kl sd nl ∧ Kd K H v ∧ ∀ H', Ex H H' → Q (.bl (isPl m v)) H'
def sp_need (K : PySem.W.Frag) (A : Ads) : Sp := fun vs H Q E => ∃ p m kl sd nl v, vs = [.ref p, v] ∧ ObjAt A H p m kl sd nl ∧ Kd K H v ∧
  (isPl m v = true → ∀ H', Ex H H' → Q .non H') ∧ (isPl m v = false → ∀ H', Ex H H' → E (.ref A.eNoPlace) none H')
/-- two different places -/
def isTwo (m : Int) (v u : V) : Bool := isPl m v && isPl m u && !decide (v = u)
def sp_need_two (K : PySem.W.Frag) (A : Ads) : Sp := fun vs H Q E => ∃ p m kl sd nl v u, vs = [.ref p, v, u] ∧ ObjAt A H p m kl sd nl ∧ Kd K H v ∧ Kd K H u ∧
  (isTwo m v u = true → ∀ H', Ex H H' → Q .non H') ∧ (isTwo m v u = false → ∀ H', Ex H H' → E (.ref A.eNoPlace) none H')
def keyT (i j : Int) : List Key := [.inl (min i j), .inl (max i j)]
def sp_cost (_ : PySem.W.Frag) (A : Ads) : Sp := fun vs H Q _ => ∃ p m kl sd nl kvs i j, vs = [.ref p, .int i, .int j] ∧ ObjAt A H p m kl sd nl ∧ H sd = some (.dT kvs) ∧
  ∀ H', Ex H H' → Q ((valV kvs (keyT i j)).getD (.int 0)) H'
section
variable (K : PySem.W.Frag) (A : Ads)
theorem len_is_whole : ∀ vs H Q E, sp_is_whole K A vs H Q E → vs.length = (["thing"] : List Str).length := by
  rintro _ _ _ _ ⟨_, rfl, _⟩; rfl
theorem len_has : ∀ vs H Q E, sp_has K A vs H Q E → vs.length = (["self", "place"] : List Str).length := by
  rintro _ _ _ _ ⟨_, _, _, _, _, _, rfl, _⟩; rfl
theorem len_need : ∀ vs H Q E, sp_need K A vs H Q E → vs.length = (["self", "place"] : List Str).length := by
  rintro _ _ _ _ ⟨_, _, _, _, _, _, rfl, _⟩; rfl
theorem len_need_two : ∀ vs H Q E, sp_need_two K A vs H Q E → vs.length = (["self", "one", "other"] : List Str).length := by
  rintro _ _ _ _ ⟨_, _, _, _, _, _, _, rfl, _⟩; rfl
theorem len_cost : ∀ vs H Q E, sp_cost K A vs H Q E → vs.length = (["self", "one", "other"] : List Str).length := by
  rintro _ _ _ _ ⟨_, _, _, _, _, _, _, _, rfl, _⟩; rfl
end
section
variable {K : PySem.W.Frag} {A : Ads} {H : Hp}
theorem spv_is_whole {v : V} (h : Kd K H v) : SpV (sp_is_whole K A) [v] H (.bl (isI v)) := fun _ e _ q _ => ⟨v, rfl, h.mono e, fun H2 e2 => q H2 e2⟩
theorem spv_has {p : Addr} {m : Int} {kl sd nl : Addr} {v : V} (o : ObjAt A H p m kl sd nl) (h : Kd K H v) : SpV (sp_has K A) [.ref p, v] H (.bl (isPl m v)) := fun _ e _ q _ =>
  ⟨p, m, kl, sd, nl, v, rfl, o.mono e, h.mono e, fun H2 e2 => q H2 e2⟩
theorem spv_cost {p : Addr} {m : Int} {kl sd nl : Addr} {kvs : List (List Key × V)} {i j : Int} (o : ObjAt A H p m kl sd nl) (h : H sd = some (.dT kvs)) : SpV (sp_cost K A) [.ref p, .int i, .int j] H ((valV kvs (keyT i j)).getD (.int 0)) := fun _ e _ q _ =>
  ⟨p, m, kl, sd, nl, kvs, i, j, rfl, o.mono e, e _ _ h, fun H2 e2 => q H2 e2⟩
end

/-! ### nets as data -/
abbrev Tie := Nat × Nat × Int
structure Net where
  many : Nat
  ties : List Tie
def okTie (m : Nat) (t : Tie) : Prop := t.1 < m ∧ t.2.1 < m ∧ t.1 ≠ t.2.1 ∧ 1 ≤ t.2.2 ∧ t.2.2 ≤ 1000000000
structure Net.Ok (n : Net) : Prop where
  lo : 1 ≤ n.many
  hi : n.many ≤ 24
  few : n.ties.length ≤ 300
  all : ∀ t ∈ n.ties, okTie n.many t
def joins (i j : Nat) (t : Tie) : Bool := (decide (t.1 = i) && decide (t.2.1 = j)) || (decide (t.1 = j) && decide (t.2.1 = i))
def costOf (ts : List Tie) (i j : Nat) : Int := ((ts.filter (joins i j)).map (·.2.2)).sum
/-- a place beside i, told by a tie -/
def over (i : Nat) (t : Tie) : Option Nat := if t.1 = i then some t.2.1 else if t.2.1 = i then some t.1 else none
def addNew (l : List Nat) : Option Nat → List Nat
  | none => l
  | some j => if j ∈ l then l else l ++ [j]
def nearOf (ts : List Tie) (i : Nat) : List Nat := ts.foldl (fun l t => addNew l (over i t)) []
def vi (i : Nat) : V := .int (i : Int)
def tieV (t : Tie) : List V := [vi t.1, vi t.2.1, .int t.2.2]
def TiesAt (H : Hp) (as : List Addr) (ts : List Tie) : Prop := Paired (fun a t => H a = some (.tup (tieV t))) as ts
def keyN (i j : Nat) : List Key := [.inl (i : Int), .inl (j : Int)]
structure SumOk (kvs : List (List Key × V)) (ts : List Tie) : Prop where
  val : ∀ i j : Nat, i < j → valV kvs (keyN i j) = if ts.any (joins i j) then some (.int (costOf ts i j)) else none
  len : kvs.length ≤ ts.length
structure NearAt (H : Hp) (ns : List Addr) (ts : List Tie) (m : Nat) : Prop where
  len : ns.length = m
  at_ : ∀ (i : Nat) (a : Addr), ns[i]? = some a → H a = some (.lst ((nearOf ts i).map vi))
structure NetS where
  dx : Addr
  kl : Addr
  sd : Addr
  nl : Addr
  as : List Addr
  ns : List Addr
  kvs : List (List Key × V)
/-- a net stands at p, its parts at s -/
structure NetX (A : Ads) (H : Hp) (p : Addr) (n : Net) (s : NetS) : Prop where
  ok : n.Ok
  ob : H p = some (.ins A.C s.dx (flds (n.many : Int) s.kl s.sd s.nl))
  hk : H s.kl = some (.lst (s.as.map V.ref))
  ta : TiesAt H s.as n.ties
  hs : H s.sd = some (.dT s.kvs)
  so : SumOk s.kvs n.ties
  hn : H s.nl = some (.lst (s.ns.map V.ref))
  na : NearAt H s.ns n.ties n.many
section
variable {A : Ads} {H H' : Hp} {p : Addr} {n : Net} {s : NetS}
theorem TiesAt.mono {as : List Addr} {ts : List Tie} (e : Ex H H') (h : TiesAt H as ts) : TiesAt H' as ts := Paired.mapP h fun a t q => e _ _ q
theorem NearAt.mono {ns : List Addr} {ts : List Tie} {m : Nat} (e : Ex H H') (h : NearAt H ns ts m) : NearAt H' ns ts m := ⟨h.len, fun i a q => e _ _ (h.at_ i a q)⟩
theorem NetX.mono (e : Ex H H') (h : NetX A H p n s) : NetX A H' p n s := ⟨h.ok, e _ _ h.ob, e _ _ h.hk, h.ta.mono e, e _ _ h.hs, h.so, e _ _ h.hn, h.na.mono e⟩
theorem NetX.obj (h : NetX A H p n s) : ObjAt A H p (n.many : Int) s.kl s.sd s.nl := ⟨s.dx, h.ob⟩
theorem paired_get {α β : Type} {R : α → β → Prop} : ∀ {as : List α} {bs : List β} {i : Nat} {a : α} {b : β}, Paired R as bs → as[i]? = some a → bs[i]? = some b → R a b
  | _, _, _, _, _, .nil, h, _ => by simp at h
  | _, _, 0, _, _, .cons r _, h, q => by simp at h q; subst h q; exact r
  | _, _, i + 1, _, _, .cons _ t, h, q => paired_get (i := i) t (by simpa using h) (by simpa using q)
theorem vi_inj {i j : Nat} (h : vi i = vi j) : i = j := by
  have := V.int.inj h
  omega
end

/-! ### promises of the net's defs -/
def sp_ties (_ : PySem.W.Frag) (A : Ads) : Sp := fun vs H Q _ => ∃ p n s, vs = [.ref p] ∧ NetX A H p n s ∧ ∀ q H', H q = none → Ex H H' → H' q = some (.lst (s.as.map V.ref)) → Q (.ref q) H'
def sp_between (K : PySem.W.Frag) (A : Ads) : Sp := fun vs H Q E => ∃ p n s v u, vs = [.ref p, v, u] ∧ NetX A H p n s ∧ Kd K H v ∧ Kd K H u ∧
  (∀ i j : Nat, v = vi i → u = vi j → i < n.many → j < n.many → i ≠ j → ∀ H', Ex H H' → Q (.int (costOf n.ties i j)) H') ∧ (isTwo (n.many : Int) v u = false → ∀ H', Ex H H' → E (.ref A.eNoPlace) none H')
def besideOf (ts : List Tie) (i : Nat) : List Int := srt (List.map (fun j : Nat => (j : Int)) (nearOf ts i))
def sp_beside (K : PySem.W.Frag) (A : Ads) : Sp := fun vs H Q E => ∃ p n s v, vs = [.ref p, v] ∧ NetX A H p n s ∧ Kd K H v ∧
  (∀ i : Nat, v = vi i → i < n.many → ∀ q H', H q = none → Ex H H' → H' q = some (.lst ((besideOf n.ties i).map V.int)) → Q (.ref q) H') ∧ (isPl (n.many : Int) v = false → ∀ H', Ex H H' → E (.ref A.eNoPlace) none H')
def priceOf (ts : List Tie) (side : List Nat) : Int := ((ts.filter fun t => decide (t.1 ∈ side) != decide (t.2.1 ∈ side)).map (·.2.2)).sum
/-- different places of a net of so many -/
def GoodSide (m : Nat) (xs : List V) : Prop := ∃ side : List Nat, xs = side.map vi ∧ side.Nodup ∧ ∀ i ∈ side, i < m
def sp_price (K : PySem.W.Frag) (A : Ads) : Sp := fun vs H Q E => ∃ p n s v, vs = [.ref p, v] ∧ NetX A H p n s ∧
  ((∃ l xs, v = .ref l ∧ H l = some (.lst xs) ∧ xs.length ≤ 1000 ∧ (∀ x ∈ xs, Kd K H x) ∧ (∀ side : List Nat, xs = side.map vi → side.Nodup → (∀ i ∈ side, i < n.many) → ∀ H', Ex H H' → Q (.int (priceOf n.ties side)) H') ∧ (¬ GoodSide n.many xs → ∀ H', Ex H H' → E (.ref A.eNoSide) none H')) ∨
   (∃ ty, Vt K H v ty ∧ kitB ty "list" = some false ∧ ∀ H', Ex H H' → E (.ref A.eNoSide) none H'))
section
variable (K : PySem.W.Frag) (A : Ads)
theorem len_ties : ∀ vs H Q E, sp_ties K A vs H Q E → vs.length = (["self"] : List Str).length := by
  rintro _ _ _ _ ⟨_, _, _, rfl, _⟩; rfl
theorem len_between : ∀ vs H Q E, sp_between K A vs H Q E → vs.length = (["self", "one", "other"] : List Str).length := by
  rintro _ _ _ _ ⟨_, _, _, _, _, rfl, _⟩; rfl
theorem len_beside : ∀ vs H Q E, sp_beside K A vs H Q E → vs.length = (["self", "place"] : List Str).length := by
  rintro _ _ _ _ ⟨_, _, _, _, rfl, _⟩; rfl
theorem len_price : ∀ vs H Q E, sp_price K A vs H Q E → vs.length = (["self", "side"] : List Str).length := by
  rintro _ _ _ _ ⟨_, _, _, _, rfl, _⟩; rfl
end

/-! ### a net while it is built -/
structure Build (A : Ads) (H : Hp) (p : Addr) (m : Nat) (dx kl sd nl : Addr) (ns : List Addr) (ks : List V) (kvs : List (List Key × V)) (nss : Nat → List V) : Prop where
  ob : H p = some (.ins A.C dx (flds (m : Int) kl sd nl))
  hk : H kl = some (.lst ks)
  hs : H sd = some (.dT kvs)
  hn : H nl = some (.lst (ns.map V.ref))
  len : ns.length = m
  at_ : ∀ (i : Nat) (a : Addr), ns[i]? = some a → H a = some (.lst (nss i))
  d1 : kl ≠ nl
  d2 : kl ∉ ns
  d3 : nl ∉ ns
  nd : ns.Nodup
section
variable {A : Ads} {H H' : Hp} {p dx kl sd nl : Addr} {m : Nat} {ns : List Addr} {ks : List V} {kvs : List (List Key × V)} {nss : Nat → List V}
theorem Build.ext (b : Build A H p m dx kl sd nl ns ks kvs nss) (e : Ex H H') : Build A H' p m dx kl sd nl ns ks kvs nss :=
  ⟨e _ _ b.ob, e _ _ b.hk, e _ _ b.hs, e _ _ b.hn, b.len, fun i a h => e _ _ (b.at_ i a h), b.d1, b.d2, b.d3, b.nd⟩
theorem Build.kept (b : Build A H p m dx kl sd nl ns ks kvs nss) (ks' : List V) : Build A (upd H kl (.lst ks')) p m dx kl sd nl ns ks' kvs nss := by
  have h1 : p ≠ kl := ne_of b.ob b.hk (by intro z; cases z)
  have h2 : sd ≠ kl := ne_of b.hs b.hk (by intro z; cases z)
  exact ⟨by rw [upd_ne h1]; exact b.ob, upd_same, by rw [upd_ne h2]; exact b.hs, by rw [upd_ne b.d1.symm]; exact b.hn, b.len, fun i a h => by
    have z : a ≠ kl := fun z => b.d2 (by rw [← z]; exact List.mem_of_getElem? h)
    rw [upd_ne z]; exact b.at_ i a h, b.d1, b.d2, b.d3, b.nd⟩
theorem Build.summed (b : Build A H p m dx kl sd nl ns ks kvs nss) (kvs' : List (List Key × V)) : Build A (upd H sd (.dT kvs')) p m dx kl sd nl ns ks kvs' nss := by
  have h1 : p ≠ sd := ne_of b.ob b.hs (by intro z; cases z)
  have h2 : kl ≠ sd := ne_of b.hk b.hs (by intro z; cases z)
  have h3 : nl ≠ sd := ne_of b.hn b.hs (by intro z; cases z)
  exact ⟨by rw [upd_ne h1]; exact b.ob, by rw [upd_ne h2]; exact b.hk, upd_same, by rw [upd_ne h3]; exact b.hn, b.len, fun i a h => by
    rw [upd_ne (ne_of (b.at_ i a h) b.hs (by intro z; cases z))]; exact b.at_ i a h, b.d1, b.d2, b.d3, b.nd⟩
theorem Build.near (b : Build A H p m dx kl sd nl ns ks kvs nss) {j : Nat} {c : Addr} (hc : ns[j]? = some c) (l : List V) : Build A (upd H c (.lst l)) p m dx kl sd nl ns ks kvs (fun i => if i = j then l else nss i) := by
  have hcl := b.at_ j c hc
  have h1 : p ≠ c := ne_of b.ob hcl (by intro z; cases z)
  have h2 : sd ≠ c := ne_of b.hs hcl (by intro z; cases z)
  have hm := List.mem_of_getElem? hc
  have z1 : kl ≠ c := fun z => b.d2 (by rw [z]; exact hm)
  have z2 : nl ≠ c := fun z => b.d3 (by rw [z]; exact hm)
  refine ⟨by rw [upd_ne h1]; exact b.ob, by rw [upd_ne z1]; exact b.hk, by rw [upd_ne h2]; exact b.hs, by rw [upd_ne z2]; exact b.hn, b.len, fun i a h => ?_, b.d1, b.d2, b.d3, b.nd⟩
  show upd H c (.lst l) a = some (.lst (if i = j then l else nss i))
  by_cases hij : i = j
  · subst hij
    have : a = c := by rw [h] at hc; exact Option.some.inj hc
    rw [if_pos rfl, this, upd_same]
  · have z3 : a ≠ c := fun z => hij (nd_ix b.nd h (by rw [z]; exact hc))
    rw [if_neg hij, upd_ne z3]
    exact b.at_ i a h
end
theorem nearOf_append (ts : List Tie) (t : Tie) (i : Nat) : nearOf (ts ++ [t]) i = addNew (nearOf ts i) (over i t) := by
  unfold nearOf
  rw [List.foldl_append]; rfl
theorem costOf_append (ts : List Tie) (t : Tie) (i j : Nat) : costOf (ts ++ [t]) i j = costOf ts i j + if joins i j t then t.2.2 else 0 := by
  unfold costOf
  rw [List.filter_append, List.map_append, List.sum_append]
  congr 1
  by_cases h : joins i j t = true
  · simp [h]
  · simp [h]
/-- a tie of the two places, in either order, has been told just when the one is beside the other -/
theorem mem_nearOf (ts : List Tie) (i j : Nat) (hall : ∀ t ∈ ts, t.1 ≠ t.2.1) : j ∈ nearOf ts i ↔ ∃ t ∈ ts, over i t = some j := by
  have key : ∀ (ts : List Tie) (acc : List Nat), j ∈ ts.foldl (fun l t => addNew l (over i t)) acc ↔ j ∈ acc ∨ ∃ t ∈ ts, over i t = some j := by
    intro ts
    induction ts with
    | nil => intro acc; simp
    | cons t r ih =>
      intro acc
      rw [List.foldl_cons, ih]
      have : j ∈ addNew acc (over i t) ↔ j ∈ acc ∨ over i t = some j := by
        cases h : over i t with
        | none => simp [addNew]
        | some k =>
          unfold addNew
          by_cases hk : k ∈ acc
          · simp only [if_pos hk, Option.some.injEq]
            exact ⟨.inl, fun h => h.elim id fun e => e ▸ hk⟩
          · simp only [if_neg hk, List.mem_append, List.mem_singleton, Option.some.injEq]
            exact ⟨fun h => h.imp id Eq.symm, fun h => h.imp id Eq.symm⟩
      rw [this]
      simp only [List.mem_cons, exists_eq_or_imp]
      rw [or_assoc]
  unfold nearOf
  rw [key]
  simp
theorem over_joins {i j : Nat} {t : Tie} (hij : i ≠ j) (ht : t.1 ≠ t.2.1) : over i t = some j ↔ joins i j t = true := by
  unfold over joins
  simp only [Bool.or_eq_true, Bool.and_eq_true, decide_eq_true_eq]
  by_cases h1 : t.1 = i
  · rw [if_pos h1]
    simp only [Option.some.injEq]
    exact ⟨fun h => .inl ⟨h1, h⟩, fun h => h.elim (·.2) fun h => absurd (h1.symm.trans h.1) hij⟩
  · rw [if_neg h1]
    by_cases h2 : t.2.1 = i
    · rw [if_pos h2]
      simp only [Option.some.injEq]
      exact ⟨fun h => .inr ⟨h, h2⟩, fun h => h.elim (fun h => absurd h.1 h1) (·.1)⟩
    · rw [if_neg h2]
      simp only [reduceCtorEq, false_iff]
      rintro (h | h)
      · exact h1 h.1
      · exact h2 h.2

/-- what may stand in a list of ties -/
def TieK (K : PySem.W.Frag) (H : Hp) (x : V) : Prop :=
  (∃ ty, Vt K H x ty ∧ kitB ty "tuple" = some false) ∨
  (∃ a vs, x = .ref a ∧ H a = some (.tup vs) ∧ vs.length ≠ 3) ∨
  (∃ a v0 v1 v2, x = .ref a ∧ H a = some (.tup [v0, v1, v2]) ∧ Kd K H v0 ∧ Kd K H v1 ∧ Kd K H v2)
theorem TieK.mono {K : PySem.W.Frag} {H H' : Hp} {x : V} (e : Ex H H') (h : TieK K H x) : TieK K H' x := by
  rcases h with ⟨ty, h, q⟩ | ⟨a, vs, rfl, h, q⟩ | ⟨a, v0, v1, v2, rfl, h, k0, k1, k2⟩
  · exact .inl ⟨ty, h.mono e, q⟩
  · exact .inr (.inl ⟨a, vs, rfl, e _ _ h, q⟩)
  · exact .inr (.inr ⟨a, v0, v1, v2, rfl, e _ _ h, k0.mono e, k1.mono e, k2.mono e⟩)
/-- good ties for a net of so many places -/
def GoodTies (H : Hp) (m : Nat) (xs : List V) : Prop := ∃ as ts, xs = as.map V.ref ∧ TiesAt H as ts ∧ ts.length ≤ 300 ∧ ∀ t ∈ ts, okTie m t
def sp_init (K : PySem.W.Frag) (A : Ads) : Sp := fun vs H Q E => ∃ (H0 : Hp) (p dx : Addr) (mv tv : V), vs = [.ref p, mv, tv] ∧ Ex H0 H ∧ H0 p = none ∧ H p = some (.ins A.C dx []) ∧ Kd K H0 mv ∧
  ((∃ (m l : Nat) (as : List Addr) (ts : List Tie), mv = vi m ∧ tv = .ref l ∧ H0 l = some (.lst (as.map V.ref)) ∧ TiesAt H0 as ts ∧ Net.Ok ⟨m, ts⟩ ∧
      ∀ H' s, Ex H0 H' → NetX A H' p ⟨m, ts⟩ s → s.as = as → H0 s.kl = none → H0 s.sd = none → H0 s.nl = none → (∀ a ∈ s.ns, H0 a = none) → Q .non H') ∨
   (((¬ ∃ m : Nat, mv = vi m ∧ 1 ≤ m ∧ m ≤ 24) ∨ (∃ m : Nat, mv = vi m ∧ 1 ≤ m ∧ m ≤ 24 ∧
      ((∃ ty, Vt K H0 tv ty ∧ kitB ty "list" = some false) ∨ ∃ l xs, tv = .ref l ∧ H0 l = some (.lst xs) ∧ xs.length ≤ 1000 ∧ (∀ x ∈ xs, TieK K H0 x) ∧ ¬ GoodTies H0 m xs))) ∧
      ∀ H', Ex H0 H' → E (.ref A.eNoNet) none H'))
theorem len_init (K : PySem.W.Frag) (A : Ads) : ∀ vs H Q E, sp_init K A vs H Q E → vs.length = (["self", "many", "ties"] : List Str).length := by
  rintro _ _ _ _ ⟨_, _, _, _, _, rfl, _⟩; rfl

/-! ### data compared -/
section
variable {K : PySem.W.Frag} {H H' : Hp}
mutual
theorem Dp.mono (e : Ex H H') : ∀ {v : V} {d : PyData}, Dp K H v d → Dp K H' v d
  | _, _, .non => .non
  | _, _, .bl b => .bl b
  | _, _, .int i => .int i
  | _, _, .str x => .str x
  | _, _, .lst h t => .lst (ex_l e h) (DpAll.mono e t)
  | _, _, .tup h t => .tup (ex_t e h) (DpAll.mono e t)
theorem DpAll.mono (e : Ex H H') : ∀ {vs : List V} {ds : List PyData}, DpAll K H vs ds → DpAll K H' vs ds
  | _, _, .nil => .nil
  | _, _, .cons h t => .cons (Dp.mono e h) (DpAll.mono e t)
end
theorem rv_eqD {x y : V} {d d' : PyData} (h1 : Dp K H x d) (h2 : Dp K H y d') (s1 : SeqAt.shaped d = true) (s2 : SeqAt.shaped d' = true) : RV (rEqD K) x y H (.bl (PyData.eqv d d')) := fun H1 e _ q =>
  ⟨d, d', Dp.mono e h1, Dp.mono e h2, s1, s2, q H1 (Ex.refl H1)⟩
theorem rv_neD {x y : V} {d d' : PyData} (h1 : Dp K H x d) (h2 : Dp K H y d') (s1 : SeqAt.shaped d = true) (s2 : SeqAt.shaped d' = true) : RV (rNeD K) x y H (.bl (!PyData.eqv d d')) := fun H1 e _ q =>
  ⟨d, d', Dp.mono e h1, Dp.mono e h2, s1, s2, q H1 (Ex.refl H1)⟩
def intD (ns : List Int) : PyData := .list (ns.map PyData.int)
def tieD (t : Tie) : PyData := .tuple [.int (t.1 : Int), .int (t.2.1 : Int), .int t.2.2]
def tiesD (ts : List Tie) : PyData := .list (ts.map tieD)
theorem dpAll_ints : ∀ ns : List Int, DpAll K H (ns.map V.int) (ns.map PyData.int)
  | [] => .nil
  | n :: r => .cons (.int n) (dpAll_ints r)
theorem dp_ints {a : Addr} {ns : List Int} (h : SqL K H a (ns.map V.int)) : Dp K H (.ref a) (intD ns) := .lst h (dpAll_ints ns)
theorem dp_tie {a : Addr} {t : Tie} (h : H a = some (.tup (tieV t))) : Dp K H (.ref a) (tieD t) := .tup (st_of h) (.cons (.int _) (.cons (.int _) (.cons (.int _) .nil)))
theorem dpAll_ties : ∀ {as : List Addr} {ts : List Tie}, TiesAt H as ts → DpAll K H (as.map V.ref) (ts.map tieD)
  | _, _, .nil => .nil
  | _, _, .cons h t => .cons (dp_tie h) (dpAll_ties t)
theorem dp_ties {a : Addr} {as : List Addr} {ts : List Tie} (h : SqL K H a (as.map V.ref)) (t : TiesAt H as ts) : Dp K H (.ref a) (tiesD ts) := .lst h (dpAll_ties t)
end
theorem lay_ints : ∀ ns : List Int, PyData.canLayAll0 (ns.map PyData.int) = true
  | [] => rfl
  | n :: r => by
    show (true && PyData.canLayAll0 (r.map PyData.int)) = true
    rw [lay_ints r]; rfl
theorem depth_ints : ∀ ns : List Int, PyData.depthAll (ns.map PyData.int) = 0
  | [] => rfl
  | n :: r => by
    show max 0 (PyData.depthAll (r.map PyData.int)) = 0
    rw [depth_ints r]; rfl
theorem shaped_ints (ns : List Int) : SeqAt.shaped (intD ns) = true := by
  show (PyData.canLayAll0 (ns.map PyData.int) && decide (PyData.depthAll (ns.map PyData.int) + 1 ≤ 64)) = true
  rw [lay_ints, depth_ints]; rfl
theorem lay_tie (t : Tie) : PyData.canLay0 (tieD t) = true := rfl
theorem depth_tie (t : Tie) : PyData.depth (tieD t) = 1 := rfl
theorem shaped_tie (t : Tie) : SeqAt.shaped (tieD t) = true := rfl
theorem lay_ties : ∀ ts : List Tie, PyData.canLayAll0 (ts.map tieD) = true
  | [] => rfl
  | t :: r => by
    show (PyData.canLay0 (tieD t) && PyData.canLayAll0 (r.map tieD)) = true
    rw [lay_ties r]; rfl
theorem depth_ties : ∀ ts : List Tie, PyData.depthAll (ts.map tieD) ≤ 1
  | [] => Nat.zero_le _
  | t :: r => by
    show max 1 (PyData.depthAll (r.map tieD)) ≤ 1
    have := depth_ties r
    omega
theorem shaped_ties (ts : List Tie) : SeqAt.shaped (tiesD ts) = true := by
  show (PyData.canLayAll0 (ts.map tieD) && decide (PyData.depthAll (ts.map tieD) + 1 ≤ 64)) = true
  have := depth_ties ts
  rw [lay_ties, decide_eq_true (by omega)]; rfl
theorem eqv_ints : ∀ a b : List Int, PyData.eqv (intD a) (intD b) = decide (a = b) := by
  have key : ∀ a b : List Int, PyData.eqvAll (a.map PyData.int) (b.map PyData.int) = decide (a = b) := by
    intro a
    induction a with
    | nil => intro b; cases b <;> simp [PyData.eqvAll]
    | cons x r ih =>
      intro b
      cases b with
      | nil => simp [PyData.eqvAll]
      | cons y s =>
        show (PyData.eqv (.int x) (.int y) && PyData.eqvAll (r.map PyData.int) (s.map PyData.int)) = _
        rw [ih]
        show ((x == y) && decide (r = s)) = _
        rw [show (x == y) = decide (x = y) from rfl]
        by_cases h1 : x = y <;> by_cases h2 : r = s <;> simp [h1, h2]
  intro a b
  exact key a b
theorem eqv_self (d : PyData) (h : SeqAt.shaped d = true) : PyData.eqv d d = true := SeqAt.eqv_refl d (SeqAt.canLay_of_shaped h)

def t_is_whole (K : PySem.W.Frag) (A : Ads) : TS :=
  (tRet (tAndV (tCB (rIsi K) (tCons (tVar 0) (tCons (tC (.ty "int")) tNil))) (tNotV (tCB (rIsi K) (tCons (tVar 0) (tCons (tC (.ty "bool")) tNil))))))

def t_has (K : PySem.W.Frag) (A : Ads) : TS :=
  (tRet (tAndV (tCall (sp_is_whole K A) [] E0 (tCons (tVar 1) tNil)) (tChain rLe rLt (tC (.int 0)) (tVar 1) (tFld K (tVar 0) "many"))))

def t_need (K : PySem.W.Frag) (A : Ads) (E : XK) : TS :=
  (tIfS (tNot (tB (tMeth A.C "has" (sp_has K A) [] E0 (tVar 0) (tCons (tVar 1) tNil)))) (tRaiseE E A.eNoPlace) tNext)

def t_need_two (K : PySem.W.Frag) (A : Ads) (E : XK) : TS :=
  (tSeq (tDrop (tMeth A.C "need" (sp_need K A) [] E (tVar 0) (tCons (tVar 1) tNil)))
    (tSeq (tDrop (tMeth A.C "need" (sp_need K A) [] E (tVar 0) (tCons (tVar 2) tNil)))
    (tIfS (tTest (tOp rEq (tVar 1) (tVar 2))) (tRaiseE E A.eNoPlace) tNext)))

def t_cost (K : PySem.W.Frag) (A : Ads) : TS :=
  (tRet (tDGet2 (tFld K (tVar 0) "summed") (tTup (tCons (tCB rMin2 (tCons (tVar 1) (tCons (tVar 2) tNil))) (tCons (tCB rMax2 (tCons (tVar 1) (tCons (tVar 2) tNil))) tNil))) (tC (.int 0))))

def t_ties (K : PySem.W.Frag) (A : Ads) : TS :=
  (tRet (tCB (rListS K) (tCons (tFld K (tVar 0) "kept") tNil)))

def t_between (K : PySem.W.Frag) (A : Ads) (E : XK) : TS :=
  (tSeq (tDrop (tMeth A.C "need_two" (sp_need_two K A) [] E (tVar 0) (tCons (tVar 1) (tCons (tVar 2) tNil))))
    (tRet (tMeth A.C "cost" (sp_cost K A) [] E0 (tVar 0) (tCons (tVar 1) (tCons (tVar 2) tNil)))))

def t_beside (K : PySem.W.Frag) (A : Ads) (E : XK) : TS :=
  (tSeq (tDrop (tMeth A.C "need" (sp_need K A) [] E (tVar 0) (tCons (tVar 1) tNil)))
    (tRet (tCB (rSortedI K) (tCons (tOp (rIxL K) (tFld K (tVar 0) "near") (tVar 1)) tNil))))

def t_price (K : PySem.W.Frag) (A : Ads) (E : XK) : TS :=
  (tSeq (tIfS (tNot (tB (tCB (rIsi K) (tCons (tVar 1) (tCons (tC (.ty "list")) tNil))))) (tRaiseE E A.eNoSide) tNext)
    (tSeq (tFor (iRng1 (tCons (tCB (rLenS K) (tCons (tVar 1) tNil)) tNil)) (gName 2) (tIfS (tOr (tNot (tB (tMeth A.C "has" (sp_has K A) [] E0 (tVar 0) (tCons (tOp (rIxL K) (tVar 1) (tVar 2)) tNil)))) (tTest (tOp (rIn K false) (tOp (rIxL K) (tVar 1) (tVar 2)) (tSl (rSlL K) (tVar 1) tNoPart (tPart (tVar 2)))))) (tRaiseE E A.eNoSide) tNext))
    (tRet (tCB (rSum K) (tCons (tLc (iList K (tFld K (tVar 0) "kept")) (gName 3) (tTest (tOp rNe (tOp (rIn K false) (tOp (rIxT K) (tVar 3) (tC (.int 0))) (tVar 1)) (tOp (rIn K false) (tOp (rIxT K) (tVar 3) (tC (.int 1))) (tVar 1)))) (tOp (rIxT K) (tVar 3) (tC (.int 2))) [3]) tNil)))))

def t_init (K : PySem.W.Frag) (A : Ads) (E : XK) : TS :=
  (tSeq (tIfS (tOr (tNot (tB (tCall (sp_is_whole K A) [] E0 (tCons (tVar 1) tNil)))) (tNot (tTest (tChain rLe rLe (tC (.int 1)) (tVar 1) (tC (.int 24)))))) (tRaiseE E A.eNoNet) tNext)
    (tSeq (tIfS (tOr (tNot (tB (tCB (rIsi K) (tCons (tVar 2) (tCons (tC (.ty "list")) tNil))))) (tTest (tOp rGt1 (tCB (rLenS K) (tCons (tVar 2) tNil)) (tC (.int 300))))) (tRaiseE E A.eNoNet) tNext)
    (tSeq (sFld K (tVar 0) (tVar 1) "many")
    (tSeq (sFld K (tVar 0) (tLst tNil) "kept")
    (tSeq (sFld K (tVar 0) tDNewT "summed")
    (tSeq (sFld K (tVar 0) (tLc (iRng1 (tCons (tVar 1) tNil)) (gName 5) tYes (tLst tNil) [5]) "near")
    (tFor (iList K (tVar 2)) (gName 3) (tSeq (tIfS (tOr (tNot (tB (tCB (rIsi K) (tCons (tVar 3) (tCons (tC (.ty "tuple")) tNil))))) (tOr (tTest (tOp rNe (tCB (rLenS K) (tCons (tVar 3) tNil)) (tC (.int 3)))) (tOr (tNot (tB (tMeth A.C "has" (sp_has K A) [] E0 (tVar 0) (tCons (tOp (rIxT K) (tVar 3) (tC (.int 0))) tNil)))) (tNot (tB (tMeth A.C "has" (sp_has K A) [] E0 (tVar 0) (tCons (tOp (rIxT K) (tVar 3) (tC (.int 1))) tNil))))))) (tRaiseE E A.eNoNet) tNext)
    (tSeq (tIfS (tOr (tTest (tOp rEq (tOp (rIxT K) (tVar 3) (tC (.int 0))) (tOp (rIxT K) (tVar 3) (tC (.int 1))))) (tOr (tNot (tB (tCall (sp_is_whole K A) [] E0 (tCons (tOp (rIxT K) (tVar 3) (tC (.int 2))) tNil)))) (tNot (tTest (tChain rLe rLe (tC (.int 1)) (tOp (rIxT K) (tVar 3) (tC (.int 2))) (tC (.int 1000000000))))))) (tRaiseE E A.eNoNet) tNext)
    (tSeq (tAsg (tTup (tCons (tCB rMin2 (tCons (tOp (rIxT K) (tVar 3) (tC (.int 0))) (tCons (tOp (rIxT K) (tVar 3) (tC (.int 1))) tNil))) (tCons (tCB rMax2 (tCons (tOp (rIxT K) (tVar 3) (tC (.int 0))) (tCons (tOp (rIxT K) (tVar 3) (tC (.int 1))) tNil))) tNil))) (gName 4))
    (tSeq (tDrop (tBM K "list" rAppend (tFld K (tVar 0) "kept") (tCons (tVar 3) tNil)))
    (tSeq (tIfS (tB (tDNotIn (tVar 4) (tFld K (tVar 0) "summed"))) (tSeq (tDrop (tBM K "list" rAppend (tOp (rIxL K) (tFld K (tVar 0) "near") (tOp (rIxT K) (tVar 4) (tC (.int 0)))) (tCons (tOp (rIxT K) (tVar 4) (tC (.int 1))) tNil)))
    (tDrop (tBM K "list" rAppend (tOp (rIxL K) (tFld K (tVar 0) "near") (tOp (rIxT K) (tVar 4) (tC (.int 1)))) (tCons (tOp (rIxT K) (tVar 4) (tC (.int 0))) tNil)))) tNext)
    (sDPut (tFld K (tVar 0) "summed") (tVar 4) (tOp rPlus (tMeth A.C "cost" (sp_cost K A) [] E0 (tVar 0) (tCons (tOp (rIxT K) (tVar 4) (tC (.int 0))) (tCons (tOp (rIxT K) (tVar 4) (tC (.int 1))) tNil))) (tOp (rIxT K) (tVar 3) (tC (.int 2)))))))))))))))))

/-! our tactics, under the words of the library's own syntax -/
local macro_rules | `(tactic| walk_at "ar") => `(tactic| first | assumption | omega | decide | (refine ⟨?_, ?_⟩ <;> omega) | exact .inl ⟨by omega, by omega⟩ | exact .inr ⟨by omega, by omega⟩)
local macro_rules | `(tactic| walk_at "hp") => `(tactic| first | assumption | exact upd_same | ((with_reducible apply Eq.trans (upd_ne (by first | assumption | exact Ne.symm (by assumption)))); walk_at "hp") | ((with_reducible apply Ex.get (by assumption)); walk_at "hp"))
local macro_rules | `(tactic| walk_at "lk") => `(tactic| first | with_reducible exact lk_many | with_reducible exact lk_kept | with_reducible exact lk_summed | with_reducible exact lk_near | ((with_reducible apply lk_no); decide +kernel) | assumption)
local macro_rules | `(tactic| walk_at "na") => `(tactic| first | with_reducible exact NetC.nM (by assumption) | with_reducible exact NetC.nK (by assumption) | with_reducible exact NetC.nS (by assumption) | with_reducible exact NetC.nN (by assumption))
local macro_rules | `(tactic| walk_at "sq") => `(tactic| first | assumption | with_reducible exact sq_of (by assumption) | with_reducible exact st_of (by assumption) | ((with_reducible apply sq_of); walk_at "hp") | ((with_reducible apply st_of); walk_at "hp"))
local macro_rules | `(tactic| walk_at "at") => `(tactic| first | rfl | assumption)
local macro_rules | `(tactic| walk_at "vt") => `(tactic| first | assumption | with_reducible exact vt_int | with_reducible exact vt_bl | with_reducible exact vt_str | with_reducible exact vt_non | with_reducible exact vt_lst (by walk_at "hp") | with_reducible exact vt_tup (by walk_at "hp"))
local macro_rules | `(tactic| walk_at "rv") => `(tactic| first
  | with_reducible exact rv_plus | with_reducible exact rv_minus | with_reducible exact rv_lt | with_reducible exact rv_le | with_reducible exact rv_gt | with_reducible exact rv_ge
  | with_reducible exact rv_eqI | with_reducible exact rv_neI | with_reducible exact rv_eqB | with_reducible exact rv_neB | with_reducible exact rv_eqS | with_reducible exact rv_neS
  | ((with_reducible apply rv_times); walk_at "ar") | ((with_reducible apply rv_fdiv); walk_at "ar") | ((with_reducible apply rv_mod); walk_at "ar")
  | ((with_reducible apply rv_ixT); walk_at "sq"; walk_at "at") | ((with_reducible apply rv_ixL); walk_at "sq"; walk_at "at"))
local macro_rules | `(tactic| walk_at "rc") => `(tactic| first
  | with_reducible exact rc_min2 | with_reducible exact rc_max2
  | ((with_reducible apply rc_isi); walk_at "vt"; first | assumption | with_reducible exact kitB_self _ | decide +kernel)
  | ((with_reducible apply rc_lenL); walk_at "sq") | ((with_reducible apply rc_lenT); walk_at "sq") | ((with_reducible apply rc_sum); walk_at "sq"))
local macro_rules | `(tactic| walk_at "rcl") => `(tactic| first
  | ((with_reducible apply rcl_sorted); walk_at "sq") | ((with_reducible apply rcl_list); first | exact .inl (by walk_at "sq") | exact .inr (by walk_at "sq")))
local macro_rules | `(tactic| walk_at "sp") => `(tactic| assumption)
local macro_rules | `(tactic| walk_at "ev") => `(tactic| first
  | ((with_reducible apply ev_var); rfl)
  | with_reducible exact ev_c
  | ((with_reducible apply ev_fld); walk_at "ev"; walk_at "hp"; exact NetC.cl (by assumption); walk_at "na"; walk_at "lk")
  | ((with_reducible apply ev_op); walk_at "ev"; walk_at "ev"; walk_at "rv")
  | ((with_reducible apply ev_chain); walk_at "ev"; walk_at "ev"; walk_at "rv"; (intro; walk_at "ev"); (intro; walk_at "rv"))
  | ((with_reducible apply ev_andV); walk_at "ev"; (intro; walk_at "ev"))
  | ((with_reducible apply ev_orV); walk_at "ev"; (intro; walk_at "ev"))
  | ((with_reducible apply ev_notV); walk_at "ev")
  | ((with_reducible apply ev_un); walk_at "ev"; with_reducible exact ru_neg)
  | ((with_reducible apply ev_call); walk_at "ev"; walk_at "sp")
  | ((with_reducible apply ev_meth); walk_at "ev"; walk_at "hp"; walk_at "lk"; walk_at "ev"; walk_at "sp")
  | ((with_reducible apply ev_get2); walk_at "ev"; walk_at "hp"; walk_at "ev"; walk_at "ev")
  | ((with_reducible apply ev_cb); walk_at "ev"; walk_at "rc")
  | with_reducible exact ea_nil
  | ((with_reducible apply ea_cons); walk_at "ev"; walk_at "ev")
  | ((with_reducible apply et_test); walk_at "ev")
  | ((with_reducible apply et_B); walk_at "ev")
  | ((with_reducible apply et_and); walk_at "ev"; (intro; walk_at "ev"))
  | ((with_reducible apply et_or); walk_at "ev"; (intro; walk_at "ev"))
  | ((with_reducible apply et_not); walk_at "ev")
  | ((with_reducible apply eu_tup); walk_at "ev"; (simp only [List.length]; decide))
  | ((with_reducible apply el_lst); walk_at "ev"; (simp only [List.length]; decide))
  | ((with_reducible apply el_cb); walk_at "ev"; walk_at "rcl")
  | ((with_reducible apply el_meth); walk_at "ev"; walk_at "hp"; walk_at "lk"; walk_at "ev"; walk_at "sp")
  | ((with_reducible apply el_call); walk_at "ev"; walk_at "sp")
  | with_reducible exact eo_none
  | ((with_reducible apply eo_some); walk_at "ev")
  | ((with_reducible apply el_sl); walk_at "ev"; walk_at "ev"; walk_at "ev"; walk_at "sq"))

section
variable {K : PySem.W.Frag} {A : Ads}
abbrev toEnds (Q : VK) : Ends := { nx := fun _ H' => Q .non H', rt := Q }
theorem pure_is_whole (nc : NetC K A) (vs : List V) (H : Hp) (Q : VK) (E : XK) (h : sp_is_whole K A vs H Q E) : t_is_whole K A { nx := fun _ H' => Q .non H', rt := Q } (start ["thing"] vs) H := by
  obtain ⟨v, rfl, ⟨ty, b1, b2, hv, h1, h2, h3⟩, k⟩ := h
  unfold t_is_whole
  refine s_ret (v := .bl (b1 && !b2)) (by walk_at "ev") fun H1 e1 => ?_
  rw [h3]
  exact k H1 e1
theorem pure_has (nc : NetC K A) (vs : List V) (H : Hp) (Q : VK) (E : XK) (h : sp_has K A vs H Q E) : t_has K A { nx := fun _ H' => Q .non H', rt := Q } (start ["self", "place"] vs) H := by
  obtain ⟨p, m, kl, sd, nl, v, rfl, ⟨dx, ho⟩, hv, k⟩ := h
  unfold t_has
  have h1 : SpV (sp_is_whole K A) [v] H (.bl (isI v)) := spv_is_whole hv
  cases v with
  | int i =>
    refine s_ret (by walk_at "ev") fun H1 e1 => ?_
    exact k H1 e1
  | _ =>
    refine s_ret (v := .bl (false && false)) (ev_andV (by walk_at "ev") (fun q => nomatch q)) fun H1 e1 => ?_
    exact k H1 e1
end

section
variable {K : PySem.W.Frag} {A : Ads}
theorem pure_need (nc : NetC K A) (vs : List V) (H : Hp) (Q : VK) (E : XK) (h : sp_need K A vs H Q E) : t_need K A E { nx := fun _ H' => Q .non H', rt := Q } (start ["self", "place"] vs) H := by
  obtain ⟨p, m, kl, sd, nl, v, rfl, ho, hv, k1, k2⟩ := h
  have h1 := spv_has (K := K) ho hv
  obtain ⟨dx, ho⟩ := ho
  unfold t_need
  refine s_if (b := !isPl m v) (by walk_at "ev") (fun hb H1 e1 => ?_) (fun hb H1 e1 => ?_)
  · exact k2 (by simpa using hb) H1 e1
  · exact k1 (by simpa using hb) H1 e1
theorem pure_cost (nc : NetC K A) (vs : List V) (H : Hp) (Q : VK) (E : XK) (h : sp_cost K A vs H Q E) : t_cost K A { nx := fun _ H' => Q .non H', rt := Q } (start ["self", "one", "other"] vs) H := by
  obtain ⟨p, m, kl, sd, nl, kvs, i, j, rfl, ⟨dx, ho⟩, hd, k⟩ := h
  unfold t_cost
  refine s_ret (v := (valV kvs (keyT i j)).getD (.int 0)) ?_ k
  refine ev_get2 (by walk_at "ev") hd ?_ ev_c
  show EvU _ _ _ [V.int (min i j), V.int (max i j)]
  walk_at "ev"
theorem isPl_int {m : Int} {v : V} (h : isPl m v = true) : ∃ i : Int, v = .int i ∧ 0 ≤ i ∧ i < m := by
  cases v <;> simp [isPl] at h ⊢
  exact h
theorem isPl_nat {m : Nat} {v : V} (h : isPl (m : Int) v = true) : ∃ i : Nat, v = vi i ∧ i < m := by
  obtain ⟨i, rfl, h0, h1⟩ := isPl_int h
  exact ⟨i.toNat, by unfold vi; congr 1; omega, by omega⟩
theorem isPl_vi {m i : Nat} (h : i < m) : isPl (m : Int) (vi i) = true := by
  simp [isPl, vi, h]
theorem pure_need_two (nc : NetC K A) (vs : List V) (H : Hp) (Q : VK) (E : XK) (h : sp_need_two K A vs H Q E) : t_need_two K A E { nx := fun _ H' => Q .non H', rt := Q } (start ["self", "one", "other"] vs) H := by
  obtain ⟨p, m, kl, sd, nl, v, u, rfl, ho, hv, hu, k1, k2⟩ := h
  obtain ⟨dx, ho⟩ := id ho
  have ho1 : ObjAt A H p m kl sd nl := ⟨dx, ho⟩
  unfold t_need_two
  refine q_drop0 (c_meth (by walk_at "ev") ho (by walk_at "lk") (by walk_at "ev") fun H1 e1 => ⟨p, m, kl, sd, nl, v, rfl, ho1.mono e1, hv.mono e1, fun b1 H2 e2 => ?_, fun b1 H2 e2 => ?_⟩)
  · have ho2 := ho1.mono (e1.trans e2)
    have hu2 := hu.mono (e1.trans e2)
    have ho' := (e1.trans e2) _ _ ho
    refine q_drop0 (c_meth (by walk_at "ev") ho' (by walk_at "lk") (by walk_at "ev") fun H3 e3 => ⟨p, m, kl, sd, nl, u, rfl, ho2.mono e3, hu2.mono e3, fun b2 H4 e4 => ?_, fun b2 H4 e4 => ?_⟩)
    · obtain ⟨i, rfl, _⟩ := isPl_int b1
      obtain ⟨j, rfl, _⟩ := isPl_int b2
      refine s_if (by walk_at "ev") (fun hb H5 e5 => ?_) (fun hb H5 e5 => ?_)
      · refine k2 ?_ _ ((((e1.trans e2).trans e3).trans e4).trans e5)
        have hb : i = j := of_decide_eq_true hb
        subst hb
        simp [isTwo]
      · refine k1 ?_ _ ((((e1.trans e2).trans e3).trans e4).trans e5)
        have hb : ¬ i = j := of_decide_eq_false hb
        unfold isTwo
        rw [b1, b2, deq_int, decide_eq_false hb]
        rfl
    · exact k2 (by simp [isTwo, b2]) _ (((e1.trans e2).trans e3).trans e4)
  · exact k2 (by simp [isTwo, b1]) _ (e1.trans e2)
theorem joins_comm (i j : Nat) : joins i j = joins j i := by
  funext t
  unfold joins
  rw [Bool.or_comm]
theorem costOf_comm (ts : List Tie) (i j : Nat) : costOf ts i j = costOf ts j i := by
  unfold costOf
  rw [joins_comm]
/-- what the dict tells of two places -/
theorem SumOk.get {kvs : List (List Key × V)} {ts : List Tie} (h : SumOk kvs ts) {i j : Nat} (hij : i ≠ j) : (valV kvs (keyT (i : Int) (j : Int))).getD (.int 0) = .int (costOf ts i j) := by
  have key : ∀ i j : Nat, i < j → (valV kvs (keyN i j)).getD (.int 0) = .int (costOf ts i j) := fun i j hij => by
    rw [h.val i j hij]
    by_cases ha : ts.any (joins i j) = true
    · rw [if_pos ha]; rfl
    · rw [if_neg ha]
      have : ts.filter (joins i j) = [] := by
        rw [List.filter_eq_nil_iff]
        intro t ht hj
        exact ha (List.any_eq_true.mpr ⟨t, ht, hj⟩)
      unfold costOf
      rw [this]; rfl
  by_cases hlt : i < j
  · have e : keyT (i : Int) (j : Int) = keyN i j := by
      unfold keyT keyN
      rw [Int.min_eq_left (by omega), Int.max_eq_right (by omega)]
    rw [e]; exact key i j hlt
  · have e : keyT (i : Int) (j : Int) = keyN j i := by
      unfold keyT keyN
      rw [Int.min_eq_right (by omega), Int.max_eq_left (by omega)]
    rw [e, costOf_comm]; exact key j i (by omega)
theorem pure_ties (nc : NetC K A) (vs : List V) (H : Hp) (Q : VK) (E : XK) (h : sp_ties K A vs H Q E) : t_ties K A { nx := fun _ H' => Q .non H', rt := Q } (start ["self"] vs) H := by
  obtain ⟨p, n, s, rfl, N, k⟩ := h
  have ho := N.ob
  have hk := N.hk
  unfold t_ties
  exact s_retL (by walk_at "ev") k
theorem pure_between (nc : NetC K A) (vs : List V) (H : Hp) (Q : VK) (E : XK) (h : sp_between K A vs H Q E) : t_between K A E { nx := fun _ H' => Q .non H', rt := Q } (start ["self", "one", "other"] vs) H := by
  obtain ⟨p, n, s, v, u, rfl, N, hv, hu, k1, k2⟩ := h
  have ho := N.ob
  unfold t_between
  refine q_drop0 (c_meth (by walk_at "ev") ho (by walk_at "lk") (by walk_at "ev") fun H1 e1 => ⟨p, _, _, _, _, v, u, rfl, N.obj.mono e1, hv.mono e1, hu.mono e1, fun b H2 e2 => ?_, fun b H2 e2 => k2 b _ (e1.trans e2)⟩)
  have N2 := N.mono (e1.trans e2)
  unfold isTwo at b
  simp only [Bool.and_eq_true, Bool.not_eq_true', decide_eq_false_iff_not] at b
  obtain ⟨⟨b1, b2⟩, b3⟩ := b
  obtain ⟨i, rfl, hi⟩ := isPl_nat b1
  obtain ⟨j, rfl, hj⟩ := isPl_nat b2
  have hij : i ≠ j := fun q => b3 (by rw [q])
  have hc := spv_cost (K := K) (i := (i : Int)) (j := (j : Int)) N2.obj N2.hs
  rw [N2.so.get hij] at hc
  have ho2 := N2.ob
  refine s_ret (v := .int (costOf n.ties i j)) ?_ fun H3 e3 => k1 i j rfl rfl hi hj hij _ ((e1.trans e2).trans e3)
  exact ev_meth (by walk_at "ev") ho2 (by walk_at "lk") (vs := [.int (i : Int), .int (j : Int)]) (by walk_at "ev") hc
theorem pure_beside (nc : NetC K A) (vs : List V) (H : Hp) (Q : VK) (E : XK) (h : sp_beside K A vs H Q E) : t_beside K A E { nx := fun _ H' => Q .non H', rt := Q } (start ["self", "place"] vs) H := by
  obtain ⟨p, n, s, v, rfl, N, hv, k1, k2⟩ := h
  have ho := N.ob
  unfold t_beside
  refine q_drop0 (c_meth (by walk_at "ev") ho (by walk_at "lk") (by walk_at "ev") fun H1 e1 => ⟨p, _, _, _, _, v, rfl, N.obj.mono e1, hv.mono e1, fun b H2 e2 => ?_, fun b H2 e2 => k2 b _ (e1.trans e2)⟩)
  have N2 := N.mono (e1.trans e2)
  obtain ⟨i, rfl, hi⟩ := isPl_nat b
  have ho2 := N2.ob
  have hn2 := N2.hn
  have hlen := N2.na.len
  obtain ⟨a, ha⟩ : ∃ a, s.ns[i]? = some a := ⟨s.ns[i]'(by omega), List.getElem?_eq_getElem _⟩
  have hl := N2.na.at_ i a ha
  have hat : atI (s.ns.map V.ref) (i : Int) = some (.ref a) := atI_nat (by rw [List.getElem?_map, ha]; rfl)
  have e0 : (nearOf n.ties i).map vi = (List.map (fun j : Nat => (j : Int)) (nearOf n.ties i)).map V.int := by
    rw [List.map_map]; rfl
  rw [e0] at hl
  refine s_retL ?_ fun q H3 hq e3 h3 => k1 i rfl hi q H3 (fresh_back (e1.trans e2) hq) ((e1.trans e2).trans e3) h3
  refine el_cb (vs := [.ref a]) ?_ (rcl_sorted (sq_of hl))
  refine ea_cons (ev_op (x := .ref s.nl) (y := .int (i : Int)) (by walk_at "ev") (by walk_at "ev") (rv_ixL (sq_of hn2) hat)) ea_nil
end

section
variable {K : PySem.W.Frag} {A : Ads}
theorem flat_vi (l : List Nat) : (l.map vi).all flatV = true := by
  rw [List.all_map]
  exact List.all_eq_true.mpr fun x _ => rfl
theorem eqV_vi (i j : Nat) : eqV (vi i) (vi j) = decide (i = j) := by
  show decide ((i : Int) = (j : Int)) = decide (i = j)
  by_cases h : i = j
  · subst h; simp
  · rw [decide_eq_false h, decide_eq_false (by omega)]
theorem inV_vi (i : Nat) (l : List Nat) : inV (vi i) (l.map vi) = decide (i ∈ l) := by
  unfold inV
  rw [List.any_map]
  by_cases h : i ∈ l
  · rw [decide_eq_true h]
    exact List.any_eq_true.mpr ⟨i, h, by show eqV (vi i) (vi i) = true; rw [eqV_vi]; simp⟩
  · rw [decide_eq_false h]
    rw [Bool.eq_false_iff]
    intro q
    obtain ⟨x, hx, e⟩ := List.any_eq_true.mp q
    have e : eqV (vi x) (vi i) = true := e
    rw [eqV_vi] at e
    exact h (of_decide_eq_true e ▸ hx)
theorem cutV_take (xs : List V) (i : Nat) : cutV xs none (some (i : Int)) = xs.take i := by
  unfold cutV
  rw [HT.sIx_none, HT.sIx_nat]
  simp
theorem GoodSide.take {m : Nat} {xs : List V} (h : GoodSide m xs) (i : Nat) : GoodSide m (xs.take i) := by
  obtain ⟨side, rfl, nd, hl⟩ := h
  exact ⟨side.take i, by rw [List.map_take], nd.sublist (List.take_sublist i side), fun j hj => hl j (List.mem_of_mem_take hj)⟩
theorem take_succ_of {α : Type} {xs : List α} {i : Nat} {x : α} (h : xs[i]? = some x) : xs.take (i + 1) = xs.take i ++ [x] := by
  rw [List.take_add_one, h]; rfl
theorem GoodSide.more {m : Nat} {xs : List V} {i j : Nat} (h : GoodSide m (xs.take i)) (hx : xs[i]? = some (vi j)) (hj : j < m) (hn : inV (vi j) (xs.take i) = false) : GoodSide m (xs.take (i + 1)) := by
  obtain ⟨side, e, nd, hl⟩ := h
  rw [e, inV_vi] at hn
  have hn : j ∉ side := of_decide_eq_false hn
  refine ⟨side ++ [j], by rw [take_succ_of hx, e]; simp, ?_, fun k hk => ?_⟩
  · rw [List.nodup_append]
    exact ⟨nd, by simp, fun a ha b hb q => hn (by rw [List.mem_singleton] at hb; rw [← hb, ← q]; exact ha)⟩
  · rcases List.mem_append.mp hk with q | q
    · exact hl k q
    · rw [List.mem_singleton] at q
      rw [q]; exact hj
theorem GoodSide.no_place {m : Nat} {xs : List V} {i : Nat} {x : V} (hx : xs[i]? = some x) (h : isPl (m : Int) x = false) : ¬ GoodSide m xs := by
  rintro ⟨side, rfl, nd, hl⟩
  rw [List.getElem?_map] at hx
  cases e : side[i]? with
  | none => rw [e] at hx; cases hx
  | some k =>
    rw [e] at hx
    have e2 : vi k = x := Option.some.inj hx
    rw [← e2, isPl_vi (hl k (List.mem_of_getElem? e))] at h
    cases h
theorem GoodSide.no_twice {m : Nat} {xs : List V} {i j : Nat} (hx : xs[i]? = some (vi j)) (g : GoodSide m (xs.take i)) (h : inV (vi j) (xs.take i) = true) : ¬ GoodSide m xs := by
  rintro ⟨side, rfl, nd, hl⟩
  rw [← List.map_take, inV_vi] at h
  have h : j ∈ side.take i := of_decide_eq_true h
  rw [List.getElem?_map] at hx
  cases e : side[i]? with
  | none => rw [e] at hx; cases hx
  | some k =>
    rw [e] at hx
    have e2 : k = j := vi_inj (Option.some.inj hx)
    subst e2
    obtain ⟨q, hq⟩ := List.getElem?_of_mem h
    have hqi : q < i := by
      have := (List.getElem?_eq_some_iff.mp hq).1
      rw [List.length_take] at this
      omega
    rw [List.getElem?_take_of_lt hqi] at hq
    exact absurd (nd_ix nd hq e) (by omega)
end
section
variable {K : PySem.W.Frag} {A : Ads}
theorem GoodSide.nil {m : Nat} : GoodSide m [] := ⟨[], rfl, List.nodup_nil, fun _ h => nomatch h⟩
theorem pure_price (nc : NetC K A) (vs : List V) (H : Hp) (Q : VK) (E : XK) (h : sp_price K A vs H Q E) : t_price K A E { nx := fun _ H' => Q .non H', rt := Q } (start ["self", "side", "at", "tie"] vs) H := by
  obtain ⟨p, n, s, v, rfl, N, h⟩ := h
  unfold t_price
  rcases h with ⟨l, xs, rfl, hl, hz, hk, k1, k2⟩ | ⟨ty, hv, hb, k⟩
  · refine q_skip (et_not (a := true) (by walk_at "ev")) fun H1 e1 => ?_
    have hl1 := e1 _ _ hl
    refine q_forR1 (n := (xs.length : Int)) (by walk_at "ev") (by omega) (fun i σ H' => ∃ w, σ = [some (.ref p), some (.ref l), w, none] ∧ Ex H H' ∧ GoodSide n.many (xs.take i)) (fun H2 e2 => ⟨none, rfl, e1.trans e2, by rw [List.take_zero]; exact GoodSide.nil⟩) ?_ ?_
    · rintro i σ H' hi ⟨w, rfl, e, g⟩
      have hi : i < xs.length := by omega
      have hx : xs[i]? = some xs[i] := List.getElem?_eq_getElem hi
      generalize xs[i] = x at hx
      have hkx := (hk x (List.mem_of_getElem? hx)).mono e
      have N' := N.mono e
      have ho := N'.ob
      have hl' := e _ _ hl
      have hat : atI xs (i : Int) = some x := atI_nat hx
      have hh := spv_has (K := K) N'.obj hkx
      have et : EvT (tNot (tB (tMeth A.C "has" (sp_has K A) [] E0 (tVar 0) (tCons (tOp (rIxL K) (tVar 1) (tVar 2)) tNil)))) [some (.ref p), some (.ref l), some (.int (i : Int)), none] H' (!isPl (n.many : Int) x) := by
        walk_at "ev"
      show tIfS _ _ _ _ [some (.ref p), some (.ref l), some (.int (i : Int)), none] H'
      cases b : isPl (n.many : Int) x with
      | false =>
        rw [b] at et
        refine s_yes (et_or et (b := false) (fun q => nomatch q)) fun H2 e2 => ?_
        exact k2 (GoodSide.no_place hx b) _ (e.trans e2)
      | true =>
        obtain ⟨j, rfl, hj⟩ := isPl_nat b
        rw [b] at et
        obtain ⟨side, es, nd, hsl⟩ := id g
        have ein : EvT (tTest (tOp (rIn K false) (tOp (rIxL K) (tVar 1) (tVar 2)) (tSl (rSlL K) (tVar 1) tNoPart (tPart (tVar 2))))) [some (.ref p), some (.ref l), some (.int (i : Int)), none] H' (inV (vi j) (xs.take i)) := by
          refine et_test (ev_opL (x := vi j) (xs := xs.take i) (by walk_at "ev") ?_ fun q H3 h3 e3 => rv_isL (sq_of h3) rfl (by rw [es]; exact flat_vi _))
          rw [← cutV_take]
          walk_at "ev"
        refine s_if (et_or et fun _ => ein) (fun hb H2 e2 => ?_) (fun hb H2 e2 => ?_)
        · exact k2 (GoodSide.no_twice hx g (by simpa using hb)) _ (e.trans e2)
        · exact ⟨some (.int (i : Int)), rfl, e.trans e2, g.more hx hj (by simpa using hb)⟩
    · rintro σ H' ⟨w, rfl, e, g⟩
      rw [show (xs.length : Int).toNat = xs.length from by omega, List.take_length] at g
      obtain ⟨side, rfl, nd, hsl⟩ := g
      have N' := N.mono e
      have ho := N'.ob
      have hl' := e _ _ hl
      refine s_ret (v := .int (priceOf n.ties side)) ?_ fun H2 e2 => k1 side rfl nd hsl _ (e.trans e2)
      have hlen : (s.as.map V.ref).length = n.ties.length := by rw [List.length_map]; exact Paired.length N'.ta
      refine ev_cbL (xs := ((n.ties.filter fun t => decide (t.1 ∈ side) != decide (t.2.1 ∈ side)).map (·.2.2)).map V.int) ?_ fun q H2 h2 e2 => rc_sum (sq_of h2)
      rw [List.map_map]
      refine el_lcF (α := Tie) n.ties _ _ (a := s.kl) (by walk_at "ev") (sq_of N'.hk) (by rw [hlen]; have := n.ties; have := N'.ok.few; omega) hlen (fun _ => rfl) ?_ ?_
      · intro i x t H2 e2 hx ht
        rw [List.getElem?_map] at hx
        cases ea : s.as[i]? with
        | none => rw [ea] at hx; cases hx
        | some a =>
          rw [ea] at hx
          have ex : V.ref a = x := Option.some.inj hx
          subst ex
          have hta := (N'.ta.mono e2)
          have hta := paired_get hta ea ht
          have hl2 := e2 _ _ hl'
          show EvT _ [some (.ref p), some (.ref l), w, some (.ref a)] H2 _
          refine et_test (ev_is (v := .bl (!decide (decide (t.1 ∈ side) = decide (t.2.1 ∈ side)))) ?_ (by congr 1))
          refine ev_op (x := .bl (decide (t.1 ∈ side))) (y := .bl (decide (t.2.1 ∈ side))) ?_ ?_ rv_neB
          · rw [← inV_vi]
            exact ev_op (x := vi t.1) (y := .ref l) (ev_op (x := .ref a) (y := .int 0) (by walk_at "ev") ev_c (rv_ixT (st_of hta) rfl)) (by walk_at "ev") (rv_isL (sq_of hl2) rfl (flat_vi _))
          · rw [← inV_vi]
            exact ev_op (x := vi t.2.1) (y := .ref l) (ev_op (x := .ref a) (y := .int 1) (by walk_at "ev") ev_c (rv_ixT (st_of hta) rfl)) (by walk_at "ev") (rv_isL (sq_of hl2) rfl (flat_vi _))
      · intro i x t H2 e2 hx ht _
        rw [List.getElem?_map] at hx
        cases ea : s.as[i]? with
        | none => rw [ea] at hx; cases hx
        | some a =>
          rw [ea] at hx
          have ex : V.ref a = x := Option.some.inj hx
          subst ex
          have hta := (N'.ta.mono e2)
          have hta := paired_get hta ea ht
          exact ev_op (x := .ref a) (y := .int 2) (ev_var rfl) ev_c (rv_ixT (st_of hta) rfl)
  · refine q_yes (et_not (a := false) (by walk_at "ev")) fun H1 e1 => k H1 e1
end

section
variable {K : PySem.W.Frag} {A : Ads}
theorem ty_go {σ : L2.St} {H : Hp} {Q : Bool → Hp → Prop} (h : Q true H) : tYes σ H Q := h
theorem c_news {σ : L2.St} {H : Hp} {Q : VK} {j m : Nat} {ta : TA} (hm : EvA ta σ H [.int (m : Int)]) (hz : m ≤ 1000) (hw : ∀ x, wipe ((wipe σ [j]).set j (some x)) [j] = wipe σ [j])
    (k : ∀ (D : Addr) (ns : List Addr) (H' : Hp), H D = none → Ex H H' → H' D = some (.lst (ns.map V.ref)) → ns.length = m → ns.Nodup → D ∉ ns → (∀ a ∈ ns, H a = none ∧ H' a = some (.lst [])) → Q (.ref D) H') : tLc (iRng1 ta) (gName j) tYes (tLst tNil) [j] σ H Q := by
  refine hm H (Ex.refl H) _ fun H1 e1 => ⟨(m : Int), rfl, by omega, by omega, fun D hD => ?_⟩
  refine lc_range (lo := 0) (n := (m : Int).toNat) (fun i H' => ∃ ns : List Addr, Ex H1 H' ∧ H' D = some (.lst (ns.map V.ref)) ∧ ns.length = i ∧ ns.Nodup ∧ D ∉ ns ∧ ∀ a ∈ ns, H1 a = none ∧ H' a = some (.lst [])) ⟨[], Ex.new hD, upd_same, rfl, List.nodup_nil, by simp, fun a h => nomatch h⟩ ?_ ?_
  · rintro i H' hi ⟨ns, e, hd, hl, nd, hn, ha⟩
    refine ⟨hw _, ?_⟩
    refine ty_go ?_
    rw [if_pos rfl]
    refine ⟨Nat.zero_le _, fun a fa => ?_⟩
    have hDa : D ≠ a := ne_of_none hd fa
    have han : a ∉ ns := fun q => by
      have := (ha a q).2
      rw [fa] at this; cases this
    refine ⟨ns.map V.ref, by rw [upd_ne hDa]; exact hd, ?_, ns ++ [a], ?_, ?_, ?_, ?_, ?_, ?_⟩
    · rw [List.length_map]; exact sz_lt (by omega)
    · exact Ex.mut (Ex.trans e (Ex.new fa)) hD
    · rw [upd_same]; simp
    · simp [hl]
    · rw [List.nodup_append]
      exact ⟨nd, by simp, fun x hx y hy q => han (by rw [List.mem_singleton] at hy; rw [← hy, ← q]; exact hx)⟩
    · rw [List.mem_append, not_or]
      exact ⟨hn, by simp [hDa]⟩
    · intro b hb
      rcases List.mem_append.mp hb with q | q
      · have hbD : b ≠ D := fun z => hn (by rw [← z]; exact q)
        have hba : b ≠ a := fun z => han (by rw [← z]; exact q)
        rw [upd_ne hbD, upd_ne hba]
        exact ha b q
      · rw [List.mem_singleton] at q
        subst q
        rw [upd_ne hDa.symm, upd_same]
        exact ⟨fresh_back e fa, rfl⟩
  · rintro H' ⟨ns, e, hd, hl, nd, hn, ha⟩
    exact k D ns H' (fresh_back e1 hD) (e1.trans e) hd (by omega) nd hn fun a q => ⟨fresh_back e1 (ha a q).1, (ha a q).2⟩
end

section
variable {K : PySem.W.Frag} {A : Ads}
theorem GoodTies.at_ {H : Hp} {m : Nat} {xs : List V} {i : Nat} {x : V} (g : GoodTies H m xs) (hx : xs[i]? = some x) : ∃ a t, x = .ref a ∧ H a = some (.tup (tieV t)) ∧ okTie m t := by
  obtain ⟨as, ts, rfl, ta, _, ok⟩ := g
  rw [List.getElem?_map] at hx
  cases ea : as[i]? with
  | none => rw [ea] at hx; cases hx
  | some a =>
    rw [ea] at hx
    have hl : as.length = ts.length := Paired.length ta
    have hi := (List.getElem?_eq_some_iff.mp ea).1
    have et : ts[i]? = some (ts[i]'(by omega)) := List.getElem?_eq_getElem _
    exact ⟨a, _, (Option.some.inj hx).symm, paired_get (R := fun a t => H a = some (.tup (tieV t))) ta ea et, ok _ (List.mem_of_getElem? et)⟩
theorem put_past {f g : Str} {v x : V} {r : List (Str × V)} (h : ¬ g = f) : putF f v ((g, x) :: r) = (g, x) :: putF f v r := if_neg h
theorem paired_snoc {α β : Type} {R : α → β → Prop} : ∀ {as : List α} {bs : List β} {a : α} {b : β}, Paired R as bs → R a b → Paired R (as ++ [a]) (bs ++ [b])
  | _, _, _, _, .nil, h => .cons h .nil
  | _, _, _, _, .cons r t, h => .cons r (paired_snoc t h)
theorem SumOk.nil : SumOk [] [] := ⟨fun i j _ => rfl, Nat.le_refl _⟩
theorem putK_len_le {κ : Type} [DecidableEq κ] (kvs : List (κ × V)) (k : κ) (v : V) : (putK kvs k v).length ≤ kvs.length + 1 := by
  unfold putK
  split
  · rw [List.length_map]; omega
  · simp
theorem any_append (ts : List Tie) (t : Tie) (i j : Nat) : (ts ++ [t]).any (joins i j) = (ts.any (joins i j) || joins i j t) := by
  rw [List.any_append]; simp
theorem joins_self {i j : Nat} {t : Tie} (h1 : t.1 = i) (h2 : t.2.1 = j) : joins i j t = true := by simp [joins, h1, h2]
/-- one tie more -/
theorem SumOk.more {kvs : List (List Key × V)} {ts : List Tie} {t : Tie} (h : SumOk kvs ts) (ht : t.1 ≠ t.2.1) : SumOk (putK kvs (keyN (min t.1 t.2.1) (max t.1 t.2.1)) (.int (costOf ts (min t.1 t.2.1) (max t.1 t.2.1) + t.2.2))) (ts ++ [t]) := by
  refine ⟨fun i j hij => ?_, ?_⟩
  · rw [valV_put, costOf_append, any_append]
    by_cases e : i = min t.1 t.2.1 ∧ j = max t.1 t.2.1
    · obtain ⟨rfl, rfl⟩ := e
      have hj : joins (min t.1 t.2.1) (max t.1 t.2.1) t = true := by
        by_cases q : t.1 < t.2.1
        · exact joins_self (by omega) (by omega)
        · rw [joins_comm]; exact joins_self (by omega) (by omega)
      rw [if_pos rfl, hj, Bool.or_true, if_pos rfl, if_pos rfl]
    · have ne : ¬ keyN (min t.1 t.2.1) (max t.1 t.2.1) = keyN i j := by
        intro q
        unfold keyN at q
        simp only [List.cons.injEq, Sum.inl.injEq, and_true] at q
        exact e ⟨by omega, by omega⟩
      have ne' : ¬ keyN i j = keyN (min t.1 t.2.1) (max t.1 t.2.1) := fun q => ne q.symm
      have hj : joins i j t = false := by
        rw [Bool.eq_false_iff]
        intro q
        simp only [joins, Bool.or_eq_true, Bool.and_eq_true, decide_eq_true_eq] at q
        exact e (by omega)
      rw [hj, Bool.or_false, h.val i j hij]
      first | rw [if_neg ne] | rw [if_neg ne']
      simp
  · have := putK_len_le kvs (keyN (min t.1 t.2.1) (max t.1 t.2.1)) (.int (costOf ts (min t.1 t.2.1) (max t.1 t.2.1) + t.2.2))
    have := h.len
    rw [List.length_append, List.length_singleton]
    omega
end

section
theorem near_len (ts : List Tie) (i : Nat) : (nearOf ts i).length ≤ ts.length := by
  have key : ∀ (ts : List Tie) (acc : List Nat), (ts.foldl (fun l t => addNew l (over i t)) acc).length ≤ acc.length + ts.length := by
    intro ts
    induction ts with
    | nil => intro acc; simp
    | cons t r ih =>
      intro acc
      rw [List.foldl_cons]
      have h1 := ih (addNew acc (over i t))
      have h2 : ∀ o : Option Nat, (addNew acc o).length ≤ acc.length + 1 := fun o => by
        cases o with
        | none => exact Nat.le_succ _
        | some k =>
          show (if k ∈ acc then acc else acc ++ [k]).length ≤ _
          by_cases hk : k ∈ acc
          · rw [if_pos hk]; exact Nat.le_succ _
          · rw [if_neg hk, List.length_append]; exact Nat.le_refl _
      have h2 := h2 (over i t)
      rw [List.length_cons]
      omega
  have := key ts []
  rw [List.length_nil, Nat.zero_add] at this
  exact this
/-- the places of a tie, the smaller one first -/
theorem sortTie (i j : Nat) (h : i ≠ j) : ∃ lo hi : Nat, min (i : Int) (j : Int) = (lo : Int) ∧ max (i : Int) (j : Int) = (hi : Int) ∧ lo < hi ∧ min i j = lo ∧ max i j = hi ∧ ((lo = i ∧ hi = j) ∨ (lo = j ∧ hi = i)) := by
  by_cases q : i < j
  · exact ⟨i, j, by omega, by omega, q, by omega, by omega, .inl ⟨rfl, rfl⟩⟩
  · exact ⟨j, i, by omega, by omega, by omega, by omega, by omega, .inr ⟨rfl, rfl⟩⟩
theorem near_more {ts : List Tie} {t : Tie} {lo hi : Nat} (hlt : lo < hi) (hc : (lo = t.1 ∧ hi = t.2.1) ∨ (lo = t.2.1 ∧ hi = t.1)) (hall : ∀ t ∈ ts, t.1 ≠ t.2.1) :
    (fun j => (nearOf (ts ++ [t]) j).map vi) = if ts.any (joins lo hi) then (fun j => (nearOf ts j).map vi) else fun i => if i = hi then (if hi = lo then (nearOf ts lo).map vi ++ [vi hi] else (nearOf ts hi).map vi) ++ [vi lo] else if i = lo then (nearOf ts lo).map vi ++ [vi hi] else (nearOf ts i).map vi := by
  have o1 : over lo t = some hi := by
    unfold over
    rcases hc with ⟨h1, h2⟩ | ⟨h1, h2⟩
    · rw [if_pos h1.symm, h2]
    · rw [if_neg (by omega), if_pos h1.symm, h2]
  have o2 : over hi t = some lo := by
    unfold over
    rcases hc with ⟨h1, h2⟩ | ⟨h1, h2⟩
    · rw [if_neg (by omega), if_pos h2.symm, h1]
    · rw [if_pos h2.symm, h1]
  have o3 : ∀ i, i ≠ lo → i ≠ hi → over i t = none := fun i h1 h2 => by
    unfold over
    rw [if_neg (by omega), if_neg (by omega)]
  have m1 : hi ∈ nearOf ts lo ↔ ts.any (joins lo hi) = true := by
    rw [mem_nearOf ts lo hi hall, List.any_eq_true]
    constructor
    · rintro ⟨u, hu, h⟩; exact ⟨u, hu, (over_joins (by omega) (hall u hu)).mp h⟩
    · rintro ⟨u, hu, h⟩; exact ⟨u, hu, (over_joins (by omega) (hall u hu)).mpr h⟩
  have m2 : lo ∈ nearOf ts hi ↔ ts.any (joins lo hi) = true := by
    rw [mem_nearOf ts hi lo hall, List.any_eq_true, joins_comm]
    constructor
    · rintro ⟨u, hu, h⟩; exact ⟨u, hu, (over_joins (by omega) (hall u hu)).mp h⟩
    · rintro ⟨u, hu, h⟩; exact ⟨u, hu, (over_joins (by omega) (hall u hu)).mpr h⟩
  by_cases ha : ts.any (joins lo hi) = true
  · rw [if_pos ha]
    funext i
    rw [nearOf_append]
    by_cases e1 : i = lo
    · rw [e1, o1]; simp only [addNew, if_pos (m1.mpr ha)]
    · by_cases e2 : i = hi
      · rw [e2, o2]; simp only [addNew, if_pos (m2.mpr ha)]
      · rw [o3 i e1 e2]; rfl
  · rw [if_neg ha]
    funext i
    rw [nearOf_append]
    by_cases e2 : i = hi
    · rw [if_pos e2, if_neg (by omega), e2, o2]
      simp only [addNew, if_neg (fun q => ha (m2.mp q)), List.map_append, List.map_cons, List.map_nil]
    · rw [if_neg e2]
      by_cases e1 : i = lo
      · rw [if_pos e1, e1, o1]
        simp only [addNew, if_neg (fun q => ha (m1.mp q)), List.map_append, List.map_cons, List.map_nil]
      · rw [if_neg e1, o3 i e1 e2]; rfl
end

section
variable {K : PySem.W.Frag} {A : Ads}
theorem init_core (nc : NetC K A) {H0 H : Hp} {p dx l : Addr} {m : Nat} {xs : List V} {Q : VK} {E : XK} (e0 : Ex H0 H) (p0 : H0 p = none) (hp : H p = some (.ins A.C dx [])) (m1 : 1 ≤ m) (m2 : m ≤ 24) (hl : H0 l = some (.lst xs)) (hz : xs.length ≤ 1000) (hx : ∀ x ∈ xs, TieK K H0 x)
    (kg : ∀ as ts, xs = as.map V.ref → TiesAt H0 as ts → Net.Ok ⟨m, ts⟩ → ∀ H' s, Ex H0 H' → NetX A H' p ⟨m, ts⟩ s → s.as = as → H0 s.kl = none → H0 s.sd = none → H0 s.nl = none → (∀ a ∈ s.ns, H0 a = none) → Q .non H')
    (kb : ¬ GoodTies H0 m xs → ∀ H', Ex H0 H' → E (.ref A.eNoNet) none H') :
    t_init K A E { nx := fun _ H' => Q .non H', rt := Q } (start ["self", "many", "ties", "tie", "pair", "place"] [.ref p, vi m, .ref l]) H := by
  unfold t_init
  have hw : ∀ H, SpV (sp_is_whole K A) [vi m] H (.bl true) := fun H => spv_is_whole kd_int
  have hw0 := hw H
  refine q_skip (et_is (b := false) (et_or (et_not (et_B (ev_call (ea_cons (ev_var rfl) ea_nil) hw0))) fun _ => et_not (et_test (ev_chain (y := .int (m : Int)) ev_c (ev_var rfl) rv_le (fun _ => ev_c) (fun _ => rv_le)))) ?_) fun H1 e1 => ?_
  · simp; omega
  have hl1 := (e0.trans e1) _ _ hl
  by_cases hlen : xs.length ≤ 300
  case neg =>
    refine q_yes (et_is (b := true) (et_or (a := false) (et_not (a := true) (by walk_at "ev")) fun _ => by walk_at "ev") ?_) fun H2 e2 => kb ?_ H2 ((e0.trans e1).trans e2)
    · simp; omega
    · rintro ⟨as, ts, rfl, ta, h3, _⟩
      rw [List.length_map, Paired.length ta] at hlen
      exact hlen h3
  refine q_skip (et_is (b := false) (et_or (a := false) (et_not (a := true) (by walk_at "ev")) fun _ => by walk_at "ev") ?_) fun H2 e2 => ?_
  · simp; omega
  -- the attributes
  have s2 := (e0.trans e1).trans e2
  have hp2 := (e1.trans e2) _ _ hp
  refine q_fld (v := vi m) (by walk_at "ev") (by walk_at "ev") hp2 nc.cl nc.nM (by decide) fun H3 e3 => ?_
  have hp3 : (upd H3 p (.ins A.C dx (putF "many" (vi m) []))) p = some (.ins A.C dx [("many", vi m)]) := upd_same
  have s3 : Ex H0 (upd H3 p (.ins A.C dx (putF "many" (vi m) []))) := Ex.mut (s2.trans e3) p0
  generalize upd H3 p (.ins A.C dx (putF "many" (vi m) [])) = G3 at hp3 s3 ⊢
  refine q_fldL (xs := []) (el_lst ea_nil (by decide)) (by walk_at "ev") hp3 nc.cl nc.nK (by simp) fun kl H4 k4 e4 h4 => ?_
  rw [put_past (by decide +kernel)]
  have npk : kl ≠ p := (ne_of_none hp3 k4).symm
  have hp4 : (upd H4 p (.ins A.C dx (("many", vi m) :: putF "kept" (.ref kl) []))) p = some (.ins A.C dx [("many", vi m), ("kept", .ref kl)]) := upd_same
  have hk4 : (upd H4 p (.ins A.C dx (("many", vi m) :: putF "kept" (.ref kl) []))) kl = some (.lst []) := by rw [upd_ne npk]; exact h4
  have s4 : Ex H0 (upd H4 p (.ins A.C dx (("many", vi m) :: putF "kept" (.ref kl) []))) := Ex.mut (s3.trans e4) p0
  have k0 : H0 kl = none := fresh_back s3 k4
  generalize upd H4 p (.ins A.C dx (("many", vi m) :: putF "kept" (.ref kl) [])) = G4 at hp4 hk4 s4 ⊢
  refine q_fld0 ?_
  intro sd hsd
  have nps : sd ≠ p := (ne_of_none hp4 hsd).symm
  have nks : kl ≠ sd := ne_of_none hk4 hsd
  refine ⟨_, rfl, p, A.C, dx, _, rfl, (by rw [upd_ne nps.symm]; exact hp4), nc.cl, nc.nS, by simp, ?_⟩
  rw [put_past (by decide +kernel), put_past (by decide +kernel)]
  have d0 : H0 sd = none := fresh_back s4 hsd
  have hp5 : upd (upd G4 sd (.dT [])) p (.ins A.C dx (("many", vi m) :: ("kept", .ref kl) :: putF "summed" (.ref sd) [])) p = some (.ins A.C dx [("many", vi m), ("kept", .ref kl), ("summed", .ref sd)]) := upd_same
  have hk5 : upd (upd G4 sd (.dT [])) p (.ins A.C dx (("many", vi m) :: ("kept", .ref kl) :: putF "summed" (.ref sd) [])) kl = some (.lst []) := by rw [upd_ne npk, upd_ne nks]; exact hk4
  have hs5 : upd (upd G4 sd (.dT [])) p (.ins A.C dx (("many", vi m) :: ("kept", .ref kl) :: putF "summed" (.ref sd) [])) sd = some (.dT []) := by rw [upd_ne nps, upd_same]
  have s5 : Ex H0 (upd (upd G4 sd (.dT [])) p (.ins A.C dx (("many", vi m) :: ("kept", .ref kl) :: putF "summed" (.ref sd) []))) := Ex.mut (s4.trans (Ex.new hsd)) p0
  generalize upd (upd G4 sd (.dT [])) p (.ins A.C dx (("many", vi m) :: ("kept", .ref kl) :: putF "summed" (.ref sd) [])) = G5 at hp5 hk5 hs5 s5 ⊢
  refine q_fld0 (c_news (m := m) (ea_cons (ev_var rfl) ea_nil) (by omega) (fun _ => rfl) fun nl ns G6 hnl e6 h6 hns nd hD ha => ?_)
  have hp6 := e6 _ _ hp5
  refine ⟨_, rfl, p, A.C, dx, _, rfl, hp6, nc.cl, nc.nN, by simp, ?_⟩
  rw [put_past (by decide +kernel), put_past (by decide +kernel), put_past (by decide +kernel)]
  have n0 : H0 nl = none := fresh_back s5 hnl
  have npn : nl ≠ p := (ne_of_none hp5 hnl).symm
  have b0 : Build A (upd G6 p (.ins A.C dx (("many", vi m) :: ("kept", .ref kl) :: ("summed", .ref sd) :: putF "near" (.ref nl) []))) p m dx kl sd nl ns [] [] (fun _ => []) := by
    refine ⟨upd_same, by rw [upd_ne npk]; exact e6 _ _ hk5, by rw [upd_ne nps]; exact e6 _ _ hs5, by rw [upd_ne npn]; exact h6, hns, fun i a hi => ?_, ne_of_none hk5 hnl, fun q => ?_, hD, nd⟩
    · have hm := ha a (List.mem_of_getElem? hi)
      rw [upd_ne (fun z => by rw [z, hp5] at hm; cases hm.1)]
      exact hm.2
    · have := (ha kl q).1
      rw [hk5] at this; cases this
  have s6 : Ex H0 (upd G6 p (.ins A.C dx (("many", vi m) :: ("kept", .ref kl) :: ("summed", .ref sd) :: putF "near" (.ref nl) []))) := Ex.mut (s5.trans e6) p0
  have a0 : ∀ a ∈ ns, H0 a = none := fun a q => fresh_back s5 (ha a q).1
  generalize upd G6 p (.ins A.C dx (("many", vi m) :: ("kept", .ref kl) :: ("summed", .ref sd) :: putF "near" (.ref nl) [])) = G7 at b0 s6 ⊢
  -- the ties
  refine s_forL (a := l) (xs := xs) (by walk_at "ev") (sq_of (s6 _ _ hl)) (fun i σ G => ∃ (as : List Addr) (ts : List Tie) (kvs : List (List Key × V)) (w3 w4 : Option V), σ = [some (.ref p), some (vi m), some (.ref l), w3, w4, none] ∧ Ex H0 G ∧ xs.take i = as.map V.ref ∧ TiesAt H0 as ts ∧ (∀ t ∈ ts, okTie m t) ∧
      Build A G p m dx kl sd nl ns (xs.take i) kvs (fun j => (nearOf ts j).map vi) ∧ SumOk kvs ts) (fun G8 e8 => ⟨[], [], [], none, none, rfl, s6.trans e8, by simp, .nil, by simp, by rw [List.take_zero]; exact b0.ext e8, SumOk.nil⟩) (fun i σ G _ ⟨_, _, _, _, _, _, e, _⟩ => sq_of (e _ _ hl)) ?_ ?_
  · rintro i x σ G hxi ⟨as, ts, kvs, w3, w4, rfl, e, ha, ta, ok, b, so⟩
    have hi : i < xs.length := (List.getElem?_eq_some_iff.mp hxi).1
    show tSeq _ _ _ [some (.ref p), some (vi m), some (.ref l), some x, w4, none] G
    have kbx : (∀ a t, x = .ref a → H0 a = some (.tup (tieV t)) → ¬ okTie m t) → ∀ H', Ex H0 H' → E (.ref A.eNoNet) none H' := fun q => kb fun g => by
      obtain ⟨a, t, h1, h2, h3⟩ := g.at_ hxi
      exact q a t h1 h2 h3
    rcases hx x (List.mem_of_getElem? hxi) with ⟨ty, hv, hb⟩ | ⟨a, vs, rfl, hA, hn⟩ | ⟨a, v0, v1, v2, rfl, hA, hk0, hk1, hk2⟩
    · have hvG := hv.mono e
      refine q_yes (et_is (b := true) (et_or (a := true) (b := true) (et_not (a := false) (by walk_at "ev")) (fun q => nomatch q)) rfl) fun H2 e2 => kbx (fun a t h1 h2 _ => ?_) _ (e.trans e2)
      subst h1
      rw [vt_is_tup h2 hv] at hb
      exact absurd hb (by decide +kernel)
    · have hAG := e _ _ hA
      refine q_yes (et_is (b := true) (et_or (a := false) (et_not (a := true) (by walk_at "ev")) fun _ => et_or (a := true) (b := true) (et_is (by walk_at "ev") ?_) (fun q => nomatch q)) rfl) fun H2 e2 => kbx (fun a' t h1 h2 _ => ?_) _ (e.trans e2)
      · simp; omega
      · have := V.ref.inj h1
        subst this
        rw [hA] at h2
        injection h2 with h2
        injection h2 with h2
        exact hn (by rw [h2]; rfl)
    · have hAG := e _ _ hA
      have ob : ObjAt A G p (m : Int) kl sd nl := ⟨dx, b.ob⟩
      have hob := b.ob
      have g0 := spv_has (K := K) ob (hk0.mono e)
      have g1 := spv_has (K := K) ob (hk1.mono e)
      have kbt : (∀ t, [v0, v1, v2] = tieV t → ¬ okTie m t) → ∀ H', Ex H0 H' → E (.ref A.eNoNet) none H' := fun q => kbx fun a' t h1 h2 => by
        have := V.ref.inj h1
        subst this
        rw [hA] at h2
        injection h2 with h2
        injection h2 with h2
        exact q t h2
      by_cases hpl : (isPl (m : Int) v0 && isPl (m : Int) v1) = true
      case neg =>
        refine q_yes (et_is (b := true) (by walk_at "ev") ?_) fun H2 e2 => kbt (fun t h1 h2 => ?_) _ (e.trans e2)
        · revert hpl
          cases isPl (m : Int) v0 <;> cases isPl (m : Int) v1 <;> simp
        · unfold tieV at h1
          injection h1 with h3 h1
          injection h1 with h4 h1
          subst h3 h4
          exact hpl (by rw [isPl_vi h2.1, isPl_vi h2.2.1]; rfl)
      refine q_skip (et_is (b := false) (by walk_at "ev") ?_) fun G1 e1 => ?_
      · revert hpl
        cases isPl (m : Int) v0 <;> cases isPl (m : Int) v1 <;> simp
      rw [Bool.and_eq_true] at hpl
      obtain ⟨j0, rfl, hj0⟩ := isPl_nat hpl.1
      obtain ⟨j1, rfl, hj1⟩ := isPl_nat hpl.2
      have hA1 := e1 _ _ hAG
      have gw := spv_is_whole (A := A) ((hk2.mono e).mono e1)
      by_cases hI : isI v2 = true
      case neg =>
        refine q_yes (et_is (et_or (b := true) (et_test (ev_op (x := .int (j0 : Int)) (y := .int (j1 : Int)) (by walk_at "ev") (by walk_at "ev") rv_eqI)) fun _ => et_or (a := true) (b := true) (et_is (et_not (et_B (ev_call (ea_cons (ev_op (x := .ref a) (y := .int 2) (ev_var rfl) ev_c (rv_ixT (st_of hA1) rfl)) ea_nil) gw))) ?_) (fun q => nomatch q)) ?_) fun H2 e2 => kbt (fun t h1 h2 => ?_) _ ((e.trans e1).trans e2)
        · simpa using hI
        · simp
        · unfold tieV at h1
          injection h1 with _ h1
          injection h1 with _ h1
          injection h1 with h3 _
          rw [h3] at hI
          exact hI rfl
      obtain ⟨c, rfl⟩ : ∃ c, v2 = .int c := by
        cases v2 <;> first | exact ⟨_, rfl⟩ | cases hI
      by_cases hgood : j0 ≠ j1 ∧ 1 ≤ c ∧ c ≤ 1000000000
      case neg =>
        refine q_yes (et_is (b := true) (et_or (et_test (ev_op (x := .int (j0 : Int)) (y := .int (j1 : Int)) (by walk_at "ev") (by walk_at "ev") rv_eqI)) fun _ => et_or (et_not (et_B (ev_call (ea_cons (ev_op (x := .ref a) (y := .int 2) (ev_var rfl) ev_c (rv_ixT (st_of hA1) rfl)) ea_nil) gw))) fun _ => et_not (et_test (by walk_at "ev"))) ?_) fun H2 e2 => kbt (fun t h1 h2 => ?_) _ ((e.trans e1).trans e2)
        · simp [isI]; omega
        · unfold tieV at h1
          injection h1 with h3 h1
          injection h1 with h4 h1
          injection h1 with h5 _
          have h3 := vi_inj h3
          have h4 := vi_inj h4
          have h5 := V.int.inj h5
          obtain ⟨_, _, q1, q2, q3⟩ := h2
          omega
      refine q_skip (et_is (b := false) (et_or (et_test (ev_op (x := .int (j0 : Int)) (y := .int (j1 : Int)) (by walk_at "ev") (by walk_at "ev") rv_eqI)) fun _ => et_or (et_not (et_B (ev_call (ea_cons (ev_op (x := .ref a) (y := .int 2) (ev_var rfl) ev_c (rv_ixT (st_of hA1) rfl)) ea_nil) gw))) fun _ => et_not (et_test (by walk_at "ev"))) ?_) fun G2 e2 => ?_
      · simp [isI]; omega
      have e2' := (e.trans e1).trans e2
      have hA2 := e2' _ _ hA
      have b2 := b.ext (e1.trans e2)
      obtain ⟨lo, hi', hlo, hhi, hlt, hmin, hmax, hcase⟩ := sortTie j0 j1 hgood.1
      refine q_asgU (xs := [.int (lo : Int), .int (hi' : Int)]) (eu_tup (ea_cons (ev_cb (ea_cons (ev_op (x := .ref a) (y := .int 0) (ev_var rfl) ev_c (rv_ixT (st_of hA2) rfl)) (ea_cons (ev_op (x := .ref a) (y := .int 1) (ev_var rfl) ev_c (rv_ixT (st_of hA2) rfl)) ea_nil)) (by rw [← hlo]; exact rc_min2))
        (ea_cons (ev_cb (ea_cons (ev_op (x := .ref a) (y := .int 0) (ev_var rfl) ev_c (rv_ixT (st_of hA2) rfl)) (ea_cons (ev_op (x := .ref a) (y := .int 1) (ev_var rfl) ev_c (rv_ixT (st_of hA2) rfl)) ea_nil)) (by rw [← hhi]; exact rc_max2)) ea_nil)) (by simp)) fun q G3 hq e3 h3 => ?_
      show tSeq _ _ _ [some (.ref p), some (vi m), some (.ref l), some (.ref a), some (.ref q), none] G3
      have b3 := b2.ext e3
      have hob3 := b3.ob
      refine q_app (l := kl) (xs := xs.take i) b3.hk (by walk_at "ev") (v := .ref a) (by walk_at "ev") (by rw [List.length_take]; omega) fun G4 e4 => ?_
      have hq4 := e4 _ _ h3
      have nqk : q ≠ kl := ne_of hq4 (b3.ext e4).hk (by intro z; cases z)
      have b5 := (b3.ext e4).kept (xs.take i ++ [.ref a])
      have hq5 : (upd G4 kl (.lst (xs.take i ++ [.ref a]))) q = some (.tup [.int (lo : Int), .int (hi' : Int)]) := by rw [upd_ne nqk]; exact hq4
      have e5 : Ex H0 (upd G4 kl (.lst (xs.take i ++ [.ref a]))) := Ex.mut ((e2'.trans e3).trans e4) k0
      generalize upd G4 kl (.lst (xs.take i ++ [.ref a])) = G5 at b5 hq5 e5 ⊢
      have hall : ∀ t ∈ ts, t.1 ≠ t.2.1 := fun t ht => (ok t ht).2.2.1
      have htie : (lo = ((j0, j1, c) : Tie).1 ∧ hi' = ((j0, j1, c) : Tie).2.1) ∨ (lo = ((j0, j1, c) : Tie).2.1 ∧ hi' = ((j0, j1, c) : Tie).1) := hcase
      have hkl := so.len
      have hal : ts.length ≤ 300 := by
        have := Paired.length ta
        have h1 : (xs.take i).length = as.length := by rw [ha, List.length_map]
        rw [List.length_take] at h1
        omega
      -- the last store, from either way
      have rest : ∀ (D : Ends) G, Build A G p m dx kl sd nl ns (xs.take i ++ [.ref a]) kvs (fun j => (nearOf (ts ++ [((j0, j1, c) : Tie)]) j).map vi) → G q = some (.tup [.int (lo : Int), .int (hi' : Int)]) → Ex H0 G →
          (∀ G6, Ex H0 G6 → Build A G6 p m dx kl sd nl ns (xs.take i ++ [.ref a]) (putK kvs (keyN lo hi') (.int (costOf ts lo hi' + c))) (fun j => (nearOf (ts ++ [((j0, j1, c) : Tie)]) j).map vi) → D.nx [some (.ref p), some (vi m), some (.ref l), some (.ref a), some (.ref q), none] G6) →
          sDPut (tFld K (tVar 0) "summed") (tVar 4) (tOp rPlus (tMeth A.C "cost" (sp_cost K A) [] E0 (tVar 0) (tCons (tOp (rIxT K) (tVar 4) (tC (.int 0))) (tCons (tOp (rIxT K) (tVar 4) (tC (.int 1))) tNil))) (tOp (rIxT K) (tVar 3) (tC (.int 2)))) D [some (.ref p), some (vi m), some (.ref l), some (.ref a), some (.ref q), none] G := by
        intro D G bG hqG eG fin
        have hob := bG.ob
        have hsd := bG.hs
        have hAG := eG _ _ hA
        have ob : ObjAt A G p (m : Int) kl sd nl := ⟨dx, bG.ob⟩
        have hc := spv_cost (K := K) (i := (lo : Int)) (j := (hi' : Int)) ob bG.hs
        rw [so.get (by omega)] at hc
        refine s_dputT (d := sd) (q := q) (kvs := kvs) (k := keyN lo hi') (v := .int (costOf ts lo hi' + c)) ?_ (by walk_at "ev") (ev_var rfl) hsd hqG (by omega) fun G6 e6 => ?_
        · refine ev_op (x := .int (costOf ts lo hi')) (y := .int c) (ev_meth (p := p) (vs := [.int (lo : Int), .int (hi' : Int)]) (ev_var rfl) hob (by walk_at "lk") ?_ hc) (ev_op (x := .ref a) (y := .int 2) (ev_var rfl) ev_c (rv_ixT (st_of hAG) rfl)) rv_plus
          exact ea_cons (ev_op (x := .ref q) (y := .int 0) (ev_var rfl) ev_c (rv_ixT (st_of hqG) rfl)) (ea_cons (ev_op (x := .ref q) (y := .int 1) (ev_var rfl) ev_c (rv_ixT (st_of hqG) rfl)) ea_nil)
        · exact fin _ (Ex.mut (eG.trans e6) d0) ((bG.ext e6).summed _)
      have fin : ∀ G6, Ex H0 G6 → Build A G6 p m dx kl sd nl ns (xs.take i ++ [.ref a]) (putK kvs (keyN lo hi') (.int (costOf ts lo hi' + c))) (fun j => (nearOf (ts ++ [((j0, j1, c) : Tie)]) j).map vi) →
          ∃ (as : List Addr) (ts : List Tie) (kvs : List (List Key × V)) (w3 w4 : Option V), [some (.ref p), some (vi m), some (.ref l), some (.ref a), some (.ref q), none] = [some (.ref p), some (vi m), some (.ref l), w3, w4, none] ∧ Ex H0 G6 ∧ xs.take (i + 1) = as.map V.ref ∧ TiesAt H0 as ts ∧ (∀ t ∈ ts, okTie m t) ∧ Build A G6 p m dx kl sd nl ns (xs.take (i + 1)) kvs (fun j => (nearOf ts j).map vi) ∧ SumOk kvs ts := by
        intro G6 e6 b6
        refine ⟨as ++ [a], ts ++ [(j0, j1, c)], _, _, _, rfl, e6, by rw [take_succ_of hxi, ha]; simp, paired_snoc ta hA, fun t ht => ?_, by rw [take_succ_of hxi]; exact b6, ?_⟩
        · rcases List.mem_append.mp ht with h | h
          · exact ok t h
          · rw [List.mem_singleton] at h
            rw [h]
            exact ⟨hj0, hj1, hgood.1, hgood.2.1, hgood.2.2⟩
        · have := so.more (t := (j0, j1, c)) hgood.1
          rw [hmin, hmax] at this
          exact this
      have hob5 := b5.ob
      have hs5' := b5.hs
      have hv := so.val lo hi' hlt
      have etest : EvT (tB (tDNotIn (tVar 4) (tFld K (tVar 0) "summed"))) [some (.ref p), some (vi m), some (.ref l), some (.ref a), some (.ref q), none] G5 (!ts.any (joins lo hi')) := by
        refine et_B (ev_is (ev_notInT (d := sd) (a := q) (kvs := kvs) (k := keyN lo hi') (by walk_at "ev") (rd_of hs5') (ev_var rfl) hq5) ?_)
        rw [hv]
        cases ts.any (joins lo hi') <;> rfl
      refine q_if etest (fun hb G6 e6 => ?_) (fun hb G6 e6 => ?_)
      · have hany : ts.any (joins lo hi') = false := by simpa using hb
        have b6 := b5.ext e6
        have hq6 := e6 _ _ hq5
        obtain ⟨c0, hc0⟩ : ∃ c0, ns[lo]? = some c0 := ⟨ns[lo]'(by have := b6.len; omega), List.getElem?_eq_getElem _⟩
        obtain ⟨c1, hc1⟩ : ∃ c1, ns[hi']? = some c1 := ⟨ns[hi']'(by have := b6.len; omega), List.getElem?_eq_getElem _⟩
        have nl0 := b6.at_ lo c0 hc0
        have hob6 := b6.ob
        have hn6 := b6.hn
        have at0 : atI (ns.map V.ref) (lo : Int) = some (.ref c0) := atI_nat (by rw [List.getElem?_map, hc0]; rfl)
        have at1 : atI (ns.map V.ref) (hi' : Int) = some (.ref c1) := atI_nat (by rw [List.getElem?_map, hc1]; rfl)
        have hlen0 : ∀ j, (nearOf ts j).length ≤ ts.length := fun j => near_len ts j
        refine q_app (l := c0) (xs := (nearOf ts lo).map vi) nl0 (ev_op (x := .ref nl) (y := .int (lo : Int)) (by walk_at "ev") (ev_op (x := .ref q) (y := .int 0) (ev_var rfl) ev_c (rv_ixT (st_of hq6) rfl)) (rv_ixL (sq_of hn6) at0)) (v := vi hi') (ev_op (x := .ref q) (y := .int 1) (ev_var rfl) ev_c (rv_ixT (st_of hq6) rfl)) (by rw [List.length_map]; have := hlen0 lo; omega) fun G7 e7 => ?_
        have b7 := (b6.ext e7).near hc0 ((nearOf ts lo).map vi ++ [vi hi'])
        have hq7 : (upd G7 c0 (.lst ((nearOf ts lo).map vi ++ [vi hi']))) q = some (.tup [.int (lo : Int), .int (hi' : Int)]) := by
          rw [upd_ne (ne_of (e7 _ _ hq6) (e7 _ _ nl0) (by intro z; cases z))]
          exact e7 _ _ hq6
        have e7' : Ex H0 (upd G7 c0 (.lst ((nearOf ts lo).map vi ++ [vi hi']))) := Ex.mut ((e5.trans e6).trans e7) (a0 c0 (List.mem_of_getElem? hc0))
        generalize upd G7 c0 (.lst ((nearOf ts lo).map vi ++ [vi hi'])) = G8 at b7 hq7 e7' ⊢
        have nl1 := b7.at_ hi' c1 hc1
        have hob7 := b7.ob
        have hn7 := b7.hn
        rw [if_neg (by omega)] at nl1
        refine s_app (l := c1) (xs := (nearOf ts hi').map vi) nl1 (ev_op (x := .ref nl) (y := .int (hi' : Int)) (by walk_at "ev") (ev_op (x := .ref q) (y := .int 1) (ev_var rfl) ev_c (rv_ixT (st_of hq7) rfl)) (rv_ixL (sq_of hn7) at1)) (v := vi lo) (ev_op (x := .ref q) (y := .int 0) (ev_var rfl) ev_c (rv_ixT (st_of hq7) rfl)) (by rw [List.length_map]; have := hlen0 hi'; omega) fun G9 e9 => ?_
        have b9 := (b7.ext e9).near hc1 ((nearOf ts hi').map vi ++ [vi lo])
        have hq9 : (upd G9 c1 (.lst ((nearOf ts hi').map vi ++ [vi lo]))) q = some (.tup [.int (lo : Int), .int (hi' : Int)]) := by
          rw [upd_ne (ne_of (e9 _ _ hq7) (e9 _ _ nl1) (by intro z; cases z))]
          exact e9 _ _ hq7
        have e9' : Ex H0 (upd G9 c1 (.lst ((nearOf ts hi').map vi ++ [vi lo]))) := Ex.mut (e7'.trans e9) (a0 c1 (List.mem_of_getElem? hc1))
        refine rest _ _ ?_ hq9 e9' fin
        have hnm := near_more hlt htie hall
        rw [if_neg (by rw [hany]; exact Bool.false_ne_true)] at hnm
        rw [hnm, if_neg (by omega)]
        exact b9
      · have hany : ts.any (joins lo hi') = true := by simpa using hb
        refine rest _ _ ?_ (e6 _ _ hq5) (e5.trans e6) fin
        have hnm := near_more hlt htie hall
        rw [if_pos hany] at hnm
        rw [hnm]
        exact b5.ext e6
  · rintro σ G ⟨as, ts, kvs, w3, w4, rfl, e, ha, ta, ok, b, so⟩
    rw [List.take_length] at ha b
    have hle : ts.length = xs.length := by rw [ha, List.length_map]; exact (Paired.length ta).symm
    exact kg as ts ha ta ⟨m1, m2, by show ts.length ≤ 300; omega, ok⟩ G ⟨dx, kl, sd, nl, as, ns, kvs⟩ e ⟨⟨m1, m2, by show ts.length ≤ 300; omega, ok⟩, b.ob, by rw [← ha]; exact b.hk, ta.mono e, b.hs, so, b.hn, b.len, b.at_⟩ rfl k0 d0 n0 a0
end

section
variable {K : PySem.W.Frag} {A : Ads}
theorem map_ref_inj : ∀ {as bs : List Addr}, as.map V.ref = bs.map V.ref → as = bs
  | [], [], _ => rfl
  | [], _ :: _, h => by simp at h
  | _ :: _, [], h => by simp at h
  | a :: r, b :: s, h => by
    simp only [List.map_cons, List.cons.injEq, V.ref.injEq] at h
    rw [h.1, map_ref_inj h.2]
theorem tieV_inj {t u : Tie} (h : tieV t = tieV u) : t = u := by
  unfold tieV at h
  injection h with h1 h
  injection h with h2 h
  injection h with h3 _
  obtain ⟨a, b, c⟩ := t
  obtain ⟨a', b', c'⟩ := u
  have h1 := vi_inj h1
  have h2 := vi_inj h2
  have h3 := V.int.inj h3
  simp only at h1 h2 h3
  rw [h1, h2, h3]
theorem TiesAt.inj {H : Hp} : ∀ {as : List Addr} {ts us : List Tie}, TiesAt H as ts → TiesAt H as us → ts = us
  | _, _, _, .nil, .nil => rfl
  | _, _, _, .cons h t, .cons h' t' => by
    rw [h] at h'
    injection h' with h'
    injection h' with h'
    rw [tieV_inj h', TiesAt.inj t t']
theorem TiesAt.kinds {H : Hp} : ∀ {as : List Addr} {ts : List Tie}, TiesAt H as ts → ∀ x ∈ as.map V.ref, TieK K H x
  | _, _, .nil, x, h => by simp at h
  | _, _, .cons h t, x, hx => by
    simp only [List.map_cons, List.mem_cons] at hx
    rcases hx with rfl | hx
    · exact .inr (.inr ⟨_, _, _, _, rfl, h, kd_int, kd_int, kd_int⟩)
    · exact TiesAt.kinds t x hx
theorem pure_init (nc : NetC K A) (vs : List V) (H : Hp) (Q : VK) (E : XK) (h : sp_init K A vs H Q E) : t_init K A E { nx := fun _ H' => Q .non H', rt := Q } (start ["self", "many", "ties", "tie", "pair", "place"] vs) H := by
  obtain ⟨H0, p, dx, mv, tv, rfl, e0, p0, hp, hk, h⟩ := h
  rcases h with ⟨m, l, as, ts, rfl, rfl, hl, ta, ok, k⟩ | ⟨h, k⟩
  · refine init_core nc e0 p0 hp ok.lo ok.hi hl ?_ ta.kinds ?_ (fun g => absurd ⟨as, ts, rfl, ta, ok.few, ok.all⟩ g)
    · rw [List.length_map, Paired.length ta]
      have := ok.few
      have : ts.length ≤ 300 := this
      omega
    · intro as' ts' ea ta' ok' H' s e N hs
      have ea := map_ref_inj ea
      subst ea
      have et := ta.inj ta'
      subst et
      exact k H' s e N hs
  · rcases h with hm | ⟨m, rfl, m1, m2, h⟩
    · unfold t_init
      have hkH := hk.mono e0
      have gw := spv_is_whole (A := A) hkH
      by_cases hI : isI mv = true
      · obtain ⟨i, rfl⟩ : ∃ i, mv = .int i := by
          cases mv <;> first | exact ⟨_, rfl⟩ | cases hI
        refine q_yes (et_is (b := true) (et_or (et_not (et_B (ev_call (ea_cons (ev_var rfl) ea_nil) gw))) fun _ => et_not (et_test (ev_chain (y := .int i) ev_c (ev_var rfl) rv_le (fun _ => ev_c) (fun _ => rv_le)))) ?_) fun H1 e1 => k _ (e0.trans e1)
        have : ¬ (1 ≤ i ∧ i ≤ 24) := fun q => hm ⟨i.toNat, by unfold vi; congr 1; omega, by omega, by omega⟩
        simp [isI]; omega
      · refine q_yes (et_is (b := true) (et_or (a := true) (b := true) (et_is (et_not (et_B (ev_call (ea_cons (ev_var rfl) ea_nil) gw))) ?_) (fun q => nomatch q)) rfl) fun H1 e1 => k _ (e0.trans e1)
        simpa using hI
    · rcases h with ⟨ty, hv, hb⟩ | ⟨l, xs, rfl, hl, hz, hx, hg⟩
      · unfold t_init
        have hw : ∀ H, SpV (sp_is_whole K A) [vi m] H (.bl true) := fun H => spv_is_whole kd_int
        have hw0 := hw H
        refine q_skip (et_is (b := false) (et_or (et_not (et_B (ev_call (ea_cons (ev_var rfl) ea_nil) hw0))) fun _ => et_not (et_test (ev_chain (y := .int (m : Int)) ev_c (ev_var rfl) rv_le (fun _ => ev_c) (fun _ => rv_le)))) ?_) fun H1 e1 => ?_
        · simp; omega
        have hv1 := (hv.mono e0).mono e1
        exact q_yes (et_is (b := true) (et_or (a := true) (b := true) (et_not (a := false) (by walk_at "ev")) (fun q => nomatch q)) rfl) fun H2 e2 => k _ ((e0.trans e1).trans e2)
      · exact init_core nc e0 p0 hp m1 m2 hl hz hx (fun as ts ea ta ok => absurd ⟨as, ts, ea, ta, ok.few, ok.all⟩ hg) (fun _ H' e' => k H' e')
end
abbrev spLaw (K : PySem.W.Frag) : Sp := fun vs H Q _ => ∃ (a : Addr) (ns : List Int), vs = [.ref a] ∧ SqL K H a (ns.map V.int) ∧ ns.length ≤ 63 ∧ ∀ H', Q (.bl true) H'

/-! ### facts about nets as data -/
theorem nearOf_nodup (ts : List Tie) (i : Nat) : (nearOf ts i).Nodup := by
  have key : ∀ (ts : List Tie) (acc : List Nat), acc.Nodup → (ts.foldl (fun l t => addNew l (over i t)) acc).Nodup := by
    intro ts
    induction ts with
    | nil => intro acc h; exact h
    | cons t r ih =>
      intro acc h
      rw [List.foldl_cons]
      refine ih _ ?_
      show (addNew acc (over i t)).Nodup
      cases over i t with
      | none => exact h
      | some k =>
        show (if k ∈ acc then acc else acc ++ [k]).Nodup
        by_cases hk : k ∈ acc
        · rw [if_pos hk]; exact h
        · rw [if_neg hk, List.nodup_append]
          exact ⟨h, by simp, fun a ha b hb q => hk (by rw [List.mem_singleton] at hb; rw [← hb, ← q]; exact ha)⟩
  exact key ts [] List.nodup_nil
theorem sum_pos_of : ∀ {l : List Int}, (∀ x ∈ l, 0 < x) → 0 ≤ l.sum ∧ (l ≠ [] → 0 < l.sum)
  | [], _ => ⟨Int.le_refl _, fun h => absurd rfl h⟩
  | x :: r, h => by
    have h1 := h x (by simp)
    have h2 := (sum_pos_of (l := r) fun y hy => h y (by simp [hy])).1
    rw [List.sum_cons]
    exact ⟨by omega, fun _ => by omega⟩
theorem costOf_nonneg {m : Nat} {ts : List Tie} (ok : ∀ t ∈ ts, okTie m t) (i j : Nat) : 0 ≤ costOf ts i j := by
  unfold costOf
  refine (sum_pos_of fun x hx => ?_).1
  obtain ⟨t, ht, rfl⟩ := List.mem_map.mp hx
  have := (ok t (List.mem_filter.mp ht).1).2.2.2.1
  omega
theorem costOf_pos {m : Nat} {ts : List Tie} (ok : ∀ t ∈ ts, okTie m t) (i j : Nat) : 0 < costOf ts i j ↔ ∃ t ∈ ts, joins i j t = true := by
  have hp : ∀ x ∈ (ts.filter (joins i j)).map (·.2.2), 0 < x := fun x hx => by
    obtain ⟨t, ht, rfl⟩ := List.mem_map.mp hx
    have := (ok t (List.mem_filter.mp ht).1).2.2.2.1
    omega
  constructor
  · intro h
    have hne : ts.filter (joins i j) ≠ [] := by
      intro q
      unfold costOf at h
      rw [q] at h
      exact absurd h (by simp)
    obtain ⟨t, ht⟩ := List.exists_mem_of_ne_nil _ hne
    exact ⟨t, List.mem_filter.mp ht⟩
  · rintro ⟨t, ht, hj⟩
    refine (sum_pos_of hp).2 fun q => ?_
    have : t.2.2 ∈ (ts.filter (joins i j)).map (·.2.2) := List.mem_map.mpr ⟨t, List.mem_filter.mpr ⟨ht, hj⟩, rfl⟩
    rw [q] at this
    exact nomatch this
theorem mem_near_cost {m : Nat} {ts : List Tie} (ok : ∀ t ∈ ts, okTie m t) {i j : Nat} (hij : i ≠ j) : j ∈ nearOf ts i ↔ 0 < costOf ts i j := by
  rw [costOf_pos ok, mem_nearOf ts i j fun t ht => (ok t ht).2.2.1]
  constructor
  · rintro ⟨t, ht, h⟩; exact ⟨t, ht, (over_joins hij (ok t ht).2.2.1).mp h⟩
  · rintro ⟨t, ht, h⟩; exact ⟨t, ht, (over_joins hij (ok t ht).2.2.1).mpr h⟩
theorem near_lt {m : Nat} {ts : List Tie} (ok : ∀ t ∈ ts, okTie m t) {i j : Nat} (h : j ∈ nearOf ts i) : j < m ∧ j ≠ i := by
  obtain ⟨t, ht, h⟩ := (mem_nearOf ts i j fun t ht => (ok t ht).2.2.1).mp h
  obtain ⟨h1, h2, h3, _⟩ := ok t ht
  unfold over at h
  by_cases q1 : t.1 = i
  · rw [if_pos q1] at h
    have := Option.some.inj h
    omega
  · rw [if_neg q1] at h
    by_cases q2 : t.2.1 = i
    · rw [if_pos q2] at h
      have := Option.some.inj h
      omega
    · rw [if_neg q2] at h; cases h
/-- the places beside, told by prices -/
def dueOf (n : Nat) (ts : List Tie) (i : Nat) : List Int := List.map (fun j : Nat => (j : Int)) ((List.range n).filter fun j => decide (j ≠ i) && decide (0 < costOf ts i j))
theorem besideOf_eq {n : Nat} {ts : List Tie} (ok : ∀ t ∈ ts, okTie n t) (i : Nat) : besideOf ts i = dueOf n ts i := by
  refine (srt_one ?_ ?_).symm
  · refine List.Perm.map _ ((List.perm_ext_iff_of_nodup ?_ (nearOf_nodup ts i)).mpr fun j => ?_)
    · exact List.Pairwise.filter _ List.nodup_range
    · rw [List.mem_filter, List.mem_range, Bool.and_eq_true, decide_eq_true_eq, decide_eq_true_eq]
      constructor
      · rintro ⟨_, h1, h2⟩
        exact (mem_near_cost ok (Ne.symm h1)).mpr h2
      · intro h
        have := near_lt ok h
        exact ⟨this.1, this.2, (mem_near_cost ok (Ne.symm this.2)).mp h⟩
  · exact List.Pairwise.map (R := (· < ·)) _ (fun a b h => by omega) (List.Pairwise.filter _ List.pairwise_lt_range)

/-! ### the law's own small defs: promises -/
def cellAt (ns : List Int) (k : Nat) : Int := ns.getD k 0
def sp_l_cell_at (K : PySem.W.Frag) (_ : Ads) : Sp := fun vs H Q _ => ∃ (a : Addr) (ns : List Int) (k : Nat), vs = [.ref a, vi k] ∧ SqL K H a (ns.map V.int) ∧ ∀ H', Ex H H' → Q (.int (cellAt ns k)) H'
def sp_l_whole (K : PySem.W.Frag) (_ : Ads) : Sp := fun vs H Q _ => ∃ v, vs = [v] ∧ Kd K H v ∧ ∀ H', Ex H H' → Q (.bl (isI v)) H'
/-- so many places: which is left open -/
def spMany (lo : Nat) (K : PySem.W.Frag) (_ : Ads) : Sp := fun vs H Q _ => ∃ (a : Addr) (ns : List Int), vs = [.ref a] ∧ SqL K H a (ns.map V.int) ∧ ∀ m : Nat, lo ≤ m → m ≤ 24 → ∀ H', Ex H H' → Q (vi m) H'
def sp_l_tie (_ : PySem.W.Frag) (_ : Ads) : Sp := fun vs H Q _ => ∃ (c : Int) (m : Nat) (top : Int), vs = [.int c, vi m, .int top] ∧ 2 ≤ m ∧ m ≤ 24 ∧ 1 ≤ top ∧ top ≤ 1000000000 ∧
  ∀ t : Tie, okTie m t → ∀ q H', H q = none → Ex H H' → H' q = some (.tup (tieV t)) → Q (.ref q) H'
/-- a new list of good ties -/
def spTies (K : PySem.W.Frag) (_ : Ads) : Sp := fun vs H Q _ => ∃ (a : Addr) (ns : List Int) (m : Nat), vs = [.ref a, vi m] ∧ SqL K H a (ns.map V.int) ∧ ns.length ≤ 63 ∧ 1 ≤ m ∧ m ≤ 24 ∧
  ∀ l as ts H', H l = none → Ex H H' → H' l = some (.lst (as.map V.ref)) → TiesAt H' as ts → (∀ t ∈ ts, okTie m t) → ts.length ≤ 300 → Q (.ref l) H'
def sp_l_due (_ : PySem.W.Frag) (_ : Ads) : Sp := fun vs H Q _ => ∃ (l : Addr) (as : List Addr) (ts : List Tie) (i j : Nat), vs = [.ref l, vi i, vi j] ∧ H l = some (.lst (as.map V.ref)) ∧ TiesAt H as ts ∧ i ≠ j ∧
  ∀ H', Ex H H' → Q (.int (costOf ts i j)) H'
section
variable (K : PySem.W.Frag) (A : Ads)
theorem len_l_cell_at : ∀ vs H Q E, sp_l_cell_at K A vs H Q E → vs.length = (["_law_script", "_law_k"] : List Str).length := by
  rintro _ _ _ _ ⟨_, _, _, rfl, _⟩; rfl
theorem len_l_whole : ∀ vs H Q E, sp_l_whole K A vs H Q E → vs.length = (["_law_found"] : List Str).length := by
  rintro _ _ _ _ ⟨_, rfl, _⟩; rfl
theorem len_l_tie : ∀ vs H Q E, sp_l_tie K A vs H Q E → vs.length = (["_law_cell", "_law_many_here", "_law_top"] : List Str).length := by
  rintro _ _ _ _ ⟨_, _, _, rfl, _⟩; rfl
theorem len_l_due : ∀ vs H Q E, sp_l_due K A vs H Q E → vs.length = (["_law_ties_here", "_law_one", "_law_other"] : List Str).length := by
  rintro _ _ _ _ ⟨_, _, _, _, _, rfl, _⟩; rfl
end
section
variable {K : PySem.W.Frag} {A : Ads} {H : Hp}
theorem spv_l_cell_at {a : Addr} {ns : List Int} {k : Nat} (h : SqL K H a (ns.map V.int)) : SpV (sp_l_cell_at K A) [.ref a, vi k] H (.int (cellAt ns k)) := fun _ e _ q _ => ⟨a, ns, k, rfl, ex_l e h, fun H2 e2 => q H2 e2⟩
theorem spv_l_whole {v : V} (h : Kd K H v) : SpV (sp_l_whole K A) [v] H (.bl (isI v)) := fun _ e _ q _ => ⟨v, rfl, h.mono e, fun H2 e2 => q H2 e2⟩
theorem spv_l_due {l : Addr} {as : List Addr} {ts : List Tie} {i j : Nat} (h : H l = some (.lst (as.map V.ref))) (t : TiesAt H as ts) (hij : i ≠ j) : SpV (sp_l_due K A) [.ref l, vi i, vi j] H (.int (costOf ts i j)) := fun _ e _ q _ =>
  ⟨l, as, ts, i, j, rfl, e _ _ h, t.mono e, hij, fun H2 e2 => q H2 e2⟩
end

def t_l_cell_at (K : PySem.W.Frag) (A : Ads) : TS :=
  (tSeq (tIfS (tTest (tOp rLt (tVar 1) (tCB (rLenS K) (tCons (tVar 0) tNil)))) (tRet (tOp (rIxL K) (tVar 0) (tVar 1))) tNext)
    (tRet (tC (.int 0))))

def t_l_whole (K : PySem.W.Frag) (A : Ads) : TS :=
  (tRet (tAndV (tCB (rIsi K) (tCons (tVar 0) (tCons (tC (.ty "int")) tNil))) (tNotV (tCB (rIsi K) (tCons (tVar 0) (tCons (tC (.ty "bool")) tNil))))))

def t_l_tie (K : PySem.W.Frag) (A : Ads) : TS :=
  (tSeq (tAsg (tOp rMod (tVar 0) (tVar 1)) (gName 3))
    (tSeq (tAsg (tOp rMod (tOp rPlus (tOp rPlus (tVar 3) (tC (.int 1))) (tOp rMod (tOp rFdiv (tVar 0) (tVar 1)) (tOp rMinus (tVar 1) (tC (.int 1))))) (tVar 1)) (gName 4))
    (tRet (tTup (tCons (tVar 3) (tCons (tVar 4) (tCons (tOp rPlus (tC (.int 1)) (tOp rMod (tOp rFdiv (tVar 0) (tOp rTimes (tVar 1) (tOp rMinus (tVar 1) (tC (.int 1))))) (tVar 2))) tNil)))))))

def t_l_due (K : PySem.W.Frag) (A : Ads) : TS :=
  (tSeq (tAsg (tC (.int 0)) (gName 3))
    (tSeq (tFor (iList K (tVar 0)) (gName 4) (tIfS (tOr (tAnd (tTest (tOp rEq (tOp (rIxT K) (tVar 4) (tC (.int 0))) (tVar 1))) (tTest (tOp rEq (tOp (rIxT K) (tVar 4) (tC (.int 1))) (tVar 2)))) (tAnd (tTest (tOp rEq (tOp (rIxT K) (tVar 4) (tC (.int 0))) (tVar 2))) (tTest (tOp rEq (tOp (rIxT K) (tVar 4) (tC (.int 1))) (tVar 1))))) (tAsg (tOp rPlus (tVar 3) (tOp (rIxT K) (tVar 4) (tC (.int 2)))) (gName 3)) tNext))
    (tRet (tVar 3))))

section
variable {K : PySem.W.Frag} {A : Ads}
theorem atI_ints {ns : List Int} {k : Nat} (h : k < ns.length) : atI (ns.map V.int) (k : Int) = some (.int (cellAt ns k)) := by
  refine atI_nat ?_
  rw [List.getElem?_map, List.getElem?_eq_getElem h]
  unfold cellAt
  rw [List.getD, List.getElem?_eq_getElem h]
  rfl
theorem pure_l_cell_at (vs : List V) (H : Hp) (Q : VK) (E : XK) (h : sp_l_cell_at K A vs H Q E) : t_l_cell_at K A { nx := fun _ H' => Q .non H', rt := Q } (start ["_law_script", "_law_k"] vs) H := by
  obtain ⟨a, ns, k, rfl, hs, q⟩ := h
  unfold t_l_cell_at
  have hlen : (ns.map V.int).length = ns.length := List.length_map ..
  refine q_when (et_test (ev_op (x := .int (k : Int)) (y := .int ((ns.map V.int).length : Int)) (ev_var rfl) (by walk_at "ev") rv_lt)) (fun hb H1 e1 => ?_) (fun hb H1 e1 => ?_)
  · have hb : (k : Int) < (ns.map V.int).length := of_decide_eq_true hb
    rw [hlen] at hb
    refine s_ret (v := .int (cellAt ns k)) ?_ fun H2 e2 => ?_
    case refine_2 => exact q _ (e1.trans e2)
    exact ev_op (x := .ref a) (y := .int (k : Int)) (ev_var rfl) (ev_var rfl) (rv_ixL (ex_l e1 hs) (atI_ints (by omega)))
  · have hb : ¬ (k : Int) < (ns.map V.int).length := of_decide_eq_false hb
    rw [hlen] at hb
    refine s_ret (v := .int (cellAt ns k)) ?_ fun H2 e2 => ?_
    case refine_2 => exact q _ (e1.trans e2)
    have : cellAt ns k = 0 := by
      unfold cellAt
      rw [List.getD, List.getElem?_eq_none (by omega)]; rfl
    rw [this]
    exact ev_c
theorem pure_l_whole (vs : List V) (H : Hp) (Q : VK) (E : XK) (h : sp_l_whole K A vs H Q E) : t_l_whole K A { nx := fun _ H' => Q .non H', rt := Q } (start ["_law_found"] vs) H := by
  obtain ⟨v, rfl, ⟨ty, b1, b2, hv, h1, h2, h3⟩, k⟩ := h
  unfold t_l_whole
  refine s_ret (v := .bl (b1 && !b2)) (by walk_at "ev") fun H1 e1 => ?_
  rw [h3]
  exact k H1 e1
theorem pure_l_tie (vs : List V) (H : Hp) (Q : VK) (E : XK) (h : sp_l_tie K A vs H Q E) : t_l_tie K A { nx := fun _ H' => Q .non H', rt := Q } (start ["_law_cell", "_law_many_here", "_law_top", "_law_one", "_law_other"] vs) H := by
  obtain ⟨c, m, top, rfl, m1, m2, t1, t2, k⟩ := h
  unfold t_l_tie
  show tSeq _ _ _ [some (.int c), some (.int (m : Int)), some (.int top), none, none] H
  have hone := Int.emod_nonneg c (show (m : Int) ≠ 0 by omega)
  have hone' := Int.emod_lt_of_pos c (show (0 : Int) < m by omega)
  refine q_asg (v := .int (c % (m : Int))) (by walk_at "ev") fun H1 e1 => ?_
  show tSeq _ _ _ [some (.int c), some (.int (m : Int)), some (.int top), some (.int (c % (m : Int))), none] H1
  generalize c % (m : Int) = one at hone hone'
  refine q_asg (v := .int ((one + 1 + c / (m : Int) % ((m : Int) - 1)) % (m : Int))) (by walk_at "ev") fun H2 e2 => ?_
  have hr := Int.emod_nonneg (c / (m : Int)) (show (m : Int) - 1 ≠ 0 by omega)
  have hr' := Int.emod_lt_of_pos (c / (m : Int)) (show (0 : Int) < (m : Int) - 1 by omega)
  show tRet _ _ [some (.int c), some (.int (m : Int)), some (.int top), some (.int one), some (.int ((one + 1 + c / (m : Int) % ((m : Int) - 1)) % (m : Int)))] H2
  generalize c / (m : Int) % ((m : Int) - 1) = r at hr hr'
  have ho := Int.emod_nonneg (one + 1 + r) (show (m : Int) ≠ 0 by omega)
  have ho' := Int.emod_lt_of_pos (one + 1 + r) (show (0 : Int) < m by omega)
  have hne : (one + 1 + r) % (m : Int) ≠ one := by
    have hd := Int.emod_add_mul_ediv (one + 1 + r) (m : Int)
    intro q
    rw [q] at hd
    have h3 : (m : Int) * ((one + 1 + r) / (m : Int)) = 1 + r := by omega
    have h4 : 0 < (one + 1 + r) / (m : Int) := by
      by_cases hp : 0 < (one + 1 + r) / (m : Int)
      · exact hp
      · exfalso
        have : (m : Int) * ((one + 1 + r) / (m : Int)) ≤ 0 := Int.mul_nonpos_of_nonneg_of_nonpos (by omega) (by omega)
        omega
    have h5 : (m : Int) * 1 ≤ (m : Int) * ((one + 1 + r) / (m : Int)) := Int.mul_le_mul_of_nonneg_left (by omega) (by omega)
    omega
  generalize (one + 1 + r) % (m : Int) = other at ho ho' hne
  have hprod : (m : Int) * ((m : Int) - 1) ≤ 24 * 23 := Int.mul_le_mul (by omega) (by omega) (by omega) (by omega)
  have hprod' : 2 * 1 ≤ (m : Int) * ((m : Int) - 1) := Int.mul_le_mul (by omega) (by omega) (by omega) (by omega)
  have hp := Int.emod_nonneg (c / ((m : Int) * ((m : Int) - 1))) (show top ≠ 0 by omega)
  have hp' := Int.emod_lt_of_pos (c / ((m : Int) * ((m : Int) - 1))) (show 0 < top by omega)
  refine s_retU (xs := tieV (one.toNat, other.toNat, 1 + c / ((m : Int) * ((m : Int) - 1)) % top)) ?_ fun q H3 hq e3 h3 => k _ ⟨by show one.toNat < m; omega, by show other.toNat < m; omega, by show one.toNat ≠ other.toNat; omega, by show 1 ≤ 1 + c / ((m : Int) * ((m : Int) - 1)) % top; omega, by show 1 + c / ((m : Int) * ((m : Int) - 1)) % top ≤ 1000000000; omega⟩ q H3 (fresh_back (e1.trans e2) hq) ((e1.trans e2).trans e3) h3
  have q1 : ((one.toNat : Nat) : Int) = one := by omega
  have q2 : ((other.toNat : Nat) : Int) = other := by omega
  unfold tieV vi
  rw [q1, q2]
  refine eu_tup (ea_cons (ev_var rfl) (ea_cons (ev_var rfl) (ea_cons (ev_op ev_c (ev_op (x := .int (c / ((m : Int) * ((m : Int) - 1)))) (y := .int top) (ev_op (x := .int c) (y := .int ((m : Int) * ((m : Int) - 1))) (ev_var rfl) (by walk_at "ev") (rv_fdiv ⟨by omega, by omega⟩)) (ev_var rfl) (rv_mod (by omega))) rv_plus) ea_nil))) (by simp)
theorem joins_test (t : Tie) (i j : Nat) : ((decide ((t.1 : Int) = (i : Int)) && decide ((t.2.1 : Int) = (j : Int))) || (decide ((t.1 : Int) = (j : Int)) && decide ((t.2.1 : Int) = (i : Int)))) = joins i j t := by
  unfold joins
  have e : ∀ a b : Nat, decide ((a : Int) = (b : Int)) = decide (a = b) := fun a b => by
    by_cases h : a = b
    · rw [decide_eq_true h, decide_eq_true (by omega)]
    · rw [decide_eq_false h, decide_eq_false (by omega)]
  rw [e, e, e, e]
theorem pure_l_due (vs : List V) (H : Hp) (Q : VK) (E : XK) (h : sp_l_due K A vs H Q E) : t_l_due K A { nx := fun _ H' => Q .non H', rt := Q } (start ["_law_ties_here", "_law_one", "_law_other", "_law_total", "_law_tie_here"] vs) H := by
  obtain ⟨l, as, ts, i, j, rfl, hl, ta, hij, k⟩ := h
  unfold t_l_due
  refine q_asg (v := .int 0) ev_c fun H1 e1 => ?_
  show tSeq _ _ _ [some (.ref l), some (vi i), some (vi j), some (.int 0), none] H1
  have hl1 := e1 _ _ hl
  refine q_forLn (a := l) (xs := as.map V.ref) (by walk_at "ev") (sq_of hl1) (fun n σ G => ∃ w, σ = [some (.ref l), some (vi i), some (vi j), some (.int (costOf (ts.take n) i j)), w] ∧ Ex H G) (fun H2 e2 => ⟨none, rfl, e1.trans e2⟩) (fun _ _ _ _ ⟨_, _, e⟩ => sq_of (e _ _ hl)) ?_ ?_
  · rintro n x σ G hx ⟨w, rfl, e⟩
    rw [List.getElem?_map] at hx
    cases ea : as[n]? with
    | none => rw [ea] at hx; cases hx
    | some a =>
      rw [ea] at hx
      have ex := Option.some.inj hx
      subst ex
      have hlen := Paired.length ta
      have hn := (List.getElem?_eq_some_iff.mp ea).1
      have et : ts[n]? = some (ts[n]'(by omega)) := List.getElem?_eq_getElem _
      generalize ts[n]'(by omega) = t at et
      have hA := paired_get (R := fun a t => H a = some (.tup (tieV t))) ta ea et
      have hA := e _ _ hA
      have etk := take_succ_of et
      show tIfS _ _ _ _ [some (.ref l), some (vi i), some (vi j), some (.int (costOf (ts.take n) i j)), some (.ref a)] G
      have at0 : Ev (tOp (rIxT K) (tVar 4) (tC (.int 0))) [some (.ref l), some (vi i), some (vi j), some (.int (costOf (ts.take n) i j)), some (.ref a)] G (.int (t.1 : Int)) := ev_op (x := .ref a) (y := .int 0) (ev_var rfl) ev_c (rv_ixT (st_of hA) rfl)
      have at1 : Ev (tOp (rIxT K) (tVar 4) (tC (.int 1))) [some (.ref l), some (vi i), some (vi j), some (.int (costOf (ts.take n) i j)), some (.ref a)] G (.int (t.2.1 : Int)) := ev_op (x := .ref a) (y := .int 1) (ev_var rfl) ev_c (rv_ixT (st_of hA) rfl)
      refine s_if (et_is (et_or (et_and (et_test (ev_op (y := .int (i : Int)) at0 (ev_var rfl) rv_eqI)) fun _ => et_test (ev_op (y := .int (j : Int)) at1 (ev_var rfl) rv_eqI)) fun _ => et_and (et_test (ev_op (y := .int (j : Int)) at0 (ev_var rfl) rv_eqI)) fun _ => et_test (ev_op (y := .int (i : Int)) at1 (ev_var rfl) rv_eqI)) (joins_test t i j)) (fun hb G1 e1 => ?_) (fun hb G1 e1 => ?_)
      · have hA1 := e1 _ _ hA
        refine s_asg (v := .int (costOf (ts.take n) i j + t.2.2)) (ev_op (x := .int (costOf (ts.take n) i j)) (y := .int t.2.2) (ev_var rfl) (ev_op (x := .ref a) (y := .int 2) (ev_var rfl) ev_c (rv_ixT (st_of hA1) rfl)) rv_plus) fun G2 e2 => ⟨some (.ref a), ?_, (e.trans e1).trans e2⟩
        rw [etk, costOf_append, hb]; rfl
      · refine ⟨some (.ref a), ?_, e.trans e1⟩
        rw [etk, costOf_append, hb]
        simp
  · rintro σ G ⟨w, rfl, e⟩
    rw [List.length_map, Paired.length ta, List.take_length]
    exact s_ret (ev_var rfl) fun H2 e2 => k _ (e.trans e2)
end

/-! ### lists of ties as they grow -/
section
variable {K : PySem.W.Frag} {A : Ads}
/-- from H0 on: at l a new list of good ties -/
structure TL (H0 H : Hp) (l : Addr) (m : Nat) (as : List Addr) (ts : List Tie) : Prop where
  new : H0 l = none
  ex : Ex H0 H
  at_ : H l = some (.lst (as.map V.ref))
  ta : TiesAt H as ts
  ok : ∀ t ∈ ts, okTie m t
theorem TL.len {H0 H : Hp} {l : Addr} {m : Nat} {as : List Addr} {ts : List Tie} (h : TL H0 H l m as ts) : as.length = ts.length := Paired.length h.ta
theorem TL.mono {H0 H H' : Hp} {l : Addr} {m : Nat} {as : List Addr} {ts : List Tie} (h : TL H0 H l m as ts) (e : Ex H H') : TL H0 H' l m as ts := ⟨h.new, h.ex.trans e, e _ _ h.at_, h.ta.mono e, h.ok⟩
/-- a list that stands may be changed: the tuples stay -/
theorem TiesAt.upd {H : Hp} {l : Addr} {xs : List V} {o : HO} : ∀ {as : List Addr} {ts : List Tie}, TiesAt H as ts → H l = some (.lst xs) → TiesAt (upd H l o) as ts
  | _, _, .nil, _ => .nil
  | _, _, .cons h t, hl => .cons (by rw [upd_ne (ne_of h hl (by intro z; cases z))]; exact h) (TiesAt.upd t hl)
theorem TL.add {H0 H : Hp} {l q : Addr} {m : Nat} {as : List Addr} {ts : List Tie} {t : Tie} (h : TL H0 H l m as ts) (hq : H q = some (.tup (tieV t))) (ht : okTie m t) : TL H0 (upd H l (.lst (as.map V.ref ++ [.ref q]))) l m (as ++ [q]) (ts ++ [t]) := by
  refine ⟨h.new, Ex.mut h.ex h.new, by rw [upd_same]; simp, paired_snoc (h.ta.upd h.at_) (by rw [upd_ne (ne_of hq h.at_ (by intro z; cases z))]; exact hq), fun u hu => ?_⟩
  rcases List.mem_append.mp hu with q | q
  · exact h.ok u q
  · rw [List.mem_singleton] at q; rw [q]; exact ht
/-- ties made in a comprehension over cells -/
theorem c_tiesL {σ : L2.St} {H : Hp} {Q : VK} {j m : Nat} {tl te : TE} {vs : List Nat} {cells : List Int} (hl : EvL tl σ H (cells.map V.int)) (hz : cells.length ≤ 1000) (hw : ∀ x, wipe ((wipe σ vs).set j (some x)) vs = wipe σ vs)
    (he : ∀ (c : Int) H1 (Q' : VK), Ex H H1 → (∀ t, okTie m t → ∀ q H2, H1 q = none → Ex H1 H2 → H2 q = some (.tup (tieV t)) → Q' (.ref q) H2) → te ((wipe σ vs).set j (some (.int c))) H1 Q')
    (k : ∀ D as ts H', H D = none → TL H H' D m as ts → ts.length = cells.length → Q (.ref D) H') : tLc (iList K tl) (gName j) tYes te vs σ H Q := by
  refine hl H (Ex.refl H) _ fun p H1 hp e1 h1 => ⟨p, rfl, ⟨_, sq_of h1⟩, fun D hD => ?_⟩
  refine lc_list (K := K) (a := p) (xs := cells.map V.int) (fun i H' => ∃ as ts, TL H1 H' D m as ts ∧ ts.length = i) ⟨[], [], ⟨hD, Ex.new hD, upd_same, .nil, fun _ h => nomatch h⟩, rfl⟩ (fun i H' _ ⟨_, _, t, _⟩ => sq_of (t.ex _ _ h1)) ?_ ?_
  · rintro i x H' hx ⟨as, ts, t, hn⟩
    rw [List.getElem?_map] at hx
    cases ec : cells[i]? with
    | none => rw [ec] at hx; cases hx
    | some c =>
      rw [ec] at hx
      have ex := Option.some.inj hx
      subst ex
      have hi := (List.getElem?_eq_some_iff.mp ec).1
      refine ⟨hw _, ty_go ?_⟩
      rw [if_pos rfl]
      refine he c H' _ (e1.trans t.ex) fun u hu q H2 hq e2 h2 => ⟨as.map V.ref, (t.mono e2).at_, ?_, as ++ [q], ts ++ [u], (t.mono e2).add h2 hu, by simp [hn]⟩
      rw [List.length_map, t.len]
      exact sz_lt (by omega)
  · rintro H' ⟨as, ts, t, hn⟩
    rw [List.length_map] at hn
    exact k D as ts H' (fresh_back e1 hD) ⟨fresh_back e1 hD, e1.trans t.ex, t.at_, t.ta, t.ok⟩ hn
/-- the prices' top -/
theorem ev_top {σ : L2.St} {H : Hp} {tb : TE} {c : Int} (hc : Ev tb σ H (.int c)) : ∃ top : Int, 1 ≤ top ∧ top ≤ 1000000000 ∧
    Ev (tOp (rIxL K) (tLst (tCons (tC (.int 3)) (tCons (tC (.int 20)) (tCons (tC (.int 1000000000)) tNil)))) (tOp rMod tb (tC (.int 3)))) σ H (.int top) := by
  have h1 := Int.emod_nonneg c (show (3 : Int) ≠ 0 by omega)
  have h2 := Int.emod_lt_of_pos c (show (0 : Int) < 3 by omega)
  have key : ∀ (k : Nat) (top : Int), c % 3 = (k : Int) → ([.int 3, .int 20, .int 1000000000] : List V)[k]? = some (.int top) →
      Ev (tOp (rIxL K) (tLst (tCons (tC (.int 3)) (tCons (tC (.int 20)) (tCons (tC (.int 1000000000)) tNil)))) (tOp rMod tb (tC (.int 3)))) σ H (.int top) := fun k top hk hv =>
    ev_opL1 (xs := [.int 3, .int 20, .int 1000000000]) (el_lst (ea_cons ev_c (ea_cons ev_c (ea_cons ev_c ea_nil))) (by simp)) (fun H1 e1 => ev_op (hc.mono e1) ev_c (rv_mod (by omega))) fun p H1 hp e => rv_ixL (sq_of hp) (by rw [hk]; exact atI_nat hv)
  by_cases q0 : c % 3 = 0
  · exact ⟨3, by omega, by omega, key 0 3 q0 rfl⟩
  · by_cases q1 : c % 3 = 1
    · exact ⟨20, by omega, by omega, key 1 20 q1 rfl⟩
    · exact ⟨1000000000, by omega, by omega, key 2 1000000000 (by omega) rfl⟩
/-- a call of the law's own tie -/
theorem c_l_tie {σ : L2.St} {H : Hp} {Q : VK} {c top : Int} {m : Nat} {t : TA} (ha : EvA t σ H [.int c, vi m, .int top]) (m1 : 2 ≤ m) (m2 : m ≤ 24) (t1 : 1 ≤ top) (t2 : top ≤ 1000000000)
    (k : ∀ u, okTie m u → ∀ q H2, H q = none → Ex H H2 → H2 q = some (.tup (tieV u)) → Q (.ref q) H2) : tCall (sp_l_tie K A) [] E0 t σ H Q :=
  c_call ha fun H1 e1 => ⟨c, m, top, rfl, m1, m2, t1, t2, fun u hu q H2 hq e2 h2 => k u hu q H2 (fresh_back e1 hq) (e1.trans e2) h2⟩
theorem cutV_ints (ns : List Int) (a b : Nat) : ∃ cs : List Int, cutV (ns.map V.int) (some (a : Int)) (some (b : Int)) = cs.map V.int ∧ cs.length ≤ ns.length ∧ cs.length ≤ b - a := by
  unfold cutV
  rw [← List.map_drop, ← List.map_take]
  refine ⟨_, rfl, ?_, ?_⟩
  · rw [List.length_take, List.length_drop]; omega
  · rw [List.length_take, HT.sIx_nat, HT.sIx_nat, List.length_map, List.length_drop]
    omega
end

section
variable {K : PySem.W.Frag} {A : Ads} {σ : L2.St} {H H' : Hp} {D : Ends} {tz : TS} {v : V} {ta te : TE}
theorem q_appN {xs : List V} (ha : EvL ta σ H xs) (h : Ev te σ H v) (hz : xs.length < 100000) (k : ∀ H1, Ex H H1 → tz D σ H1) : tSeq (tDrop (tBM K "list" rAppend ta (tCons te tNil))) tz D σ H :=
  ha H (Ex.refl H) _ fun p H1 hp e1 h1 => ⟨Or.inl ⟨rfl, xs, sq_of h1⟩, h H1 e1 _ fun H2 e2 => ⟨p, xs, v, rfl, rfl, e2 p _ h1, sz_lt hz, k _ ((e1.trans e2).mut hp)⟩⟩
variable {p : Addr} {n : Net} {s : NetS}
theorem list_at_ref {as : List Addr} {i : Nat} {x : V} (h : (as.map V.ref)[i]? = some x) : ∃ a, as[i]? = some a ∧ x = .ref a := by
  rw [List.getElem?_map] at h
  cases ea : as[i]? with
  | none => rw [ea] at h; cases h
  | some a => rw [ea] at h; exact ⟨a, rfl, (Option.some.inj h).symm⟩
theorem TiesAt.at_ {H : Hp} {as : List Addr} {ts : List Tie} {i : Nat} {a : Addr} (h : TiesAt H as ts) (ha : as[i]? = some a) : ∃ t, ts[i]? = some t ∧ H a = some (.tup (tieV t)) := by
  have hl := Paired.length h
  have hi := (List.getElem?_eq_some_iff.mp ha).1
  have et : ts[i]? = some (ts[i]'(by omega)) := List.getElem?_eq_getElem _
  exact ⟨_, et, paired_get (R := fun a t => H a = some (.tup (tieV t))) h ha et⟩
theorem isTwo_vi {m i j : Nat} (h : i < m) (h' : j < m) (hij : i ≠ j) : isTwo (m : Int) (vi i) (vi j) = true := by
  unfold isTwo
  rw [isPl_vi h, isPl_vi h', decide_eq_false fun q => hij (vi_inj q)]
  rfl
theorem spv_between {i j : Nat} (N : NetX A H p n s) (h : i < n.many) (h' : j < n.many) (hij : i ≠ j) : SpV (sp_between K A) [.ref p, vi i, vi j] H (.int (costOf n.ties i j)) := fun H1 e Q q E =>
  ⟨p, n, s, vi i, vi j, rfl, N.mono e, kd_int, kd_int, fun i' j' hi hj _ _ _ H2 e2 => by
    rw [← vi_inj hi, ← vi_inj hj]
    exact q H2 e2, fun hn => by
    rw [isTwo_vi h h' hij] at hn
    cases hn⟩
theorem spl_beside {i : Nat} (N : NetX A H p n s) (h : i < n.many) : SpL (sp_beside K A) [.ref p, vi i] H ((besideOf n.ties i).map V.int) := fun H1 e Q q E =>
  ⟨p, n, s, vi i, rfl, N.mono e, kd_int, fun i' hi _ l H2 hl e2 h2 => q l H2 hl e2 (by rw [vi_inj hi]; exact h2), fun hn => by
    rw [isPl_vi h] at hn
    cases hn⟩
theorem spl_ties (N : NetX A H p n s) : SpL (sp_ties K A) [.ref p] H (s.as.map V.ref) := fun H1 e Q q E => ⟨p, n, s, rfl, N.mono e, fun l H2 hl e2 h2 => q l H2 hl e2 h2⟩
theorem map_vi_inj : ∀ {a b : List Nat}, a.map vi = b.map vi → a = b
  | [], [], _ => rfl
  | [], _ :: _, h => nomatch h
  | _ :: _, [], h => nomatch h
  | x :: a, y :: b, h => by
    have h := List.cons.inj h
    rw [vi_inj h.1, map_vi_inj h.2]
theorem spv_price {l : Addr} {side : List Nat} (N : NetX A H p n s) (h : H l = some (.lst (side.map vi))) (hn : side.Nodup) (hs : ∀ i ∈ side, i < n.many) : SpV (sp_price K A) [.ref p, .ref l] H (.int (priceOf n.ties side)) := fun H1 e Q q E =>
  ⟨p, n, s, .ref l, rfl, N.mono e, .inl ⟨l, _, rfl, e _ _ h, by
    rw [List.length_map]
    have h1 := List.Nodup.length_le_of_subset hn (l₂ := List.range n.many) fun i hi => List.mem_range.mpr (hs i hi)
    rw [List.length_range] at h1
    have := N.ok.hi
    omega, fun x hx => by
    obtain ⟨i, _, rfl⟩ := List.mem_map.mp hx
    exact kd_int, fun side' hh _ _ H2 e2 => by
    have : side = side' := map_vi_inj hh
    rw [← this]
    exact q H2 e2, fun hb => absurd ⟨side, rfl, hn, hs⟩ hb⟩⟩
end

section
variable {K : PySem.W.Frag} {A : Ads} {σ : L2.St} {H H' : Hp} {D : Ends} {tz : TS} {v x y z : V} {ta tb te tl : TE}
/-- two ways that meet -/
theorem q_ifM {b : Bool} {t : TT} {tu tw : TS} (M : L2.St → Hp → Prop) (h : EvT t σ H b) (k : ∀ σ' H', M σ' H' → tz D σ' H') (h1 : b = true → ∀ H1, Ex H H1 → ∀ N : L2.St → Hp → Prop, (∀ σ' H', M σ' H' → N σ' H') → tu { D with nx := N } σ H1)
    (h2 : b = false → ∀ H1, Ex H H1 → ∀ N : L2.St → Hp → Prop, (∀ σ' H', M σ' H' → N σ' H') → tw { D with nx := N } σ H1) : tSeq (tIfS t tu tw) tz D σ H :=
  q_if h (fun hb H1 e1 => h1 hb H1 e1 _ k) (fun hb H1 e1 => h2 hb H1 e1 _ k)
/-- a list told again leaves a net, where it is none of the net's own -/
theorem NetX.told {p h : Addr} {n : Net} {s : NetS} {xs ys : List V} (N : NetX A H p n s) (hh : H h = some (.lst xs)) (nk : h ≠ s.kl) (nn : h ≠ s.nl) (nns : ∀ a ∈ s.ns, a ≠ h) : NetX A (upd H h (.lst ys)) p n s := by
  have ne : ∀ {b : Addr} {o : HO}, H b = some o → (∀ zs, o ≠ .lst zs) → upd H h (.lst ys) b = some o := fun {b o} hb ho => (upd_ne (fun q => by
    rw [q, hh] at hb
    exact ho _ (Option.some.inj hb).symm)).trans hb
  exact ⟨N.ok, ne N.ob (fun _ q => nomatch q), (upd_ne (Ne.symm nk)).trans N.hk, TiesAt.upd N.ta hh, ne N.hs (fun _ q => nomatch q), N.so, (upd_ne (Ne.symm nn)).trans N.hn, ⟨N.na.len, fun i a ha => (upd_ne (nns a (List.mem_of_getElem? ha))).trans (N.na.at_ i a ha)⟩⟩
/-- a method handed a new list -/
theorem ev_methL {C p dx : Addr} {fs : List (Str × V)} {m : Str} {sp : Sp} {xs : List V} {E : XK} (ha : Ev ta σ H (.ref p)) (h : H p = some (.ins C dx fs)) (l : fs.lookup m = none) (hv : EvL tl σ H xs) (hs : ∀ q H1, H1 q = some (.lst xs) → Ex H H1 → SpV sp [.ref p, .ref q] H1 z) :
    Ev (tMeth C m sp [] E ta (tCons tl tNil)) σ H z := fun H1 e Q q =>
  ha H1 e _ fun H2 e2 => ⟨p, dx, fs, rfl, e2 p _ (e p _ h), l, hv H2 (e.trans e2) _ fun r H3 _ e3 h3 => hs r H3 h3 ((e.trans e2).trans e3) H3 (Ex.refl H3) _ (fun H4 e4 => q H4 ((e2.trans e3).trans e4)) E⟩
/-- a call handed a new list first -/
theorem ev_callL {sp : Sp} {xs : List V} {E : XK} (hv : EvL tl σ H xs) (hb : Ev tb σ H y) (hs : ∀ q H1, H1 q = some (.lst xs) → Ex H H1 → SpV sp [.ref q, y] H1 z) : Ev (tCall sp [] E (tCons tl (tCons tb tNil))) σ H z := fun H1 e Q q =>
  hv H1 e _ fun r H3 _ e3 h3 => hb H3 (e.trans e3) _ fun H4 e4 => hs r H4 (e4 _ _ h3) ((e.trans e3).trans e4) H4 (Ex.refl H4) _ (fun H5 e5 => q H5 ((e3.trans e4).trans e5)) E
theorem q_rev {l : Addr} {xs : List V} (hl : H l = some (.lst xs)) (ha : Ev ta σ H (.ref l)) (k : ∀ H1, Ex H H1 → D.nx σ (upd H1 l (.lst xs.reverse))) : tDrop (tBM0 K "list" rReverse ta) D σ H := ha H (Ex.refl H) _ fun H1 e1 =>
  ⟨Or.inl ⟨rfl, xs, sq_of (e1 l _ hl)⟩, l, xs, rfl, rfl, e1 l _ hl, k H1 e1⟩
theorem el_range {n : Nat} (ha : Ev ta σ H (vi n)) (hn : n ≤ 100000) : EvL (tLstRg (tRg1 ta)) σ H ((List.range n).map vi) := fun H1 e Q q =>
  ha H1 e _ fun H2 e2 => ⟨(n : Int), rfl, RgOk.of_le (by omega) (by omega) (by omega) (by omega), fun r hr => q r _ (fresh_back e2 hr) (e2.mut (fresh_back e2 hr)) (by
    rw [show rgV 0 (n : Int) = (List.range n).map vi from by
      unfold rgV
      rw [show ((n : Int) - 0).toNat = n by omega]
      exact List.map_congr_left fun i _ => by rw [Int.zero_add]; rfl]
    exact upd_same)⟩
theorem vi_ints (l : List Nat) : l.map vi = (l.map fun j : Nat => (j : Int)).map V.int := by rw [List.map_map]; rfl
theorem dp_vis {a : Addr} {l : List Nat} (h : SqL K H a (l.map vi)) : Dp K H (.ref a) (intD (l.map fun j : Nat => (j : Int))) := dp_ints (by rw [← vi_ints]; exact h)
def twoD (a b : List Int) : PyData := .list [intD a, intD b]
theorem dp_two {a b c : Addr} {xs ys : List Int} (h : SqL K H a [.ref b, .ref c]) (hb : Dp K H (.ref b) (intD xs)) (hc : Dp K H (.ref c) (intD ys)) : Dp K H (.ref a) (twoD xs ys) := .lst h (.cons hb (.cons hc .nil))
theorem shaped_two (a b : List Int) : SeqAt.shaped (twoD a b) = true := by
  have h1 := shaped_ints a
  have h2 := shaped_ints b
  unfold SeqAt.shaped at *
  rw [Bool.and_eq_true] at *
  refine ⟨?_, decide_eq_true ?_⟩
  · show (PyData.canLay0 (intD a) && (PyData.canLay0 (intD b) && true)) = true
    rw [h1.1, h2.1]; rfl
  · show max (PyData.depth (intD a)) (max (PyData.depth (intD b)) 0) + 1 ≤ 64
    have ha : PyData.depth (intD a) = 1 := by show PyData.depthAll (a.map PyData.int) + 1 = 1; rw [depth_ints]
    have hb : PyData.depth (intD b) = 1 := by show PyData.depthAll (b.map PyData.int) + 1 = 1; rw [depth_ints]
    rw [ha, hb]; decide
theorem priceOf_other {m : Nat} {ts : List Tie} {a b : List Nat} (ok : ∀ t ∈ ts, okTie m t) (h : ∀ k, k < m → (k ∈ b ↔ k ∉ a)) : priceOf ts b = priceOf ts a := by
  unfold priceOf
  congr 2
  refine List.filter_congr fun t ht => ?_
  obtain ⟨h1, h2, _⟩ := ok t ht
  have e1 := h _ h1
  have e2 := h _ h2
  by_cases q1 : t.1 ∈ a <;> by_cases q2 : t.2.1 ∈ a <;> simp [e1, e2, q1, q2]
theorem priceOf_nil (ts : List Tie) : priceOf ts [] = 0 := by
  unfold priceOf
  rw [List.filter_eq_nil_iff.mpr fun t _ => by simp]
  rfl
theorem priceOf_all {m : Nat} {ts : List Tie} (ok : ∀ t ∈ ts, okTie m t) : priceOf ts (List.range m) = 0 := by
  rw [← priceOf_nil ts]
  exact priceOf_other ok fun k hk => by simp [hk]
end

/-! ### texts, and loops over more -/
section
variable {K : PySem.W.Frag} {A : Ads} {σ : L2.St} {H H' : Hp} {D : Ends} {tu tz : TS} {v : V} {ta tb te tl : TE}
theorem rv_plusS {a b : List Nat} (ha : a.length ≤ 50000) (hb : b.length ≤ 50000) : RV rPlusS (.str (SX.S a)) (.str (SX.S b)) H (.str (SX.S (a ++ b))) := fun H1 _ _ q => ⟨_, _, rfl, rfl, by rw [SX.S_len, SX.S_len]; exact sz_of (by omega), by rw [SX.S_cat]; exact q H1 (Ex.refl H1)⟩
theorem rc_strN {n : Nat} (h : n < 10 ^ 10) : RC rStrI [vi n] H (.str (SX.S (TL.numL n))) := fun H1 _ _ q => ⟨(n : Int), rfl, by
  show n.log2 < 1920
  by_cases h0 : n = 0
  · subst h0; decide
  · rw [Nat.log2_lt h0]
    exact Nat.lt_of_lt_of_le h (by decide +kernel), by
  rw [show ((toString (n : Int) : String) : Str) = SX.S (TL.numL n) from SX.num_S n]
  exact q H1 (Ex.refl H1)⟩
theorem rc_lenStr {a : List Nat} (h : a.length ≤ 100000) : RC rLenStr [.str (SX.S a)] H (.int (a.length : Int)) := fun H1 _ _ q => ⟨_, rfl, by rw [SX.S_len]; exact sz_of h, by rw [SX.S_len]; exact q H1 (Ex.refl H1)⟩
theorem rc_intStr {a : Str} {n : Int} (h : PySem.intText? a = some n) (hl : a.length ≤ 640) : RC rIntStr [.str a] H (.int n) := fun H1 _ _ q => ⟨a, n, rfl, h, hl, q H1 (Ex.refl H1)⟩
theorem rc_int1B {b : Bool} : RC rInt1 [.bl b] H (.int (if b then 1 else 0)) := fun H1 _ _ q => .inr ⟨b, rfl, q H1 (Ex.refl H1)⟩
theorem ev_join {a : List Nat} {p : Addr} {ys : List (List Nat)} (ha : Ev ta σ H (.str (SX.S a))) (hp : Ev tb σ H (.ref p)) (hl : SqL K H p ((ys.map SX.S).map V.str) ∨ SqT K H p ((ys.map SX.S).map V.str)) (hz : (ys.map (·.length)).sum + ys.length * a.length ≤ 16777216) :
    Ev (tM1 (rJoin K) ta tb) σ H (.str (SX.S (TL.joinL a ys))) := fun H1 e Q q =>
  ha H1 e _ fun H2 e2 => ⟨⟨_, rfl⟩, hp H2 (e.trans e2) _ fun H3 e3 => ⟨_, p, ys.map SX.S, rfl, rfl, hl.elim (fun h => .inl (ex_l ((e.trans e2).trans e3) h)) (fun h => .inr (ex_t ((e.trans e2).trans e3) h)), by rw [SX.lens, List.length_map, SX.S_len]; exact hz, by
    rw [SX.join_S]
    exact q H3 (e2.trans e3)⟩⟩
theorem ev_joinL {a : List Nat} {ys : List (List Nat)} (ha : Ev ta σ H (.str (SX.S a))) (hp : EvL tb σ H ((ys.map SX.S).map V.str)) (hz : (ys.map (·.length)).sum + ys.length * a.length ≤ 16777216) :
    Ev (tM1 (rJoin K) ta tb) σ H (.str (SX.S (TL.joinL a ys))) := fun H1 e Q q =>
  ha H1 e _ fun H2 e2 => ⟨⟨_, rfl⟩, hp H2 (e.trans e2) _ fun p H3 _ e3 h3 => ⟨_, p, ys.map SX.S, rfl, rfl, .inl (sq_of h3), by rw [SX.lens, List.length_map, SX.S_len]; exact hz, by
    rw [SX.join_S]
    exact q H3 (e2.trans e3)⟩⟩
theorem el_split {x y : Str} (ha : Ev ta σ H (.str x)) (hb : Ev tb σ H (.str y)) (hy : (y.length == 0) = false) (hx : x.length ≤ 99998) : EvL (tM1 rSplit ta tb) σ H ((Txt.split x y).map V.str) := fun H1 e Q q =>
  ha H1 e _ fun H2 e2 => ⟨⟨_, rfl⟩, hb H2 (e.trans e2) _ fun H3 e3 => ⟨x, y, rfl, rfl, hy, sz_of (by omega), fun p hp => q p _ (fresh_back (e2.trans e3) hp) ((e2.trans e3).trans (Ex.new hp)) upd_same⟩⟩
/-- a text, sign by sign -/
theorem q_forS {x : Str} {j : Nat} (h : Ev te σ H (.str x)) (Pv : Nat → L2.St → Hp → Prop) (h0 : ∀ H1, Ex H H1 → Pv 0 σ H1)
    (hs : ∀ i c σ' H', x.cps.toList[i]? = some c → Pv i σ' H' → tu { D with nx := Pv (i + 1), ct := Pv (i + 1), bk := tz D } (σ'.set j (some (.str ⟨#[c]⟩))) H') (hd : ∀ σ' H', Pv x.cps.toList.length σ' H' → tz D σ' H') : tSeq (tFor (iStr te) (gName j) tu) tz D σ H :=
  h H (Ex.refl H) _ fun H1 e => ⟨x, rfl, for_it walk_str Pv (h0 H1 e) (fun _ _ _ _ _ => trivial) (fun i v σ' H2 H3 _ p y => by
    obtain ⟨rfl, c, hc, rfl⟩ := y
    exact hs i c σ' _ (by rw [Array.getElem?_toList]; exact hc) p) hd⟩
/-- enumerate over a new list -/
theorem q_forE {xs : List V} {j j' : Nat} (h : EvL tl σ H xs) (Pv : Addr → Nat → L2.St → Hp → Prop) (h0 : ∀ p H1, H p = none → Ex H H1 → H1 p = some (.lst xs) → Pv p 0 σ H1) (hq : ∀ p i σ' H', Pv p i σ' H' → SqL K H' p xs)
    (hs : ∀ p i x σ' G G', xs[i]? = some x → Pv p i σ' G → Ex G G' → tu { D with nx := Pv p (i + 1), ct := Pv p (i + 1), bk := tz D } ((σ'.set j (some (vi i))).set j' (some x)) G') (hd : ∀ p σ' H', Pv p xs.length σ' H' → tz D σ' H') :
    tSeq (tFor (iEnum K (tCons tl tNil)) (gTup K 2 (gCons (gName j) (gCons (gName j') gNil))) tu) tz D σ H :=
  h H (Ex.refl H) _ fun p H1 hp e h1 => ⟨p, xs, rfl, sq_of h1, for_it walk_enum (Pv p) (h0 p H1 hp e h1) (fun i σ' H' _ q => hq p i σ' H' q) (fun i v σ' G G' _ q y => by
    obtain ⟨T, x, y', rfl, hT, rfl, hx, hy⟩ := y
    have := Option.some.inj hx
    subst this
    exact ⟨T, _, rfl, st_of upd_same, rfl, _, _, rfl, _, _, rfl, rfl, hs p i y' σ' G _ hy q (Ex.new hT)⟩) (hd p)⟩
end
section
variable {K : PySem.W.Frag} {A : Ads} {σ : L2.St} {H : Hp} {D : Ends} {tu tz : TS} {t1 t2 te : TE} {g : TG}
/-- ties made in a comprehension over a range -/
theorem c_tiesR {Q : VK} {j m n : Nat} {ta : TA} {vs : List Nat} (hl : EvA ta σ H [vi n]) (hz : n ≤ 1000) (hw : ∀ x, wipe ((wipe σ vs).set j (some x)) vs = wipe σ vs)
    (he : ∀ (c : Nat) H1 (Q' : VK), c < n → Ex H H1 → (∀ t, okTie m t → ∀ q H2, H1 q = none → Ex H1 H2 → H2 q = some (.tup (tieV t)) → Q' (.ref q) H2) → te ((wipe σ vs).set j (some (vi c))) H1 Q')
    (k : ∀ D as ts H', H D = none → TL H H' D m as ts → ts.length = n → Q (.ref D) H') : tLc (iRng1 ta) (gName j) tYes te vs σ H Q := by
  refine hl H (Ex.refl H) _ fun H1 e1 => ⟨(n : Int), rfl, by omega, by omega, fun D hD => ?_⟩
  rw [Int.toNat_natCast]
  refine lc_it (walk_range (lo := 0) (n := n)) (fun i H' => ∃ as ts, TL H1 H' D m as ts ∧ ts.length = i) ⟨[], [], ⟨hD, Ex.new hD, upd_same, .nil, fun _ h => nomatch h⟩, rfl⟩ (fun _ _ _ _ => trivial) ?_ ?_
  · rintro i x H' H2 hi ⟨as, ts, t, hn⟩ ⟨rfl, rfl⟩
    show gName j (V.int ((0 : Int) + (i : Int))) _ _ _
    rw [show V.int ((0 : Int) + (i : Int)) = vi i from congrArg V.int (Int.zero_add _)]
    refine ⟨hw _, ty_go ?_⟩
    rw [if_pos rfl]
    refine he i _ _ hi (e1.trans t.ex) fun u hu q H2 hq e2 h2 => ⟨as.map V.ref, (t.mono e2).at_, ?_, as ++ [q], ts ++ [u], (t.mono e2).add h2 hu, by simp [hn]⟩
    rw [List.length_map, t.len]
    exact sz_lt (by omega)
  · rintro H' ⟨as, ts, t, hn⟩
    exact k D as ts H' (fresh_back e1 hD) ⟨fresh_back e1 hD, e1.trans t.ex, t.at_, t.ta, t.ok⟩ hn
/-- [e for x in tuple] -/
theorem el_lcT {α : Type} {a : Addr} {xs : List V} {j : Nat} {vs : List Nat} (ts : List α) (h : α → V) (hl : Ev t1 σ H (.ref a)) (hx : SqT K H a xs) (hz : xs.length ≤ 40000) (hn : xs.length = ts.length) (hw : ∀ x, wipe ((wipe σ vs).set j (some x)) vs = wipe σ vs)
    (he : ∀ (i : Nat) (x : V) (b : α) H1, Ex H H1 → xs[i]? = some x → ts[i]? = some b → Ev te ((wipe σ vs).set j (some x)) H1 (h b)) : EvL (tLc (iTup K t1) (gName j) tYes te vs) σ H (ts.map h) := fun H0 e0 Q q =>
  hl H0 e0 _ fun H1 e1 => ⟨a, rfl, ⟨xs, ex_t (e0.trans e1) hx⟩, fun Dl hD => lc_it (walk_tup (K := K) (a := a) (xs := xs)) (fun i H' => Ex H1 H' ∧ H' Dl = some (.lst ((ts.map h).take i))) ⟨Ex.new hD, upd_same⟩ (fun i H' _ p => ex_t ((e0.trans e1).trans p.1) hx) (fun i x H' H2 hi p y => by
    obtain ⟨rfl, hx'⟩ := y
    refine ⟨hw _, ty_go ?_⟩
    rw [if_pos rfl]
    have hb : ts[i]? = some (ts[i]'(by omega)) := List.getElem?_eq_getElem _
    refine he i x _ H1 (e0.trans e1) hx' hb _ p.1 _ fun H3 e3 => ⟨_, e3 _ _ p.2, ?_, (p.1.trans e3).mut hD, ?_⟩
    · rw [List.length_take]; exact sz_lt (by omega)
    · rw [take_succ_of (xs := ts.map h) (x := h (ts[i]'(by omega))) (by rw [List.getElem?_map, hb]; rfl)]
      exact upd_same) (fun H' p => by
    have hp := p.2
    rw [List.take_of_length_le (by rw [List.length_map]; omega)] at hp
    exact q Dl H' (fresh_back e1 hD) (e1.trans p.1) hp)⟩
theorem q_forZN {b : Addr} {xs ys : List V} (h1 : EvL t1 σ H xs) (h2 : Ev t2 σ H (.ref b)) (hy : SqL K H b ys) (hl : xs.length = ys.length) (Pv : Addr → Nat → L2.St → Hp → Prop) (h0 : ∀ p H1, Ex H H1 → H1 p = some (.lst xs) → Pv p 0 σ H1) (hq : ∀ p i σ H, Pv p i σ H → SqL K H p xs ∧ SqL K H b ys)
    (hs : ∀ (p : Addr) (i : Nat) (x y : V) (T : Addr) (σ : L2.St) (H : Hp), xs[i]? = some x → ys[i]? = some y → Pv p i σ H → H T = none → g (.ref T) σ (upd H T (.tup [x, y])) fun σ2 H2 => tu { D with nx := Pv p (i + 1), ct := Pv p (i + 1), bk := tz D } σ2 H2) (hd : ∀ p σ H, Pv p xs.length σ H → tz D σ H) :
    tSeq (tFor (iZip K (tCons t1 (tCons t2 tNil))) g tu) tz D σ H :=
  h1 H (Ex.refl H) _ fun p H1 _ e1 hp => h2 H1 e1 _ fun H2 e2 => ⟨p, b, xs, ys, rfl, sq_of (e2 _ _ hp), ex_l (e1.trans e2) hy, RZ.for_zipL (D := { D with nx := tz D }) hl (Pv p) (h0 p H2 (e1.trans e2) (e2 _ _ hp)) (hq p) (hs p) (hd p)⟩
theorem rc_isC {C p dx : Addr} {fs : List (Str × V)} (h : H p = some (.ins C dx fs)) : RC (rIsC C) [.ref p, .ref C] H (.bl true) := fun H1 e _ q => ⟨p, dx, fs, rfl, e _ _ h, q H1 (Ex.refl H1)⟩
theorem c_makeL {C : Addr} {sp : Sp} {v : V} {xs : List V} {E : XK} {Q : VK} (h1 : Ev t1 σ H v) (h2 : EvL t2 σ H xs)
    (hs : ∀ q H1, H q = none → Ex H H1 → H1 q = some (.lst xs) → ∀ x dx, H1 x = none → H1 dx = none → dx ≠ x → sp [.ref x, v, .ref q] (upd (upd H1 dx (.own x)) x (.ins C dx [])) (fun v' H2 => v' = .non ∧ Q (.ref x) H2) E) : tMake C sp [] E (tCons t1 (tCons t2 tNil)) σ H Q :=
  h1 H (Ex.refl H) _ fun H1 e1 => h2 H1 e1 _ fun q H2 hq e2 h => hs q H2 (fresh_back e1 hq) (e1.trans e2) h
theorem c_cat {a : Addr} {xs : List V} {Q : VK} (ha : Ev t1 σ H (.ref a)) (hx : H a = some (.lst xs)) (hb : ∀ H1 (Q' : VK), Ex H H1 → (∀ b ys H2, H1 b = none → Ex H1 H2 → H2 b = some (.lst ys) → xs.length + ys.length ≤ 100000 → (∀ p, H2 p = none → Q (.ref p) (upd H2 p (.lst (xs ++ ys)))) → Q' (.ref b) H2) → t2 σ H1 Q') : tOp rCat t1 t2 σ H Q :=
  ha H (Ex.refl H) _ fun H1 e1 => hb H1 _ e1 fun b ys H2 _ e2 h2 hz kk => ⟨a, b, xs, ys, rfl, rfl, e2 _ _ (e1 _ _ hx), h2, sz_of hz, kk⟩
theorem paired_app {α β : Type} {R : α → β → Prop} : ∀ {as cs : List α} {bs ds : List β}, Paired R as bs → Paired R cs ds → Paired R (as ++ cs) (bs ++ ds)
  | _, _, _, _, .nil, h => h
  | _, _, _, _, .cons r t, h => .cons r (paired_app t h)
end

/-! ### errors caught -/
inductive Err
  | net | place | side | text
  deriving DecidableEq
def Ads.err (A : Ads) : Err → Addr
  | .net => A.eNoNet
  | .place => A.eNoPlace
  | .side => A.eNoSide
  | .text => A.eNoText
/-- what is asked of our error classes -/
structure ErrC (K : PySem.W.Frag) (A : Ads) : Prop where
  cc : ∀ x, ExcC K (A.err x)
  own : ∀ x, PySem.W.exmOne K (.ref (A.err x)) (.ref (A.err x)) = some true
  one : ∀ x y, PySem.W.kitOne K (.ref (A.err x)) (.ref (A.err y)) = some (decide (x = y))
  wall : ∀ x, PySem.W.kitOne K (.ref (A.err x)) (.ref A.eWallError) = some true
  val : ∀ x, PySem.W.kitOne K (.ref (A.err x)) (.type "ValueError") = some true
theorem kit_ref {K : PySem.W.Frag} {a b : Addr} {r : Bool} (hc : PySem.W.isClsIn K b = true) (ht : PySem.W.typeIn K (.ref b) = some (.type "type")) (hs : PySem.W.subIn K (.ref a) (.ref b) = some r) (hsf : PySem.W.subIn K (.ref b) (.ref b) = some true) : PySem.W.kitOne K (.ref a) (.ref b) = some r := by
  show (if ((Value.ref a) == (Value.ref b)) = true then some true else PySem.W.kitCls K (.ref a) (.ref b)) = some r
  by_cases q : ((Value.ref a) == (Value.ref b)) = true
  · rw [if_pos q]
    have e : a = b := Value.ref.inj (beq_iff_eq.mp q)
    rw [e, hsf] at hs
    exact hs
  · rw [if_neg q]
    have hc' : (PySem.W.clsIn K b).isSome = true := hc
    show (if ((PySem.W.clsIn K b).isSome && PySem.W.typeIn K (.ref b) == some (.type "type")) = true then PySem.W.subIn K (.ref a) (.ref b) else none) = some r
    have e : ((true && some (Value.type "type") == some (Value.type "type")) = true) := by simp
    rw [hc', ht, if_pos e]
    exact hs
theorem kit_val {K : PySem.W.Frag} {a : Addr} (hs : PySem.W.subIn K (.ref a) (.type "ValueError") = some true) : PySem.W.kitOne K (.ref a) (.type "ValueError") = some true := by
  show (if ((Value.ref a) == (Value.type "ValueError")) = true then some true else (if PySem.W.kitMeta "ValueError" = true then PySem.W.subIn K (.ref a) (.type "ValueError") else none)) = some true
  rw [show PySem.W.kitMeta "ValueError" = true by decide +kernel, if_pos rfl, hs]
  by_cases q : ((Value.ref a) == (Value.type "ValueError")) = true
  · rw [if_pos q]
  · rw [if_neg q]
theorem exm_own {K : PySem.W.Frag} {a : Addr} (hb : PySem.W.subIn K (.ref a) (.type "BaseException") = some true) (hc : PySem.W.isClsIn K a = true) (ht : PySem.W.typeIn K (.ref a) = some (.type "type")) (hsf : PySem.W.subIn K (.ref a) (.ref a) = some true) : PySem.W.exmOne K (.ref a) (.ref a) = some true := by
  have hc' : (PySem.W.clsIn K a).isSome = true := hc
  show (if (PySem.W.subIn K (.ref a) (.type "BaseException") == some true) = true then (if ((PySem.W.clsIn K a).isSome && PySem.W.typeIn K (.ref a) == some (.type "type")) = true then PySem.W.subIn K (.ref a) (.ref a) else none) else none) = some true
  have e : ((true && some (Value.type "type") == some (Value.type "type")) = true) := by simp
  have e2 : ((some true == some true) = true) := by simp
  rw [hb, hc', ht, if_pos e2, if_pos e, hsf]
def rIsET (K : PySem.W.Frag) (D a : Addr) : RCt := fun xs H Q => ∃ (tp : Addr) (cs : List V) (us : List Value) (b : Bool), xs = [V.ref a, V.ref tp] ∧ H tp = some (.tup cs) ∧ Paired ClsV cs us ∧ PySem.W.kitAny K (.ref D) us = some b ∧ Q (.bl b) H
section
variable {X : Cx}
/-- isinstance(e, (c, ..)), e the error that the suite holds -/
theorem call_isET {a D : Addr} {oe : Obj} {pn : List (Addr × Obj)} (C : ExcC X.K D) (hz : Zc (.ref D) none oe) (hf : ∃ vs, oe.data = .fields vs) : CallR (X.suite a ((a, oe) :: pn)) (.builtin "isinstance") (rIsET X.K D a) := fun pins s σ H xs us Q I r h => by
  obtain ⟨tp, cs, ws, b, hxs, hT, k, ek, q⟩ := h
  subst hxs
  obtain ⟨u1, u2, hu, r1, r2⟩ := vals2 r
  subst hu
  have h2 : u2 = Value.ref tp := r2
  have h1 : u1 = Value.ref a := r1
  subst h1 h2
  have got := (I.pin (a, oe) (List.mem_append_left _ (List.mem_cons_self ..))).1
  have J : PySem.W.InstAt s.heap a oe D none := by
    obtain ⟨fs, efs⟩ := hf
    rcases oe with ⟨c1, c2, c3, c4⟩
    have z1 : c1 = Value.ref D := hz.1
    have z2 : c2 = none := hz.2
    have z3 : c3 = .fields fs := efs
    subst z1 z2 z3
    exact ⟨got, rfl, rfl, trivial⟩
  have lay := I.hok tp _ hT
  obtain ⟨_, its, rv, ob, g1, g2, n, g3⟩ := (show ObjOk X.prog X.w H s.heap tp (.tup cs) from lay)
  have same := ClsV.all k rv
  subst same
  rcases ob with ⟨d1, d2, d3, d4⟩
  have y2 : d1 = _ := g2
  have y3 : d3 = _ := g3
  subst y2 y3
  exact PySem.W.kia_tup (PySem.W.handS_kitx_exc C.hg C.hk C.hs C.hd C.ha C.hn C.ht C.hm) I.kIn J g1 ek (fun z => nomatch z) fun tk => ⟨.bl b, H, I.tok tk, rfl, q⟩
/-- an error's wish that holds at any slots -/
def anyS (n : Nat) (W : WX) : XK := fun cls d H => ∀ σ : L2.St, σ.length = n → W cls d σ H
theorem passL {W : WX} (tk : L2N.Takes X W) : Passes (L2N.CX X.prog X.w) X (anyS X.N.length W) := fun _ _ _ _ e s' I c => tk e s' (L2N.XE.of_call I (fun _ _ _ h => h _ I.len) c)
/-- a suite for errors of one class alone -/
def tsOnly (c : Addr) (ts : Addr → TS) : Addr → Value → Option Addr → TS := fun a cls d D σ H => cls = .ref c ∧ d = none ∧ ts a D σ H
theorem pss_only {c a : Addr} {ts : Addr → TS} {cls : Value} {d : Option Addr} {oe : Obj} {l : List Stmt} (hz : L2N.Zn cls d oe) (h : Zc (.ref c) none oe → PSs X l (ts a)) : PSs X l (tsOnly c ts a cls d) := by
  refine ⟨fun pins s σ H D I hw => ?_⟩
  obtain ⟨e1, e2, hw⟩ := hw
  subst e1 e2
  exact (h hz.zc).run pins s σ H D I hw
end
/-- try: .. except C as e: .. -/
def tTryE (K : PySem.W.Frag) (c : Addr) (i n : Nat) (tb : XK → TS) (ts : Addr → TS) : TS := fun D σ H => tb (anyS n (wAs K (.ref c) i (tsOnly c ts) (fun _ _ _ _ => False) D)) D σ H
section
variable {K : PySem.W.Frag} {A : Ads} {σ : L2.St} {H : Hp} {D : Ends} {tz : TS}
/-- where the suite ends the def -/
theorem q_tryE {x : Err} {i n : Nat} {tb : XK → TS} {ts : Addr → TS} (ec : ErrC K A) (hs : ∀ (D' : Ends) (a : Addr) (σ' : L2.St) (H' : Hp), D'.rt = D.rt → σ'.length = n → H' a = none → Ex H H' → ts a D' (σ'.set i (some (.ref a))) H')
    (h : ∀ E : XK, (∀ H', Ex H H' → E (.ref (A.err x)) none H') → tb E { D with nx := tz D } σ H) : tSeq (tTryE K (A.err x) i n tb ts) tz D σ H :=
  h _ fun H' e σ' hn => ⟨true, ec.own x, fun _ a ha => ⟨rfl, rfl, hs _ a σ' H' rfl hn ha e⟩, fun q => nomatch q⟩
theorem rc_isE {x : Err} {a : Addr} {cv : Value} {c : V} {b : Bool} (hc : ∀ u, RelV c u → u = cv) (h : PySem.W.kitOne K (.ref (A.err x)) cv = some b) : RC (rIsE K (A.err x) a) [.ref a, c] H (.bl b) := fun H1 _ _ q => ⟨c, cv, b, rfl, hc, h, q H1 (Ex.refl H1)⟩
theorem rc_isET {x y1 y2 y3 : Err} {a tp : Addr} (ec : ErrC K A) (h : H tp = some (.tup [.ref (A.err y1), .ref (A.err y2), .ref (A.err y3)])) (n1 : x ≠ y1) (n2 : x ≠ y2) (n3 : x ≠ y3) : RC (rIsET K (A.err x) a) [.ref a, .ref tp] H (.bl false) := fun H1 e _ q =>
  ⟨tp, _, _, false, rfl, e _ _ h, .cons (.own _) (.cons (.own _) (.cons (.own _) .nil)), kitAny_cons (b := false) (by rw [ec.one, decide_eq_false n1]) (fun _ => kitAny_cons (b := false) (by rw [ec.one, decide_eq_false n2]) (fun _ => kitAny_cons (b := false) (by rw [ec.one, decide_eq_false n3]) (fun _ => kitAny_nil) (fun z => nomatch z)) (fun z => nomatch z)) (fun z => nomatch z), q H1 (Ex.refl H1)⟩
theorem ev_cbU {r : RCt} {ta tb : TE} {v z : V} {xs : List V} (ha : Ev ta σ H v) (hb : EvU tb σ H xs) (hr : ∀ p H1, H1 p = some (.tup xs) → Ex H H1 → RC r [v, .ref p] H1 z) : Ev (tCB r (tCons ta (tCons tb tNil))) σ H z := fun H1 e Q q =>
  ha H1 e _ fun H2 e2 => hb H2 (e.trans e2) _ fun p H3 _ e3 h3 => hr p H3 h3 ((e.trans e2).trans e3) H3 (Ex.refl H3) _ fun H4 e4 => q H4 ((e2.trans e3).trans e4)
end

/-! ### values told by what holds of them -/
def PM (P : V → Hp → Prop) : Prop := ∀ v H H', Ex H H' → P v H → P v H'
def EvP (te : TE) (σ : L2.St) (H : Hp) (P : V → Hp → Prop) : Prop := ∀ H1, Ex H H1 → ∀ Q : VK, (∀ v H2, Ex H1 H2 → P v H2 → Q v H2) → te σ H1 Q
def EvPA (ta : TA) (σ : L2.St) (H : Hp) (n : Nat) (P : V → Hp → Prop) : Prop := ∀ H1, Ex H H1 → ∀ Q : List V → Hp → Prop, (∀ vs H2, Ex H1 H2 → vs.length = n → (∀ v ∈ vs, P v H2) → Q vs H2) → ta σ H1 Q
def EvPL (te : TE) (σ : L2.St) (H : Hp) (n : Nat) (P : V → Hp → Prop) : Prop := ∀ H1, Ex H H1 → ∀ Q : VK, (∀ p vs H2, H1 p = none → Ex H1 H2 → H2 p = some (.lst vs) → vs.length = n → (∀ v ∈ vs, P v H2) → Q (.ref p) H2) → te σ H1 Q
section
variable {K : PySem.W.Frag} {A : Ads} {σ : L2.St} {H H' : Hp} {D : Ends} {tz : TS} {v v0 v1 v2 : V} {te ti t0 t1 t2 : TE} {ta : TA} {P P0 : V → Hp → Prop} {n n' : Nat} {xs : List V}
theorem evp_v (h : Ev te σ H v) (hp : ∀ H1, Ex H H1 → P v H1) : EvP te σ H P := fun H1 e Q q => h H1 e Q fun H2 e2 => q v H2 e2 (hp H2 (e.trans e2))
theorem evp_U (h : EvU te σ H xs) (hp : ∀ p H1, H1 p = some (.tup xs) → Ex H H1 → P (.ref p) H1) : EvP te σ H P := fun H1 e Q q => h H1 e Q fun p H2 _ e2 h2 => q _ H2 e2 (hp p H2 h2 (e.trans e2))
theorem evp_L (h : EvL te σ H xs) (hp : ∀ p H1, H1 p = some (.lst xs) → Ex H H1 → P (.ref p) H1) : EvP te σ H P := fun H1 e Q q => h H1 e Q fun p H2 _ e2 h2 => q _ H2 e2 (hp p H2 h2 (e.trans e2))
theorem EvP.mono (e : Ex H H') (h : EvP te σ H P) : EvP te σ H' P := fun H1 e1 Q q => h H1 (e.trans e1) Q q
theorem evpa_nil : EvPA tNil σ H 0 P := fun H1 _ Q q => q [] H1 (Ex.refl H1) rfl fun _ h => nomatch h
theorem evpa_cons (pm : PM P) (h : EvP te σ H P) (hr : EvPA ta σ H n P) : EvPA (tCons te ta) σ H (n + 1) P := fun H1 e Q q =>
  h H1 e _ fun v H2 e2 hv => hr H2 (e.trans e2) _ fun vs H3 e3 hn hvs => q (v :: vs) H3 (e2.trans e3) (by rw [List.length_cons, hn]) fun x hx => by
    rcases List.mem_cons.mp hx with rfl | hx
    · exact pm _ _ _ e3 hv
    · exact hvs x hx
theorem evpl_lst (pm : PM P) (h : EvPA ta σ H n P) (hn : n ≤ 100000) : EvPL (tLst ta) σ H n P := fun H1 e Q q =>
  h H1 e _ fun vs H2 e2 hl hv => ⟨sz_of (by omega), fun p hp => q p vs _ (fresh_back e2 hp) (e2.mut (fresh_back e2 hp)) upd_same hl fun x hx => pm _ _ _ (Ex.new hp) (hv x hx)⟩
/-- an item of a list that was just put down -/
theorem evp_ix {i : Int} (h : EvPL te σ H n P) (hi : Ev ti σ H (.int i)) (h0 : 0 ≤ i) (h1 : i < n) (pm : PM P) : EvP (tOp (rIxL K) te ti) σ H P := fun H1 e Q q =>
  h H1 e _ fun p vs H2 _ e2 hp hl hv => hi H2 (e.trans e2) _ fun H3 e3 => by
    have hj : i.toNat < vs.length := by omega
    have hx : vs[i.toNat]? = some vs[i.toNat] := List.getElem?_eq_getElem hj
    refine ⟨p, vs, i, vs[i.toNat], rfl, rfl, sq_of (e3 _ _ hp), ?_, q _ H3 (e2.trans e3) (pm _ _ _ e3 (hv _ (List.getElem_mem hj)))⟩
    have := atI_nat hx
    rw [show ((i.toNat : Nat) : Int) = i by omega] at this
    exact this
theorem evp_tup0 (h0 : EvP t0 σ H P0) (h1 : Ev t1 σ H v1) (h2 : Ev t2 σ H v2) (pm : PM P0) (hp : ∀ x p H1, P0 x H1 → H1 p = some (.tup [x, v1, v2]) → Ex H H1 → P (.ref p) H1) : EvP (tTup (tCons t0 (tCons t1 (tCons t2 tNil)))) σ H P := fun H1 e Q q =>
  h0 H1 e _ fun x H2 e2 hx => h1 H2 (e.trans e2) _ fun H3 e3 => h2 H3 ((e.trans e2).trans e3) _ fun H4 e4 => ⟨by show 3 ≤ sizeLine; decide, fun p hn => q _ _ (((e2.trans e3).trans e4).trans (Ex.new hn)) (hp x p _ (pm _ _ _ ((e3.trans e4).trans (Ex.new hn)) hx) upd_same ((((e.trans e2).trans e3).trans e4).trans (Ex.new hn)))⟩
theorem evp_tup2 (h0 : Ev t0 σ H v0) (h1 : Ev t1 σ H v1) (h2 : EvP t2 σ H P0) (pm : PM P0) (hp : ∀ x p H1, P0 x H1 → H1 p = some (.tup [v0, v1, x]) → Ex H H1 → P (.ref p) H1) : EvP (tTup (tCons t0 (tCons t1 (tCons t2 tNil)))) σ H P := fun H1 e Q q =>
  h0 H1 e _ fun H2 e2 => h1 H2 (e.trans e2) _ fun H3 e3 => h2 H3 ((e.trans e2).trans e3) _ fun x H4 e4 hx => ⟨by show 3 ≤ sizeLine; decide, fun p hn => q _ _ (((e2.trans e3).trans e4).trans (Ex.new hn)) (hp x p _ (pm _ _ _ (Ex.new hn) hx) upd_same ((((e.trans e2).trans e3).trans e4).trans (Ex.new hn)))⟩
theorem q_asgP {i : Nat} (h : EvP te σ H P) (k : ∀ v H1, Ex H H1 → P v H1 → tz D (σ.set i (some v)) H1) : tSeq (tAsg te (gName i)) tz D σ H := h H (Ex.refl H) _ fun v H1 e hv => k v H1 e hv
theorem q_asgPL {i : Nat} (h : EvPL te σ H n P) (k : ∀ p vs H1, H p = none → Ex H H1 → H1 p = some (.lst vs) → vs.length = n → (∀ v ∈ vs, P v H1) → tz D (σ.set i (some (.ref p))) H1) : tSeq (tAsg te (gName i)) tz D σ H := h H (Ex.refl H) _ fun p vs H1 hp e h1 hl hv => k p vs H1 hp e h1 hl hv
/-- a list and a new one -/
theorem evpl_cat {a : Addr} (pm : PM P) (ha : Ev t1 σ H (.ref a)) (hx : H a = some (.lst xs)) (hn : xs.length = n') (hP : ∀ v ∈ xs, P v H) (hb : EvPL t2 σ H n P) (hz : n' + n ≤ 100000) : EvPL (tOp rCat t1 t2) σ H (n' + n) P := fun H1 e Q q =>
  ha H1 e _ fun H2 e2 => hb H2 (e.trans e2) _ fun b ys H3 _ e3 h3 hl hv => by
    have e23 := (e.trans e2).trans e3
    refine ⟨a, b, xs, ys, rfl, rfl, e23 _ _ hx, h3, sz_of (by omega), fun p hp => q p (xs ++ ys) _ (fresh_back (e2.trans e3) hp) ((e2.trans e3).trans (Ex.new hp)) upd_same (by rw [List.length_append]; omega) fun v hv' => ?_⟩
    rcases List.mem_append.mp hv' with h | h
    · exact pm _ _ _ (e23.trans (Ex.new hp)) (hP v h)
    · exact pm _ _ _ (Ex.new hp) (hv v h)
end
/-! ### nets made, calls that are refused -/
section
variable {K : PySem.W.Frag} {A : Ads} {σ : L2.St} {H H' : Hp} {t1 t2 : TE}
/-- a list of ties at l -/
def LT (H : Hp) (l : Addr) (as : List Addr) (ts : List Tie) : Prop := H l = some (.lst (as.map V.ref)) ∧ TiesAt H as ts
theorem LT.mono {l : Addr} {as : List Addr} {ts : List Tie} (e : Ex H H') (h : LT H l as ts) : LT H' l as ts := ⟨e _ _ h.1, h.2.mono e⟩
def IsLT (R : Addr → List Addr → List Tie → Prop) : V → Hp → Prop := fun v H => ∃ l as ts, v = .ref l ∧ LT H l as ts ∧ R l as ts
theorem IsLT.pm {R : Addr → List Addr → List Tie → Prop} : PM (IsLT R) := fun _ _ _ e ⟨l, as, ts, r, h, q⟩ => ⟨l, as, ts, r, h.mono e, q⟩
theorem evp_var {i : Nat} {v : V} {P : V → Hp → Prop} (h : σ[i]? = some (some v)) (hp : ∀ H1, Ex H H1 → P v H1) : EvP (tVar i) σ H P := evp_v (ev_var h) hp
theorem c_net {Q : VK} {m : Nat} {R : Addr → List Addr → List Tie → Prop} (h1 : Ev t1 σ H (vi m)) (h2 : EvP t2 σ H (IsLT R)) (ok : ∀ l as ts, R l as ts → Net.Ok ⟨m, ts⟩)
    (k : ∀ x l as ts s H1, Ex H H1 → LT H1 l as ts → R l as ts → NetX A H1 x ⟨m, ts⟩ s → s.as = as → Q (.ref x) H1) : tMake A.C (sp_init K A) [] E0 (tCons t1 (tCons t2 tNil)) σ H Q :=
  h1 H (Ex.refl H) _ fun H1 e1 => h2 H1 e1 _ fun v H2 e2 ⟨l, as, ts, hv, hl, r⟩ x dx hx hdx _ => by
    subst hv
    exact ⟨H2, x, dx, vi m, .ref l, rfl, (Ex.new hdx).mut hx, hx, upd_same, kd_int, .inl ⟨m, l, as, ts, rfl, rfl, hl.1, hl.2, ok l as ts r, fun H3 s e3 N hsa _ _ _ _ => ⟨rfl, k x l as ts s H3 ((e1.trans e2).trans e3) (hl.mono e3) r N hsa⟩⟩⟩
/-- what is no net -/
def BadNet (K : PySem.W.Frag) (H : Hp) (mv tv : V) : Prop := (¬ ∃ m : Nat, mv = vi m ∧ 1 ≤ m ∧ m ≤ 24) ∨ (∃ m : Nat, mv = vi m ∧ 1 ≤ m ∧ m ≤ 24 ∧
  ((∃ ty, Vt K H tv ty ∧ kitB ty "list" = some false) ∨ ∃ l xs, tv = .ref l ∧ H l = some (.lst xs) ∧ xs.length ≤ 1000 ∧ (∀ x ∈ xs, TieK K H x) ∧ ¬ GoodTies H m xs))
/-- what is no tie of a net of so many -/
def Odd (K : PySem.W.Frag) (m : Nat) : V → Hp → Prop := fun x H => (∃ ty, Vt K H x ty ∧ kitB ty "tuple" = some false) ∨ (∃ a vs, x = .ref a ∧ H a = some (.tup vs) ∧ vs.length ≠ 3) ∨
  (∃ a v0 v1 v2, x = .ref a ∧ H a = some (.tup [v0, v1, v2]) ∧ Kd K H v0 ∧ Kd K H v1 ∧ Kd K H v2 ∧ ∀ (i j : Nat) (c : Int), v0 = vi i → v1 = vi j → v2 = .int c → ¬ okTie m (i, j, c))
theorem Odd.pm {m : Nat} : PM (Odd K m) := fun x H H' e h => by
  rcases h with ⟨ty, h, q⟩ | ⟨a, vs, rfl, h, q⟩ | ⟨a, v0, v1, v2, rfl, h, k0, k1, k2, q⟩
  · exact .inl ⟨ty, h.mono e, q⟩
  · exact .inr (.inl ⟨a, vs, rfl, e _ _ h, q⟩)
  · exact .inr (.inr ⟨a, v0, v1, v2, rfl, e _ _ h, k0.mono e, k1.mono e, k2.mono e, q⟩)
theorem Odd.kind {m : Nat} {x : V} (h : Odd K m x H) : TieK K H x := by
  rcases h with h | h | ⟨a, v0, v1, v2, r, h, k0, k1, k2, q⟩
  · exact .inl h
  · exact .inr (.inl h)
  · exact .inr (.inr ⟨a, v0, v1, v2, r, h, k0, k1, k2⟩)
theorem Odd.not {m : Nat} {x : V} {a : Addr} {t : Tie} (h : Odd K m x H) (hx : x = .ref a) (ha : H a = some (.tup (tieV t))) : ¬ okTie m t := by
  intro ok
  subst hx
  rcases h with ⟨ty, h, q⟩ | ⟨b, vs, hb, h, q⟩ | ⟨b, v0, v1, v2, hb, h, _, _, _, q⟩
  · have := vt_is_tup ha h
    subst this
    rw [kitB_self] at q
    cases q
  · cases hb
    rw [ha] at h
    cases h
    exact q rfl
  · cases hb
    rw [ha] at h
    cases h
    exact q _ _ _ rfl rfl rfl ok
theorem Odd.bad {m : Nat} {x : V} {xs : List V} (h : Odd K m x H) (hx : x ∈ xs) : ¬ GoodTies H m xs := by
  rintro ⟨as, ts, rfl, ta, _, ok⟩
  obtain ⟨a, ha, rfl⟩ := List.mem_map.mp hx
  obtain ⟨i, hi⟩ := List.mem_iff_getElem?.mp ha
  obtain ⟨t, ht, hA⟩ := ta.at_ hi
  exact h.not rfl hA (ok t (List.mem_of_getElem? ht))
/-- a make that is refused -/
theorem c_bad {Q : VK} {E : XK} {mv tv : V} {ta : TA} (h : EvA ta σ H [mv, tv]) (km : Kd K H mv) (bad : BadNet K H mv tv) (hm : ∀ {H'}, Ex H H' → BadNet K H' mv tv) (k : ∀ H', Ex H H' → E (.ref A.eNoNet) none H') : tMake A.C (sp_init K A) [] E ta σ H Q :=
  c_make (vs := [mv, tv]) h fun H1 e1 x dx hx hdx _ => ⟨H1, x, dx, mv, tv, rfl, (Ex.new hdx).mut hx, hx, upd_same, km.mono e1, .inr ⟨hm e1, fun H2 e2 => k H2 (e1.trans e2)⟩⟩
end

/-! ### k02: promises -/
def sp_l_good (_ : PySem.W.Frag) (_ : Ads) : Sp := fun vs H Q _ => ∃ (c : Int) (m : Nat), vs = [.int c, vi m] ∧ 2 ≤ m ∧ m ≤ 24 ∧
  ∀ t : Tie, okTie m t → ∀ q H', H q = none → Ex H H' → H' q = some (.tup (tieV t)) → Q (.ref q) H'
def sp_l_odd (K : PySem.W.Frag) (_ : Ads) : Sp := fun vs H Q _ => ∃ (c : Int) (m : Nat), vs = [.int c, vi m] ∧ 2 ≤ m ∧ m ≤ 24 ∧ ∀ x H', Ex H H' → Odd K m x H' → Q x H'
def sp_l_refused (K : PySem.W.Frag) (_ : Ads) : Sp := fun vs H Q _ => ∃ mv tv, vs = [mv, tv] ∧ Kd K H mv ∧ (∀ H', Ex H H' → BadNet K H' mv tv) ∧ ∀ H', Ex H H' → Q (.bl true) H'
/-- what is no side -/
def BadSide (K : PySem.W.Frag) (m : Nat) : V → Hp → Prop := fun v H => (∃ l xs, v = .ref l ∧ H l = some (.lst xs) ∧ xs.length ≤ 1000 ∧ (∀ x ∈ xs, Kd K H x) ∧ ¬ GoodSide m xs) ∨ (∃ ty, Vt K H v ty ∧ kitB ty "list" = some false)
theorem BadSide.pm {K : PySem.W.Frag} {m : Nat} : PM (BadSide K m) := fun v H H' e h => by
  rcases h with ⟨l, xs, rfl, h, hl, k, g⟩ | ⟨ty, h, q⟩
  · exact .inl ⟨l, xs, rfl, e _ _ h, hl, fun x hx => (k x hx).mono e, g⟩
  · exact .inr ⟨ty, h.mono e, q⟩
def sp_l_side_refused (K : PySem.W.Frag) (A : Ads) : Sp := fun vs H Q _ => ∃ p n s v, vs = [.ref p, v] ∧ NetX A H p n s ∧ BadSide K n.many v H ∧ ∀ H', Ex H H' → Q (.bl true) H'
abbrev sp_law (K : PySem.W.Frag) (_ : Ads) : Sp := spLaw K
section
variable (K : PySem.W.Frag) (A : Ads)
theorem len_l_good : ∀ vs H Q E, sp_l_good K A vs H Q E → vs.length = (["_law_cell", "_law_many"] : List Str).length := by
  rintro _ _ _ _ ⟨_, _, rfl, _⟩; rfl
theorem len_l_odd : ∀ vs H Q E, sp_l_odd K A vs H Q E → vs.length = (["_law_cell", "_law_many"] : List Str).length := by
  rintro _ _ _ _ ⟨_, _, rfl, _⟩; rfl
theorem len_l_refused : ∀ vs H Q E, sp_l_refused K A vs H Q E → vs.length = (["_law_many", "_law_ties"] : List Str).length := by
  rintro _ _ _ _ ⟨_, _, rfl, _⟩; rfl
theorem len_l_side_refused : ∀ vs H Q E, sp_l_side_refused K A vs H Q E → vs.length = (["_law_net", "_law_side"] : List Str).length := by
  rintro _ _ _ _ ⟨_, _, _, _, rfl, _⟩; rfl
theorem len_law : ∀ vs H Q E, sp_law K A vs H Q E → vs.length = (["_law_script"] : List Str).length := by
  rintro _ _ _ _ ⟨_, _, rfl, _⟩; rfl
end

def t_l_good (K : PySem.W.Frag) (A : Ads) : TS :=
  (tSeq (tAsg (tOp rMod (tVar 0) (tVar 1)) (gName 2))
    (tRet (tTup (tCons (tVar 2) (tCons (tOp rMod (tOp rPlus (tOp rPlus (tVar 2) (tC (.int 1))) (tOp rMod (tOp rFdiv (tVar 0) (tC (.int 24))) (tOp rMinus (tVar 1) (tC (.int 1))))) (tVar 1)) (tCons (tOp rPlus (tC (.int 1)) (tOp rMod (tOp rFdiv (tVar 0) (tC (.int 600))) (tC (.int 1000000000)))) tNil))))))

def t_l_odd (K : PySem.W.Frag) (A : Ads) : TS :=
  (tSeq (tAsg (tLst (tCons (tTup (tCons (tC (.int 0)) (tCons (tC (.int 0)) (tCons (tC (.int 1)) tNil)))) (tCons (tTup (tCons (tC (.int 0)) (tCons (tVar 1) (tCons (tC (.int 1)) tNil)))) (tCons (tTup (tCons (tVar 1) (tCons (tC (.int 0)) (tCons (tC (.int 1)) tNil)))) (tCons (tTup (tCons (tUn rNeg (tC (.int 1))) (tCons (tC (.int 0)) (tCons (tC (.int 1)) tNil)))) (tCons (tTup (tCons (tC (.int 0)) (tCons (tUn rNeg (tC (.int 1))) (tCons (tC (.int 1)) tNil)))) (tCons (tTup (tCons (tC (.int 0)) (tCons (tC (.int 1)) (tCons (tC (.int 0)) tNil)))) (tCons (tTup (tCons (tC (.int 0)) (tCons (tC (.int 1)) (tCons (tUn rNeg (tC (.int 5))) tNil)))) (tCons (tTup (tCons (tC (.int 0)) (tCons (tC (.int 1)) (tCons (tC (.int 1000000001)) tNil)))) tNil))))))))) (gName 2))
    (tSeq (tAsg (tOp rCat (tVar 2) (tLst (tCons (tTup (tCons (tC (.int 0)) (tCons (tC (.int 1)) (tCons (tC (.bl true)) tNil)))) (tCons (tTup (tCons (tC (.bl true)) (tCons (tC (.int 0)) (tCons (tC (.int 1)) tNil)))) (tCons (tTup (tCons (tC (.int 0)) (tCons (tC (.int 1)) tNil))) (tCons (tTup (tCons (tC (.int 0)) (tCons (tC (.int 1)) (tCons (tC (.int 1)) (tCons (tC (.int 1)) tNil))))) (tCons (tLst (tCons (tC (.int 0)) (tCons (tC (.int 1)) (tCons (tC (.int 1)) tNil)))) (tCons (tC .non) (tCons (tC (.int 7)) (tCons (tTup (tCons (tC (.str "0")) (tCons (tC (.int 1)) (tCons (tC (.int 1)) tNil)))) (tCons (tTup (tCons (tC (.int 0)) (tCons (tC (.int 1)) (tCons (tC (.str "1")) tNil)))) tNil))))))))))) (gName 2))
    (tSeq (tAsg (tOp rCat (tVar 2) (tLst (tCons (tTup (tCons (tOp rMinus (tVar 1) (tC (.int 1))) (tCons (tOp rMinus (tVar 1) (tC (.int 1))) (tCons (tC (.int 9)) tNil)))) (tCons (tTup (tCons (tC (.int 0)) (tCons (tC (.bl true)) (tCons (tC (.int 1)) tNil)))) (tCons (tTup (tCons (tC (.int 1)) (tCons (tC (.bl false)) (tCons (tC (.int 1)) tNil)))) (tCons (tTup (tCons (tC (.bl false)) (tCons (tC (.int 1)) (tCons (tC (.int 1)) tNil)))) (tCons (tTup (tCons (tC (.int 0)) (tCons (tC (.str "1")) (tCons (tC (.int 1)) tNil)))) tNil))))))) (gName 2))
    (tSeq (tAsg (tOp rCat (tVar 2) (tLst (tCons (tTup (tCons (tLst (tCons (tC (.int 0)) tNil)) (tCons (tC (.int 1)) (tCons (tC (.int 5)) tNil)))) (tCons (tTup (tCons (tC (.int 0)) (tCons (tC (.int 1)) (tCons (tTup (tCons (tC (.int 5)) tNil)) tNil)))) tNil)))) (gName 2))
    (tRet (tOp (rIxL K) (tVar 2) (tOp rMod (tVar 0) (tC (.int 24)))))))))

def t_l_refused (K : PySem.W.Frag) (A : Ads) : TS :=
  (tSeq (tTryE K A.eNoNet 2 3 (fun EW => (tDrop (tMake A.C (sp_init K A) [] EW (tCons (tVar 0) (tCons (tVar 1) tNil))))) (fun ea => (tSeq (tIfS (tB (tCB (rIsET K A.eNoNet ea) (tCons (tVar 2) (tCons (tTup (tCons (tC (.ref A.eNoPlace)) (tCons (tC (.ref A.eNoSide)) (tCons (tC (.ref A.eNoText)) tNil)))) tNil)))) (tRet (tC (.bl false))) tNext)
    (tRet (tAndV (tCB (rIsE K A.eNoNet ea) (tCons (tVar 2) (tCons (tC (.ref A.eWallError)) tNil))) (tCB (rIsE K A.eNoNet ea) (tCons (tVar 2) (tCons (tC (.ty "ValueError")) tNil))))))))
    (tRet (tC (.bl false))))

def t_l_side_refused (K : PySem.W.Frag) (A : Ads) : TS :=
  (tSeq (tTryE K A.eNoSide 2 3 (fun EW => (tDrop (tMeth A.C "price" (sp_price K A) [] EW (tVar 0) (tCons (tVar 1) tNil)))) (fun ea => (tSeq (tIfS (tB (tCB (rIsET K A.eNoSide ea) (tCons (tVar 2) (tCons (tTup (tCons (tC (.ref A.eNoNet)) (tCons (tC (.ref A.eNoPlace)) (tCons (tC (.ref A.eNoText)) tNil)))) tNil)))) (tRet (tC (.bl false))) tNext)
    (tRet (tAndV (tCB (rIsE K A.eNoSide ea) (tCons (tVar 2) (tCons (tC (.ref A.eWallError)) tNil))) (tCB (rIsE K A.eNoSide ea) (tCons (tVar 2) (tCons (tC (.ty "ValueError")) tNil))))))))
    (tRet (tC (.bl false))))

def t_law (K : PySem.W.Frag) (A : Ads) : TS :=
  (tSeq (tAsg (tOp (rIxL K) (tLst (tCons (tC (.int 0)) (tCons (tC (.int 1)) (tCons (tC (.int 1)) (tCons (tC (.int 1)) (tCons (tC (.int 1)) (tCons (tC (.int 2)) (tCons (tC (.int 3)) (tCons (tC (.int 4)) (tCons (tC (.int 5)) tNil)))))))))) (tOp rMod (tCall (sp_l_cell_at K A) [] E0 (tCons (tVar 0) (tCons (tC (.int 0)) tNil))) (tC (.int 9)))) (gName 1))
    (tSeq (tAsg (tOp rPlus (tC (.int 2)) (tOp rMod (tOp rFdiv (tCall (sp_l_cell_at K A) [] E0 (tCons (tVar 0) (tCons (tC (.int 0)) tNil))) (tC (.int 9))) (tC (.int 23)))) (gName 2))
    (tSeq (tAsg (tLc (iList K (tSl (rSlL K) (tVar 0) (tPart (tC (.int 3))) (tPart (tC (.int 43))))) (gName 11) tYes (tCall (sp_l_good K A) [] E0 (tCons (tVar 11) (tCons (tVar 2) tNil))) [11]) (gName 3))
    (tSeq (tIfS (tTest (tOp rEq (tVar 1) (tC (.int 0)))) (tSeq (tAsg (tOp (rIxL K) (tLst (tCons (tC (.int 0)) (tCons (tC (.int 25)) (tCons (tOp rMinus (tUn rNeg (tC (.int 1))) (tVar 2)) (tCons (tOp rPow (tC (.int 10)) (tC (.int 20))) (tCons (tC (.bl true)) (tCons (tC (.str "3")) (tCons (tC .non) (tCons (tLst (tCons (tC (.int 2)) tNil)) tNil))))))))) (tOp rMod (tCall (sp_l_cell_at K A) [] E0 (tCons (tVar 0) (tCons (tC (.int 1)) tNil))) (tC (.int 8)))) (gName 4))
    (tSeq (tAsg (tMake A.C (sp_init K A) [] E0 (tCons (tC (.int 2)) (tCons (tLst (tCons (tTup (tCons (tC (.int 1)) (tCons (tC (.int 0)) (tCons (tC (.int 1000000000)) tNil)))) tNil)) tNil))) (gName 5))
    (tSeq (tIfS (tOr (tTest (tOp (rNeD K) (tMeth A.C "ties" (sp_ties K A) [] E0 (tVar 5) tNil) (tLst (tCons (tTup (tCons (tC (.int 1)) (tCons (tC (.int 0)) (tCons (tC (.int 1000000000)) tNil)))) tNil)))) (tNot (tB (tCall (sp_l_refused K A) [] E0 (tCons (tC (.int 2)) (tCons (tLst (tCons (tTup (tCons (tC (.int 1)) (tCons (tC (.int 0)) (tCons (tC (.int 1000000001)) tNil)))) tNil)) tNil)))))) (tRet (tC (.bl false))) tNext)
    (tRet (tAndV (tCall (sp_l_refused K A) [] E0 (tCons (tVar 4) (tCons (tLst tNil) tNil))) (tAndV (tOp rEq (tFld K (tMake A.C (sp_init K A) [] E0 (tCons (tC (.int 1)) (tCons (tLst tNil) tNil))) "many") (tC (.int 1))) (tOp rEq (tFld K (tMake A.C (sp_init K A) [] E0 (tCons (tC (.int 24)) (tCons (tLst tNil) tNil))) "many") (tC (.int 24))))))))) tNext)
    (tSeq (tIfS (tTest (tOp rEq (tVar 1) (tC (.int 1)))) (tSeq (tDrop (tBM K "list" rInsert (tVar 3) (tCons (tOp rMod (tCall (sp_l_cell_at K A) [] E0 (tCons (tVar 0) (tCons (tC (.int 1)) tNil))) (tOp rPlus (tCB (rLenS K) (tCons (tVar 3) tNil)) (tC (.int 1)))) (tCons (tCall (sp_l_odd K A) [] E0 (tCons (tCall (sp_l_cell_at K A) [] E0 (tCons (tVar 0) (tCons (tC (.int 2)) tNil))) (tCons (tVar 2) tNil))) tNil))))
    (tRet (tCall (sp_l_refused K A) [] E0 (tCons (tVar 2) (tCons (tVar 3) tNil))))) tNext)
    (tSeq (tIfS (tTest (tOp rEq (tVar 1) (tC (.int 2)))) (tSeq (tAsg (tLc (iRng1 (tCons (tC (.int 300)) tNil)) (gName 12) tYes (tCall (sp_l_good K A) [] E0 (tCons (tOp rPlus (tCall (sp_l_cell_at K A) [] E0 (tCons (tVar 0) (tCons (tC (.int 2)) tNil))) (tOp rTimes (tC (.int 7)) (tVar 12))) (tCons (tVar 2) tNil))) [12]) (gName 3))
    (tRet (tAndV (tOp (rEqD K) (tMeth A.C "ties" (sp_ties K A) [] E0 (tMake A.C (sp_init K A) [] E0 (tCons (tVar 2) (tCons (tVar 3) tNil))) tNil) (tVar 3)) (tCall (sp_l_refused K A) [] E0 (tCons (tVar 2) (tCons (tOp rCat (tVar 3) (tLst (tCons (tTup (tCons (tC (.int 0)) (tCons (tC (.int 1)) (tCons (tC (.int 1)) tNil)))) tNil))) tNil)))))) tNext)
    (tSeq (tIfS (tTest (tOp rEq (tVar 1) (tC (.int 3)))) (tRet (tCall (sp_l_refused K A) [] E0 (tCons (tVar 2) (tCons (tOp (rIxL K) (tLst (tCons (tCB (rTupS K) (tCons (tVar 3) tNil)) (tCons (tC .non) (tCons (tC (.str "ab")) (tCons (tC (.int 5)) (tCons tDNewK tNil)))))) (tOp rMod (tCall (sp_l_cell_at K A) [] E0 (tCons (tVar 0) (tCons (tC (.int 1)) tNil))) (tC (.int 5)))) tNil)))) tNext)
    (tSeq (tAsg (tMake A.C (sp_init K A) [] E0 (tCons (tVar 2) (tCons (tVar 3) tNil))) (gName 6))
    (tSeq (tAsg (tOp rMod (tCall (sp_l_cell_at K A) [] E0 (tCons (tVar 0) (tCons (tC (.int 1)) tNil))) (tVar 2)) (gName 7))
    (tSeq (tAsg (tLc (iRng1 (tCons (tVar 2) tNil)) (gName 13) (tAnd (tTest (tOp rNe (tVar 13) (tVar 7))) (tTest (tOp rEq (tOp rMod (tOp rFdiv (tCall (sp_l_cell_at K A) [] E0 (tCons (tVar 0) (tCons (tC (.int 2)) tNil))) (tOp rPlus (tC (.int 2)) (tVar 13))) (tC (.int 2))) (tC (.int 0))))) (tVar 13) [13]) (gName 8))
    (tSeq (tAsg (tOp rMod (tOp rFdiv (tCall (sp_l_cell_at K A) [] E0 (tCons (tVar 0) (tCons (tC (.int 1)) tNil))) (tC (.int 24))) (tOp rPlus (tCB (rLenS K) (tCons (tVar 8) tNil)) (tC (.int 1)))) (gName 9))
    (tSeq (tAsg (tOp (rIxL K) (tLst (tCons (tVar 2) (tCons (tUn rNeg (tC (.int 1))) (tCons (tOp rPow (tC (.int 10)) (tC (.int 20))) (tCons (tC (.bl true)) (tCons (tC (.bl false)) (tCons (tC (.str "1")) (tCons (tC .non) (tCons (tLst (tCons (tC (.int 0)) tNil)) (tCons (tTup (tCons (tC (.int 0)) tNil)) tNil)))))))))) (tOp rMod (tCall (sp_l_cell_at K A) [] E0 (tCons (tVar 0) (tCons (tC (.int 2)) tNil))) (tC (.int 9)))) (gName 10))
    (tSeq (tIfS (tTest (tOp rEq (tVar 1) (tC (.int 4)))) (tSeq (tIfS (tNot (tB (tCall (sp_l_side_refused K A) [] E0 (tCons (tVar 6) (tCons (tOp rCat (tOp rCat (tLst (tCons (tVar 7) tNil)) (tVar 8)) (tLst (tCons (tVar 7) tNil))) tNil))))) (tRet (tC (.bl false))) tNext)
    (tRet (tCall (sp_l_side_refused K A) [] E0 (tCons (tVar 6) (tCons (tOp rCat (tOp rCat (tSl (rSlL K) (tVar 8) tNoPart (tPart (tVar 9))) (tLst (tCons (tVar 10) tNil))) (tSl (rSlL K) (tVar 8) (tPart (tVar 9)) tNoPart)) tNil))))) tNext)
    (tRet (tCall (sp_l_side_refused K A) [] E0 (tCons (tVar 6) (tCons (tOp (rIxL K) (tLst (tCons (tCB (rTupS K) (tCons (tVar 8) tNil)) (tCons (tC .non) (tCons (tC (.str "01")) (tCons (tC (.int 3)) tNil))))) (tOp rMod (tCall (sp_l_cell_at K A) [] E0 (tCons (tVar 0) (tCons (tC (.int 2)) tNil))) (tC (.int 4)))) tNil)))))))))))))))))

section
variable {K : PySem.W.Frag} {A : Ads}
/-- the suite that both calls share -/
theorem suite_ret {σ : L2.St} {H : Hp} {D : Ends} {Q : VK} {x y1 y2 y3 : Err} {a : Addr} {i : Nat} (ec : ErrC K A) (hv : σ[i]? = some (some (.ref a))) (n1 : x ≠ y1) (n2 : x ≠ y2) (n3 : x ≠ y3) (hD : D.rt = Q) (k : ∀ H', Ex H H' → Q (.bl true) H') :
    tSeq (tIfS (tB (tCB (rIsET K (A.err x) a) (tCons (tVar i) (tCons (tTup (tCons (tC (.ref (A.err y1))) (tCons (tC (.ref (A.err y2))) (tCons (tC (.ref (A.err y3))) tNil)))) tNil)))) (tRet (tC (.bl false))) tNext)
      (tRet (tAndV (tCB (rIsE K (A.err x) a) (tCons (tVar i) (tCons (tC (.ref A.eWallError)) tNil))) (tCB (rIsE K (A.err x) a) (tCons (tVar i) (tCons (tC (.ty "ValueError")) tNil))))) D σ H := by
  refine q_skip (et_B (ev_cbU (ev_var hv) (eu_tup (ea_cons ev_c (ea_cons ev_c (ea_cons ev_c ea_nil))) (by show 3 ≤ 100000; decide)) fun p H1 hp e => rc_isET ec hp n1 n2 n3)) fun H1 e1 => ?_
  refine s_ret (v := .bl true) (ev_is (ev_andV (a := true) (b := true) (ev_cb (ea_cons (ev_var hv) (ea_cons ev_c ea_nil)) (rc_isE (fun u r => r) (ec.wall x))) fun _ => ev_cb (ea_cons (ev_var hv) (ea_cons ev_c ea_nil)) (rc_isE (fun u r => r) (ec.val x))) rfl) fun H2 e2 => ?_
  rw [hD]
  exact k H2 (e1.trans e2)
theorem pure_l_refused (ec : ErrC K A) (vs : List V) (H : Hp) (Q : VK) (E : XK) (h : sp_l_refused K A vs H Q E) : t_l_refused K A { nx := fun _ H' => Q .non H', rt := Q } (start ["_law_many", "_law_ties", "e"] vs) H := by
  obtain ⟨mv, tv, rfl, km, bad, k⟩ := h
  unfold t_l_refused
  show tSeq _ _ _ [some mv, some tv, none] H
  refine q_tryE (x := .net) (K := K) (A := A) ec (fun D' a σ' H' hD hn ha e => ?_) fun E' hE => ?_
  · match σ', hn with
    | [s0, s1, s2], _ => exact suite_ret (x := .net) (y1 := .place) (y2 := .side) (y3 := .text) ec rfl (by decide) (by decide) (by decide) hD fun H2 e2 => k H2 (e.trans e2)
  · exact s_drop0 (c_bad (ea_cons (ev_var rfl) (ea_cons (ev_var rfl) ea_nil)) km (bad H (Ex.refl H)) (fun e => bad _ e) fun H2 e2 => hE H2 e2)
theorem pure_l_side_refused (ec : ErrC K A) (vs : List V) (H : Hp) (Q : VK) (E : XK) (h : sp_l_side_refused K A vs H Q E) : t_l_side_refused K A { nx := fun _ H' => Q .non H', rt := Q } (start ["_law_net", "_law_side", "e"] vs) H := by
  obtain ⟨p, n, s, v, rfl, N, bad, k⟩ := h
  unfold t_l_side_refused
  show tSeq _ _ _ [some (.ref p), some v, none] H
  refine q_tryE (x := .side) (K := K) (A := A) ec (fun D' a σ' H' hD hn ha e => ?_) fun E' hE => ?_
  · match σ', hn with
    | [s0, s1, s2], _ => exact suite_ret (x := .side) (y1 := .net) (y2 := .place) (y3 := .text) ec rfl (by decide) (by decide) (by decide) hD fun H2 e2 => k H2 (e.trans e2)
  · refine s_drop0 (c_meth (vs := [v]) (ev_var rfl) N.ob (by walk_at "lk") (ea_cons (ev_var rfl) ea_nil) fun H1 e1 => ⟨p, n, s, v, rfl, N.mono e1, ?_⟩)
    rcases BadSide.pm v _ _ e1 bad with ⟨l, xs, rfl, h, hl, kx, g⟩ | ⟨ty, h, q⟩
    · exact .inl ⟨l, xs, rfl, h, hl, kx, fun side hx nd hs => absurd ⟨side, hx, nd, hs⟩ g, fun _ H2 e2 => hE H2 (e1.trans e2)⟩
    · exact .inr ⟨ty, h, q, fun H2 e2 => hE H2 (e1.trans e2)⟩
theorem pure_l_good (vs : List V) (H : Hp) (Q : VK) (E : XK) (h : sp_l_good K A vs H Q E) : t_l_good K A { nx := fun _ H' => Q .non H', rt := Q } (start ["_law_cell", "_law_many", "_law_one"] vs) H := by
  obtain ⟨c, m, rfl, m1, m2, k⟩ := h
  unfold t_l_good
  show tSeq _ _ _ [some (.int c), some (.int (m : Int)), none] H
  have hone := Int.emod_nonneg c (show (m : Int) ≠ 0 by omega)
  have hone' := Int.emod_lt_of_pos c (show (0 : Int) < m by omega)
  refine q_asg (v := .int (c % (m : Int))) (by walk_at "ev") fun H1 e1 => ?_
  show tRet _ _ [some (.int c), some (.int (m : Int)), some (.int (c % (m : Int)))] H1
  generalize c % (m : Int) = one at hone hone'
  have hr := Int.emod_nonneg (c / 24) (show (m : Int) - 1 ≠ 0 by omega)
  have hr' := Int.emod_lt_of_pos (c / 24) (show (0 : Int) < (m : Int) - 1 by omega)
  have hoth : ∃ other : Int, (one + 1 + c / 24 % ((m : Int) - 1)) % (m : Int) = other ∧ 0 ≤ other ∧ other < m ∧ other ≠ one := by
    generalize c / 24 % ((m : Int) - 1) = r at hr hr'
    refine ⟨_, rfl, Int.emod_nonneg _ (by omega), Int.emod_lt_of_pos _ (by omega), fun q => ?_⟩
    by_cases hlt : one + 1 + r < m
    · rw [Int.emod_eq_of_lt (by omega) hlt] at q
      omega
    · rw [← Int.sub_emod_right, Int.emod_eq_of_lt (by omega) (by omega)] at q
      omega
  obtain ⟨other, ho, h0, h1, h2⟩ := hoth
  have hp := Int.emod_nonneg (c / 600) (show (1000000000 : Int) ≠ 0 by omega)
  have hp' := Int.emod_lt_of_pos (c / 600) (show (0 : Int) < 1000000000 by omega)
  refine s_retU (xs := tieV (one.toNat, other.toNat, 1 + c / 600 % 1000000000)) ?_ fun q H3 hq e3 h3 => k _ ⟨by show one.toNat < m; omega, by show other.toNat < m; omega, by show one.toNat ≠ other.toNat; omega, by show 1 ≤ 1 + c / 600 % 1000000000; omega, by show 1 + c / 600 % 1000000000 ≤ 1000000000; omega⟩ q H3 (fresh_back e1 hq) (e1.trans e3) h3
  have q1 : ((one.toNat : Nat) : Int) = one := by omega
  have q2 : ((other.toNat : Nat) : Int) = other := by omega
  unfold tieV vi
  rw [q1, q2]
  refine eu_tup (ea_cons (ev_var rfl) (ea_cons (ev_is (ev_op (x := .int (one + 1 + c / 24 % ((m : Int) - 1))) (y := .int (m : Int)) (by walk_at "ev") (ev_var rfl) (rv_mod (by omega))) (by rw [ho])) (ea_cons (by walk_at "ev") ea_nil))) (by show 3 ≤ 100000; decide)
/-! things that are no ties -/
theorem odd_tup {H : Hp} {m : Nat} {p : Addr} {v0 v1 v2 : V} (h : H p = some (.tup [v0, v1, v2])) (k0 : Kd K H v0) (k1 : Kd K H v1) (k2 : Kd K H v2) (q : ∀ (i j : Nat) (c : Int), v0 = vi i → v1 = vi j → v2 = .int c → ¬ okTie m (i, j, c)) : Odd K m (.ref p) H := .inr (.inr ⟨p, v0, v1, v2, rfl, h, k0, k1, k2, q⟩)
theorem odd_int {H : Hp} {m : Nat} {p : Addr} {a b c : Int} (h : H p = some (.tup [.int a, .int b, .int c])) (q : ¬ (0 ≤ a ∧ a < m ∧ 0 ≤ b ∧ b < m ∧ a ≠ b ∧ 1 ≤ c ∧ c ≤ 1000000000)) : Odd K m (.ref p) H :=
  odd_tup h kd_int kd_int kd_int fun i j d h0 h1 h2 ok => q (by
    have e0 := V.int.inj h0
    have e1 := V.int.inj h1
    have e2 := V.int.inj h2
    obtain ⟨a1, a2, a3, a4, a5⟩ := ok
    have a1 : i < m := a1
    have a2 : j < m := a2
    have a3 : i ≠ j := a3
    have a4 : 1 ≤ d := a4
    have a5 : d ≤ 1000000000 := a5
    subst e0 e1 e2
    refine ⟨by omega, by omega, by omega, by omega, by omega, by omega, by omega⟩)
theorem kd_ref3 {H : Hp} {p : Addr} {xs : List V} (h : H p = some (.lst xs)) : Kd K H (.ref p) := kd_lst h
theorem evp_i3 {σ : L2.St} {H : Hp} {t0 t1 t2 : TE} {m : Nat} {a b c : Int} (h0 : Ev t0 σ H (.int a)) (h1 : Ev t1 σ H (.int b)) (h2 : Ev t2 σ H (.int c)) (q : ¬ (0 ≤ a ∧ a < m ∧ 0 ≤ b ∧ b < m ∧ a ≠ b ∧ 1 ≤ c ∧ c ≤ 1000000000)) : EvP (tTup (tCons t0 (tCons t1 (tCons t2 tNil)))) σ H (Odd K m) :=
  evp_U (eu_tup (ea_cons h0 (ea_cons h1 (ea_cons h2 ea_nil))) (by show 3 ≤ 100000; decide)) fun p H1 hp e => odd_int hp q
/-- one of the three is no whole number -/
def notI : V → Prop
  | .int _ => False
  | _ => True
theorem evp_k3 {σ : L2.St} {H : Hp} {v0 v1 v2 : V} {m : Nat} (k0 : ∀ H, Kd K H v0) (k1 : ∀ H, Kd K H v1) (k2 : ∀ H, Kd K H v2) (q : notI v0 ∨ notI v1 ∨ notI v2) : EvP (tTup (tCons (tC v0) (tCons (tC v1) (tCons (tC v2) tNil)))) σ H (Odd K m) :=
  evp_U (eu_tup (ea_cons ev_c (ea_cons ev_c (ea_cons ev_c ea_nil))) (by show 3 ≤ 100000; decide)) fun p H1 hp e => odd_tup hp (k0 _) (k1 _) (k2 _) fun i j c h0 h1 h2 _ => by
    subst h0 h1 h2
    rcases q with q | q | q <;> exact q
theorem ev_neg1 {σ : L2.St} {H : Hp} {i : Int} : Ev (tUn rNeg (tC (.int i))) σ H (.int (-i)) := ev_un ev_c ru_neg
theorem pure_l_odd (vs : List V) (H : Hp) (Q : VK) (E : XK) (h : sp_l_odd K A vs H Q E) : t_l_odd K A { nx := fun _ H' => Q .non H', rt := Q } (start ["_law_cell", "_law_many", "_law_some"] vs) H := by
  obtain ⟨c, m, rfl, m1, m2, k⟩ := h
  unfold t_l_odd
  show tSeq _ _ _ [some (.int c), some (.int (m : Int)), none] H
  have pm : PM (Odd K m) := Odd.pm
  have i0 : ∀ {H : Hp} {i : Int}, Kd K H (.int i) := kd_int
  refine q_asgPL (n := 8) (P := Odd K m) (evpl_lst pm (evpa_cons pm (evp_i3 (a := 0) (b := 0) (c := 1) ev_c ev_c ev_c (by omega)) (evpa_cons pm (evp_i3 (a := 0) (b := m) (c := 1) ev_c (ev_var rfl) ev_c (by omega)) (evpa_cons pm (evp_i3 (a := m) (b := 0) (c := 1) (ev_var rfl) ev_c ev_c (by omega))
    (evpa_cons pm (evp_i3 (b := 0) (c := 1) ev_neg1 ev_c ev_c (by omega)) (evpa_cons pm (evp_i3 (a := 0) (c := 1) ev_c ev_neg1 ev_c (by omega)) (evpa_cons pm (evp_i3 (a := 0) (b := 1) (c := 0) ev_c ev_c ev_c (by omega)) (evpa_cons pm (evp_i3 (a := 0) (b := 1) ev_c ev_c ev_neg1 (by omega))
    (evpa_cons pm (evp_i3 (a := 0) (b := 1) (c := 1000000001) ev_c ev_c ev_c (by omega)) evpa_nil)))))))) (by decide)) fun l1 x1 H1 hl1 e1 h1 n1 p1 => ?_
  show tSeq _ _ _ [some (.int c), some (.int (m : Int)), some (.ref l1)] H1
  refine q_asgPL (n := 8 + 9) (P := Odd K m) (evpl_cat pm (ev_var rfl) h1 n1 p1 (evpl_lst pm (evpa_cons pm (evp_k3 (fun _ => kd_int) (fun _ => kd_int) (fun _ => kd_bl) (.inr (.inr trivial))) (evpa_cons pm (evp_k3 (fun _ => kd_bl) (fun _ => kd_int) (fun _ => kd_int) (.inl trivial))
    (evpa_cons pm (evp_U (eu_tup (ea_cons ev_c (ea_cons ev_c ea_nil)) (by show 2 ≤ 100000; decide)) fun p G hp _ => .inr (.inl ⟨p, _, rfl, hp, by decide⟩)) (evpa_cons pm (evp_U (eu_tup (ea_cons ev_c (ea_cons ev_c (ea_cons ev_c (ea_cons ev_c ea_nil)))) (by show 4 ≤ 100000; decide)) fun p G hp _ => .inr (.inl ⟨p, _, rfl, hp, by decide⟩))
    (evpa_cons pm (evp_L (el_lst (ea_cons ev_c (ea_cons ev_c (ea_cons ev_c ea_nil))) (by show 3 ≤ 100000; decide)) fun p G hp _ => .inl ⟨"list", vt_lst hp, by decide +kernel⟩) (evpa_cons pm (evp_v ev_c fun G _ => .inl ⟨"NoneType", vt_non, by decide +kernel⟩) (evpa_cons pm (evp_v ev_c fun G _ => .inl ⟨"int", vt_int, by decide +kernel⟩)
    (evpa_cons pm (evp_k3 (fun _ => kd_str) (fun _ => kd_int) (fun _ => kd_int) (.inl trivial)) (evpa_cons pm (evp_k3 (fun _ => kd_int) (fun _ => kd_int) (fun _ => kd_str) (.inr (.inr trivial))) evpa_nil))))))))) (by decide)) (by decide)) fun l2 x2 H2 hl2 e2 h2 n2 p2 => ?_
  show tSeq _ _ _ [some (.int c), some (.int (m : Int)), some (.ref l2)] H2
  refine q_asgPL (n := 8 + 9 + 5) (P := Odd K m) (evpl_cat pm (ev_var rfl) h2 n2 p2 (evpl_lst pm (evpa_cons pm (evp_i3 (a := (m : Int) - 1) (b := (m : Int) - 1) (c := 9) (ev_op (x := .int (m : Int)) (ev_var rfl) ev_c rv_minus) (ev_op (x := .int (m : Int)) (ev_var rfl) ev_c rv_minus) ev_c (by omega)) (evpa_cons pm (evp_k3 (fun _ => kd_int) (fun _ => kd_bl) (fun _ => kd_int) (.inr (.inl trivial)))
    (evpa_cons pm (evp_k3 (fun _ => kd_int) (fun _ => kd_bl) (fun _ => kd_int) (.inr (.inl trivial))) (evpa_cons pm (evp_k3 (fun _ => kd_bl) (fun _ => kd_int) (fun _ => kd_int) (.inl trivial)) (evpa_cons pm (evp_k3 (fun _ => kd_int) (fun _ => kd_str) (fun _ => kd_int) (.inr (.inl trivial))) evpa_nil))))) (by decide)) (by decide)) fun l3 x3 H3 hl3 e3 h3 n3 p3 => ?_
  show tSeq _ _ _ [some (.int c), some (.int (m : Int)), some (.ref l3)] H3
  refine q_asgPL (n := 8 + 9 + 5 + 2) (P := Odd K m) (evpl_cat pm (ev_var rfl) h3 n3 p3 (evpl_lst pm (evpa_cons pm (evp_tup0 (P0 := fun v G => ∃ q, v = .ref q ∧ G q = some (.lst [.int 0])) (evp_L (el_lst (ea_cons ev_c ea_nil) (by show 1 ≤ 100000; decide)) fun p G hp _ => ⟨p, rfl, hp⟩) ev_c ev_c (fun _ _ _ e ⟨q, r, h⟩ => ⟨q, r, e _ _ h⟩) fun x p G ⟨q, hx, hq⟩ hp _ => by
      subst hx
      exact odd_tup hp (kd_lst hq) kd_int kd_int fun i j c h0 _ _ _ => nomatch h0)
    (evpa_cons pm (evp_tup2 (P0 := fun v G => ∃ q, v = .ref q ∧ G q = some (.tup [.int 5])) ev_c ev_c (evp_U (eu_tup (ea_cons ev_c ea_nil) (by show 1 ≤ 100000; decide)) fun p G hp _ => ⟨p, rfl, hp⟩) (fun _ _ _ e ⟨q, r, h⟩ => ⟨q, r, e _ _ h⟩) fun x p G ⟨q, hx, hq⟩ hp _ => by
      subst hx
      exact odd_tup hp kd_int kd_int (kd_tup hq) fun i j c _ _ h2 _ => nomatch h2) evpa_nil)) (by decide)) (by decide)) fun l4 x4 H4 hl4 e4 h4 n4 p4 => ?_
  show tRet _ _ [some (.int c), some (.int (m : Int)), some (.ref l4)] H4
  have hc := Int.emod_nonneg c (show (24 : Int) ≠ 0 by omega)
  have hc' := Int.emod_lt_of_pos c (show (0 : Int) < 24 by omega)
  have hj : (c % 24).toNat < x4.length := by rw [n4]; omega
  have hx : x4[(c % 24).toNat]? = some x4[(c % 24).toNat] := List.getElem?_eq_getElem hj
  refine s_ret (v := x4[(c % 24).toNat]) (ev_op (x := .ref l4) (y := .int (c % 24)) (ev_var rfl) (ev_op (x := .int c) (ev_var rfl) ev_c (rv_mod (by omega))) (rv_ixL (sq_of h4) ?_)) fun H5 e5 => k _ H5 ((((e1.trans e2).trans e3).trans e4).trans e5) (pm _ _ _ e5 (p4 _ (List.getElem_mem hj)))
  have := atI_nat hx
  rw [show (((c % 24).toNat : Nat) : Int) = c % 24 by omega] at this
  exact this
end

section
variable {K : PySem.W.Frag} {A : Ads} {σ : L2.St} {H H' : Hp} {D : Ends} {tz : TS} {v v1 z : V} {te ti t0 t1 t2 : TE} {P : V → Hp → Prop} {xs ys : List V}
/-- a list told again: what else stands keeps its type -/
theorem Vt.told {l : Addr} {x : V} {ty : String} (h : Vt K H x ty) (hl : H l = some (.lst xs)) : Vt K (upd H l (.lst ys)) x ty := by
  have ne : ∀ {b : Addr} {o : HO}, H b = some o → (∀ zs, o ≠ .lst zs) → upd H l (.lst ys) b = some o := fun {b o} hb ho => (upd_ne (fun q => by
    rw [q, hl] at hb
    exact ho _ (Option.some.inj hb).symm)).trans hb
  unfold Vt at h ⊢
  generalize hT : Value.type ty = T at h
  cases h with
  | @lst a zs e =>
    by_cases q : a = l
    · subst q; exact .lst upd_same
    · exact .lst ((upd_ne q).trans e)
  | @frz a o zs e => exact .frz (ne e fun _ q => nomatch q)
  | @tup a zs e => exact .tup (ne e fun _ q => nomatch q)
  | @dK a kvs e => exact .dK (ne e fun _ q => nomatch q)
  | @dT a kvs e => exact .dT (ne e fun _ q => nomatch q)
  | @ins a C dx fs e cl ha hn htk hm => exact .ins (ne e fun _ q => nomatch q) cl ha hn htk hm
  | non => exact .non
  | bl x => exact .bl x
  | int x => exact .int x
  | str x => exact .str x
  | flt x => exact .flt x
theorem Kd.told {l : Addr} {x : V} (h : Kd K H x) (hl : H l = some (.lst xs)) : Kd K (upd H l (.lst ys)) x := let ⟨ty, b1, b2, a, b⟩ := h; ⟨ty, b1, b2, a.told hl, b⟩
theorem tup_told {l a : Addr} {vs : List V} (h : H a = some (.tup vs)) (hl : H l = some (.lst xs)) : upd H l (.lst ys) a = some (.tup vs) := (upd_ne (ne_of h hl (by intro z; cases z))).trans h
theorem Odd.told {m : Nat} {l : Addr} {x : V} (h : Odd K m x H) (hl : H l = some (.lst xs)) : Odd K m x (upd H l (.lst ys)) := by
  rcases h with ⟨ty, h, q⟩ | ⟨a, vs, rfl, h, q⟩ | ⟨a, v0, v1, v2, rfl, h, k0, k1, k2, q⟩
  · exact .inl ⟨ty, h.told hl, q⟩
  · exact .inr (.inl ⟨a, vs, rfl, tup_told h hl, q⟩)
  · exact .inr (.inr ⟨a, v0, v1, v2, rfl, tup_told h hl, k0.told hl, k1.told hl, k2.told hl, q⟩)
/-- a list with a thing that is no tie -/
def OddList (K : PySem.W.Frag) (m : Nat) : V → Hp → Prop := fun v H => ∃ l xs, v = .ref l ∧ H l = some (.lst xs) ∧ xs.length ≤ 1000 ∧ (∀ x ∈ xs, TieK K H x) ∧ ∃ x ∈ xs, Odd K m x H
theorem OddList.pm {m : Nat} : PM (OddList K m) := fun v H H' e ⟨l, xs, r, h, hl, k, x, hx, o⟩ => ⟨l, xs, r, e _ _ h, hl, fun x hx => (k x hx).mono e, x, hx, Odd.pm _ _ _ e o⟩
theorem OddList.bad {m : Nat} (h : OddList K m v H) (h1 : 1 ≤ m) (h2 : m ≤ 24) : ∀ H', Ex H H' → BadNet K H' (vi m) v := fun H' e => by
  obtain ⟨l, xs, r, h, hl, k, x, hx, o⟩ := OddList.pm _ _ _ e h
  exact .inr ⟨m, rfl, h1, h2, .inr ⟨l, xs, r, h, hl, k, o.bad hx⟩⟩
theorem evp_oddL {m n : Nat} (h : EvPL te σ H (n + 1) (Odd K m)) (hn : n + 1 ≤ 1000) : EvP te σ H (OddList K m) := fun H1 e Q q => h H1 e Q fun p vs H2 _ e2 h2 hl hv => q _ H2 e2 ⟨p, vs, rfl, h2, by omega, fun x hx => (hv x hx).kind, vs[0]'(by omega), List.getElem_mem (by omega), hv _ (List.getElem_mem (by omega))⟩
def LongList (K : PySem.W.Frag) : V → Hp → Prop := fun v H => ∃ l xs, v = .ref l ∧ H l = some (.lst xs) ∧ xs.length ≤ 1000 ∧ 300 < xs.length ∧ ∀ x ∈ xs, TieK K H x
theorem LongList.pm : PM (LongList K) := fun v H H' e ⟨l, xs, r, h, hl, h3, k⟩ => ⟨l, xs, r, e _ _ h, hl, h3, fun x hx => (k x hx).mono e⟩
theorem LongList.bad {m : Nat} (h : LongList K v H) (h1 : 1 ≤ m) (h2 : m ≤ 24) : ∀ H', Ex H H' → BadNet K H' (vi m) v := fun H' e => by
  obtain ⟨l, xs, r, h, hl, h3, k⟩ := LongList.pm _ _ _ e h
  refine .inr ⟨m, rfl, h1, h2, .inr ⟨l, xs, r, h, hl, k, ?_⟩⟩
  rintro ⟨as, ts, rfl, ta, hn, _⟩
  rw [List.length_map, Paired.length ta] at h3
  omega
def NoList (K : PySem.W.Frag) : V → Hp → Prop := fun v H => ∃ ty, Vt K H v ty ∧ kitB ty "list" = some false
theorem NoList.pm : PM (NoList K) := fun v H H' e ⟨ty, h, q⟩ => ⟨ty, h.mono e, q⟩
theorem NoList.bad {m : Nat} (h : NoList K v H) (h1 : 1 ≤ m) (h2 : m ≤ 24) : ∀ H', Ex H H' → BadNet K H' (vi m) v := fun H' e => .inr ⟨m, rfl, h1, h2, .inl (NoList.pm _ _ _ e h)⟩
def NoMany (K : PySem.W.Frag) : V → Hp → Prop := fun v H => Kd K H v ∧ ¬ ∃ m : Nat, v = vi m ∧ 1 ≤ m ∧ m ≤ 24
theorem NoMany.pm : PM (NoMany K) := fun v H H' e ⟨k, q⟩ => ⟨k.mono e, q⟩
def NoPl (K : PySem.W.Frag) (m : Nat) : V → Hp → Prop := fun v H => Kd K H v ∧ ¬ ∃ i : Nat, v = vi i ∧ i < m
theorem NoPl.pm {m : Nat} : PM (NoPl K m) := fun v H H' e ⟨k, q⟩ => ⟨k.mono e, q⟩
/-- calls with an argument told by what holds of it -/
theorem ev_callP {sp : Sp} {E : XK} (ha : Ev t1 σ H v1) (hb : EvP t2 σ H P) (hs : ∀ y H1, Ex H H1 → P y H1 → SpV sp [v1, y] H1 z) : Ev (tCall sp [] E (tCons t1 (tCons t2 tNil))) σ H z := fun H1 e Q q =>
  ha H1 e _ fun H2 e2 => hb H2 (e.trans e2) _ fun y H3 e3 hy => hs y H3 ((e.trans e2).trans e3) hy H3 (Ex.refl H3) _ (fun H4 e4 => q H4 ((e2.trans e3).trans e4)) E
theorem ev_opLP {r : R2} (ha : EvL t1 σ H xs) (hb : EvP t2 σ H P) (hr : ∀ p y H1, H1 p = some (.lst xs) → Ex H H1 → P y H1 → RV r (.ref p) y H1 z) : Ev (tOp r t1 t2) σ H z := fun H1 e Q q =>
  ha H1 e _ fun p H2 _ e2 h2 => hb H2 (e.trans e2) _ fun y H3 e3 hy => hr p y H3 (e3 _ _ h2) ((e.trans e2).trans e3) hy H3 (Ex.refl H3) _ fun H4 e4 => q H4 ((e2.trans e3).trans e4)
theorem el_catLL (h1 : EvL t1 σ H xs) (h2 : EvL t2 σ H ys) (hz : xs.length + ys.length ≤ 100000) : EvL (tOp rCat t1 t2) σ H (xs ++ ys) := fun H1 e Q q =>
  h1 H1 e _ fun a H2 _ e2 ha => h2 H2 (e.trans e2) _ fun b H3 _ e3 hb => ⟨a, b, xs, ys, rfl, rfl, e3 _ _ ha, hb, sz_of hz, fun p hp => q p _ (fresh_back (e2.trans e3) hp) ((e2.trans e3).trans (Ex.new hp)) upd_same⟩
theorem el_catLV {b : Addr} (h1 : EvL t1 σ H xs) (h2 : Ev t2 σ H (.ref b)) (hb : H b = some (.lst ys)) (hz : xs.length + ys.length ≤ 100000) : EvL (tOp rCat t1 t2) σ H (xs ++ ys) := fun H1 e Q q =>
  h1 H1 e _ fun a H2 _ e2 ha => h2 H2 (e.trans e2) _ fun H3 e3 => ⟨a, b, xs, ys, rfl, rfl, e3 _ _ ha, e3 _ _ (e2 _ _ (e _ _ hb)), sz_of hz, fun p hp => q p _ (fresh_back (e2.trans e3) hp) ((e2.trans e3).trans (Ex.new hp)) upd_same⟩
theorem q_ins {l : Addr} {i : Int} (hl : H l = some (.lst xs)) (ha : Ev t0 σ H (.ref l)) (hi : Ev ti σ H (.int i)) (hx : EvP te σ H P) (h0 : 0 ≤ i) (h1 : i < 2 ^ 63) (hz : xs.length < 100000)
    (k : ∀ v H1, Ex H H1 → P v H1 → tz D σ (upd H1 l (.lst (xs.take i.toNat ++ [v] ++ xs.drop i.toNat)))) : tSeq (tDrop (tBM K "list" rInsert t0 (tCons ti (tCons te tNil)))) tz D σ H :=
  ha H (Ex.refl H) _ fun H1 e1 => ⟨Or.inl ⟨rfl, xs, sq_of (e1 _ _ hl)⟩, hi H1 e1 _ fun H2 e2 => hx H2 (e1.trans e2) _ fun v H3 e3 hv => ⟨l, xs, i, v, rfl, rfl, e3 _ _ (e2 _ _ (e1 _ _ hl)), sz_lt hz, h0, h1, k v H3 ((e1.trans e2).trans e3) hv⟩⟩
/-- nets that are asked at once -/
theorem ev_netMany {m : Nat} {R : Addr → List Addr → List Tie → Prop} (nc : NetC K A) (h1 : Ev t1 σ H (vi m)) (h2 : EvP t2 σ H (IsLT R)) (ok : ∀ l as ts, R l as ts → Net.Ok ⟨m, ts⟩) : Ev (tFld K (tMake A.C (sp_init K A) [] E0 (tCons t1 (tCons t2 tNil))) "many") σ H (vi m) := fun H1 e Q q =>
  c_net (R := R) (h1.mono e) (h2.mono e) ok fun x l as ts s H2 e2 _ _ N _ => ⟨x, A.C, s.dx, _, vi m, rfl, N.ob, nc.cl, nc.nM, lk_many, q H2 e2⟩
theorem el_netTies {m : Nat} {as : List Addr} {ts : List Tie} {l : Addr} (h1 : Ev t1 σ H (vi m)) (h2 : Ev t2 σ H (.ref l)) (hl : LT H l as ts) (ok : Net.Ok ⟨m, ts⟩) : EvL (tMeth A.C "ties" (sp_ties K A) [] E0 (tMake A.C (sp_init K A) [] E0 (tCons t1 (tCons t2 tNil))) tNil) σ H (as.map V.ref) := fun H1 e Q q =>
  c_net (R := fun l' as' ts' => as' = as ∧ ts' = ts) (h1.mono e) (evp_v (h2.mono e) fun H2 e2 => ⟨l, as, ts, rfl, hl.mono (e.trans e2), rfl, rfl⟩) (fun _ _ _ r => r.2 ▸ ok) fun x l' as' ts' s H2 e2 _ r N hsa =>
    ⟨x, s.dx, _, rfl, N.ob, lk_no ⟨by decide +kernel, by decide +kernel, by decide +kernel, by decide +kernel⟩, ⟨x, _, s, rfl, N, fun p H3 hp e3 h3 => q p H3 (fresh_back e2 hp) (e2.trans e3) (by rw [← r.1, ← hsa]; exact h3)⟩⟩
theorem evp_oneTie {t : Tie} (h : EvU te σ H (tieV t)) : EvP (tLst (tCons te tNil)) σ H (IsLT fun _ _ ts => ts = [t]) := fun H1 e Q q =>
  h H1 e _ fun p H2 _ e2 h2 => ⟨by show 1 ≤ sizeLine; decide, fun l hl => q _ _ (e2.trans (Ex.new hl)) ⟨l, [p], [t], rfl, ⟨upd_same, .cons (by rw [upd_ne (fun z => by rw [z] at h2; rw [h2] at hl; cases hl)]; exact h2) .nil⟩, rfl⟩⟩
theorem evp_noTies : EvP (tLst tNil) σ H (IsLT fun _ _ ts => ts = []) := evp_L (el_lst ea_nil (by decide)) fun p H1 hp _ => ⟨p, [], [], rfl, ⟨hp, .nil⟩, rfl⟩
theorem c_l_good {Q : VK} {c : Int} {m : Nat} {ta : TA} (ha : EvA ta σ H [.int c, vi m]) (m1 : 2 ≤ m) (m2 : m ≤ 24)
    (k : ∀ u, okTie m u → ∀ q H2, H q = none → Ex H H2 → H2 q = some (.tup (tieV u)) → Q (.ref q) H2) : tCall (sp_l_good K A) [] E0 ta σ H Q :=
  c_call ha fun H1 e1 => ⟨c, m, rfl, m1, m2, fun u hu q H2 hq e2 h2 => k u hu q H2 (fresh_back e1 hq) (e1.trans e2) h2⟩
theorem spv_refused {mv tv : V} (km : Kd K H mv) (bad : ∀ H', Ex H H' → BadNet K H' mv tv) : SpV (sp_l_refused K A) [mv, tv] H (.bl true) := fun H1 e Q q E => ⟨mv, tv, rfl, km.mono e, fun H' e' => bad H' (e.trans e'), fun H2 e2 => q H2 e2⟩
theorem spv_side_refused {p : Addr} {n : Net} {s : NetS} (N : NetX A H p n s) (bad : BadSide K n.many v H) : SpV (sp_l_side_refused K A) [.ref p, v] H (.bl true) := fun H1 e Q q E => ⟨p, n, s, v, rfl, N.mono e, BadSide.pm _ _ _ e bad, fun H2 e2 => q H2 e2⟩
end

section
variable {K : PySem.W.Frag} {A : Ads}
theorem evp_str {σ : L2.St} {H : Hp} {x : Str} {P : V → Hp → Prop} (h : ∀ H1, P (.str x) H1) : EvP (tC (.str x)) σ H P := evp_v ev_c fun H1 _ => h H1
theorem nolist_str {H : Hp} {x : Str} : NoList K (.str x) H := ⟨"str", vt_str, by decide +kernel⟩
theorem nolist_int {H : Hp} {x : Int} : NoList K (.int x) H := ⟨"int", vt_int, by decide +kernel⟩
theorem nolist_non {H : Hp} : NoList K .non H := ⟨"NoneType", vt_non, by decide +kernel⟩
theorem nolist_tup {H : Hp} {a : Addr} {xs : List V} (h : H a = some (.tup xs)) : NoList K (.ref a) H := ⟨"tuple", vt_tup h, by decide +kernel⟩
/-- tuple(list) -/
theorem evp_tuple {σ : L2.St} {H : Hp} {te : TE} {l : Addr} {xs : List V} (h : Ev te σ H (.ref l)) (hl : H l = some (.lst xs)) : EvP (tCB (rTupS K) (tCons te tNil)) σ H (NoList K) := fun H1 e Q q =>
  h H1 e _ fun H2 e2 => ⟨l, xs, rfl, .inl ⟨sq_of (e2 _ _ (e _ _ hl)), fun p hp => q _ _ (e2.trans (Ex.new hp)) (nolist_tup upd_same)⟩⟩
theorem evp_dict {σ : L2.St} {H : Hp} : EvP tDNewK σ H (NoList K) := fun H1 _ Q q p hp => q _ _ (Ex.new hp) ⟨"dict", .dK upd_same, by decide +kernel⟩
theorem insert_mem {α : Type} (xs : List α) (i : Nat) (v : α) : v ∈ xs.take i ++ [v] ++ xs.drop i := by simp
theorem pure_law (nc : NetC K A) (vs : List V) (H : Hp) (Q : VK) (E : XK) (h : sp_law K A vs H Q E) : t_law K A { nx := fun _ H' => Q .non H', rt := Q } (start ["_law_script", "_law_way", "_law_many", "_law_ties", "_law_wrong", "_law_dear", "_law_net", "_law_place", "_law_side", "_law_at", "_law_odd_here", "_law_cell", "_law_k", "_law_one"] vs) H := by
  obtain ⟨a, ns, rfl, hs, hlen, k⟩ := h
  unfold t_law
  show tSeq _ _ _ [some (.ref a), none, none, none, none, none, none, none, none, none, none, none, none, none] H
  have cell : ∀ (kk : Nat) σ G, σ[0]? = some (some (.ref a)) → Ex H G → Ev (tCall (sp_l_cell_at K A) [] E0 (tCons (tVar 0) (tCons (tC (.int (kk : Int))) tNil))) σ G (.int (cellAt ns kk)) := fun kk σ G h0 e => ev_call (vs := [.ref a, vi kk]) (ea_cons (ev_var h0) (ea_cons ev_c ea_nil)) (spv_l_cell_at (ex_l e hs))
  have md : ∀ (x y : Int), 0 < y → 0 ≤ x % y ∧ x % y < y := fun x y hy => ⟨Int.emod_nonneg _ (by omega), Int.emod_lt_of_pos _ hy⟩
  -- which way
  let PW : V → Hp → Prop := fun v _ => ∃ w : Int, v = .int w
  have pmW : PM PW := fun _ _ _ _ h => h
  have cW : ∀ (i : Int) σ G, EvP (tC (.int i)) σ G PW := fun i σ G => evp_v ev_c fun _ _ => ⟨i, rfl⟩
  refine q_asgP (P := PW) (evp_ix (n := 9) (i := cellAt ns 0 % 9) (evpl_lst pmW (evpa_cons pmW (cW _ _ _) (evpa_cons pmW (cW _ _ _) (evpa_cons pmW (cW _ _ _) (evpa_cons pmW (cW _ _ _) (evpa_cons pmW (cW _ _ _) (evpa_cons pmW (cW _ _ _) (evpa_cons pmW (cW _ _ _) (evpa_cons pmW (cW _ _ _) (evpa_cons pmW (cW _ _ _) evpa_nil))))))))) (by decide))
    (ev_op (y := .int 9) (cell 0 _ _ rfl (Ex.refl H)) ev_c (rv_mod (by omega))) (md _ _ (by omega)).1 (md _ _ (by omega)).2 pmW) fun v H1 e1 hv => ?_
  obtain ⟨way, rfl⟩ := hv
  obtain ⟨m, hm, m2, m24⟩ : ∃ m : Nat, 2 + cellAt ns 0 / 9 % 23 = (m : Int) ∧ 2 ≤ m ∧ m ≤ 24 := by
    have h1 := Int.emod_nonneg (cellAt ns 0 / 9) (show (23 : Int) ≠ 0 by omega)
    have h2 := Int.emod_lt_of_pos (cellAt ns 0 / 9) (show (0 : Int) < 23 by omega)
    exact ⟨(2 + cellAt ns 0 / 9 % 23).toNat, by omega, by omega, by omega⟩
  refine q_asg (v := vi m) (ev_is (ev_op ev_c (ev_op (y := .int 23) (ev_op (y := .int 9) (cell 0 _ _ rfl e1) ev_c (rv_fdiv ⟨by omega, by omega⟩)) ev_c (rv_mod (by omega))) rv_plus) (by rw [hm]; rfl)) fun H2 e2 => ?_
  have e02 := e1.trans e2
  obtain ⟨cs, hcs, hcl, hcl2⟩ := cutV_ints ns 3 43
  refine q_asg0 (c_tiesL (m := m) (cells := cs) ?_ (by omega) (fun _ => rfl) (fun c H3 Q' e3 kk => c_l_good (K := K) (A := A) (ea_cons (ev_var rfl) (ea_cons (ev_var rfl) ea_nil)) m2 m24 kk) fun l as ts G0 hl T hn => ?_)
  · rw [← hcs]
    exact el_sl (ev_var rfl) (eo_some ev_c) (eo_some ev_c) (ex_l e02 hs)
  show tSeq _ _ _ [some (.ref a), some (.int way), some (vi m), some (.ref l), none, none, none, none, none, none, none, none, none, none] G0
  have few : ts.length ≤ 63 := by omega
  have nok : Net.Ok ⟨m, ts⟩ := ⟨by show 1 ≤ m; omega, m24, by show ts.length ≤ 300; omega, T.ok⟩
  have F0 := e02.trans T.ex
  have nlen : (as.map V.ref).length = ts.length := by rw [List.length_map]; exact T.len
  have tieK : ∀ G, Ex G0 G → ∀ x ∈ as.map V.ref, TieK K G x := fun G e => TiesAt.kinds (T.ta.mono e)
  refine q_when (et_test (ev_op (ev_var rfl) ev_c rv_eqI)) (fun hb G1 e1 => ?_) (fun hb G1 e1 => ?_)
  · -- no net for its places
    have pmM : PM (NoMany K) := NoMany.pm
    have hnI : ∀ (i : Int) (G : Hp), ¬ (1 ≤ i ∧ i ≤ 24) → NoMany K (.int i) G := fun i G hi => ⟨kd_int, fun ⟨j, hj, h1, h2⟩ => hi (by
      have := V.int.inj hj
      omega)⟩
    refine q_asgP (P := NoMany K) (evp_ix (n := 8) (i := cellAt ns 1 % 8) (evpl_lst pmM (evpa_cons pmM (evp_v ev_c fun G _ => hnI 0 G (by omega)) (evpa_cons pmM (evp_v ev_c fun G _ => hnI 25 G (by omega)) (evpa_cons pmM (evp_v (v := .int (-1 - (m : Int))) (ev_op (x := .int (-1)) (y := .int (m : Int)) ev_neg1 (ev_var rfl) rv_minus) fun G _ => hnI _ G (by omega))
      (evpa_cons pmM (evp_v (v := .int (10 ^ 20)) (ev_op (x := .int 10) (y := .int 20) ev_c ev_c (rv_I ⟨by omega, by omega, by decide⟩)) fun G _ => hnI _ G (by omega)) (evpa_cons pmM (evp_v ev_c fun G _ => ⟨kd_bl, fun ⟨j, hj, _⟩ => nomatch hj⟩) (evpa_cons pmM (evp_str fun G => ⟨kd_str, fun ⟨j, hj, _⟩ => nomatch hj⟩) (evpa_cons pmM (evp_v ev_c fun G _ => ⟨kd_non, fun ⟨j, hj, _⟩ => nomatch hj⟩)
      (evpa_cons pmM (evp_L (el_lst (ea_cons ev_c ea_nil) (by show 1 ≤ 100000; decide)) fun p G hp _ => ⟨kd_lst hp, fun ⟨j, hj, _⟩ => nomatch hj⟩) evpa_nil)))))))) (by decide)) (ev_op (y := .int 8) (cell 1 _ _ rfl (F0.trans e1)) ev_c (rv_mod (by omega))) (md _ _ (by omega)).1 (md _ _ (by omega)).2 pmM) fun wv G2 e2 hwv => ?_
    have hT1 : ∀ σ G, EvU (tTup (tCons (tC (.int 1)) (tCons (tC (.int 0)) (tCons (tC (.int 1000000000)) tNil)))) σ G (tieV (1, 0, 1000000000)) := fun σ G => eu_tup (ea_cons ev_c (ea_cons ev_c (ea_cons ev_c ea_nil))) (by show 3 ≤ 100000; decide)
    refine q_asg0 (c_net (m := 2) (R := fun _ _ ts => ts = [(1, 0, 1000000000)]) ev_c (evp_oneTie (hT1 _ _)) (fun _ _ ts r => ?_) fun x l' as' ts' s G3 e3 _ r N hsa => ?_)
    · subst r
      exact ⟨by decide, by decide, by decide, fun t ht => by
        have : t = (1, 0, 1000000000) := by simpa using ht
        subst this
        exact ⟨by decide, by decide, by decide, by decide, by decide⟩⟩
    subst r
    show tSeq _ _ _ [some (.ref a), some (.int way), some (vi m), some (.ref l), some wv, some (.ref x), none, none, none, none, none, none, none, none] G3
    have hties := spl_ties (K := K) N
    refine q_skip (et_is (b := false) (et_or (a := false) (et_test (ev_opLP (P := IsLT fun _ _ ts => ts = [(1, 0, 1000000000)]) (z := .bl false) (el_meth (vs := []) (ev_var rfl) N.ob (by walk_at "lk") ea_nil hties) (evp_oneTie (hT1 _ _)) fun p y G4 hp e4 hy => ?_)) fun _ =>
      et_not (a := true) (et_B (ev_callP (P := OddList K 2) (z := .bl true) ev_c (evp_oddL (n := 0) (evpl_lst Odd.pm (evpa_cons Odd.pm (evp_i3 (a := 1) (b := 0) (c := 1000000001) ev_c ev_c ev_c (by omega)) evpa_nil) (by decide)) (by decide)) fun y G4 e4 hy => spv_refused kd_int (hy.bad (by decide) (by decide))))) rfl) fun G4 e4 => ?_
    · obtain ⟨l2, as2, ts2, rfl, hL, r⟩ := hy
      subst r
      have ta1 := N.ta.mono e4
      have := rv_neD (K := K) (dp_ties (sq_of hp) ta1) (dp_ties (sq_of hL.1) hL.2) (shaped_ties _) (shaped_ties _)
      rw [eqv_self _ (shaped_ties _)] at this
      exact this
    have hw4 := NoMany.pm _ _ _ (e3.trans e4) hwv
    refine s_ret (v := .bl true) (ev_is (ev_andV (a := true) (b := true) (ev_callP (P := fun _ _ => True) (ev_var rfl) (evp_L (el_lst ea_nil (by decide)) fun _ _ _ _ => trivial) fun y G5 e5 _ => spv_refused (hw4.1.mono e5) fun H' e' => .inl hw4.2) fun _ =>
      ev_is (ev_andV (a := true) (b := true) (ev_is (ev_op (x := .int 1) (y := .int 1) (ev_netMany (m := 1) nc ev_c evp_noTies fun _ _ ts r => ?_) ev_c rv_eqI) rfl) fun _ => ev_is (ev_op (x := .int 24) (y := .int 24) (ev_netMany (m := 24) nc ev_c evp_noTies fun _ _ ts r => ?_) ev_c rv_eqI) rfl) rfl) rfl) fun G5 e5 => k _
    · subst r
      exact ⟨by decide, by decide, by decide, fun t ht => nomatch ht⟩
    · subst r
      exact ⟨by decide, by decide, by decide, fun t ht => nomatch ht⟩
  clear hb
  have E1 := F0.trans e1
  have T1 := T.mono e1
  refine q_when (et_test (ev_op (ev_var rfl) ev_c rv_eqI)) (fun hb G2 e2 => ?_) (fun hb G2 e2 => ?_)
  · -- a thing among the ties that is none
    have T2 := T1.mono e2
    have hidx := md (cellAt ns 1) ((ts.length : Int) + 1) (by omega)
    refine q_ins (xs := as.map V.ref) (P := Odd K m) (i := cellAt ns 1 % ((ts.length : Int) + 1)) T2.at_ (ev_var rfl) (ev_op (y := .int ((ts.length : Int) + 1)) (cell 1 _ _ rfl (E1.trans e2)) (ev_op (x := .int (ts.length : Int)) (ev_is (ev_cb (ea_cons (ev_var rfl) ea_nil) (rc_lenL (sq_of T2.at_))) (by rw [nlen])) ev_c rv_plus) (rv_mod (by omega)))
      (fun G3 e3 Q' q' => (cell 2 _ _ rfl (E1.trans e2)) G3 e3 _ fun G4 e4 => (ev_var (i := 2) (v := vi m) rfl) G4 (e3.trans e4) _ fun G5 e5 => ⟨_, m, rfl, m2, m24, fun x G6 e6 ho => q' x G6 ((e4.trans e5).trans e6) ho⟩) hidx.1 (by omega) (by rw [nlen]; omega) fun v G3 e3 hv => ?_
    have h3 := e3 _ _ T2.at_
    have hodd : OddList K m (.ref l) (upd G3 l (.lst ((as.map V.ref).take (cellAt ns 1 % ((ts.length : Int) + 1)).toNat ++ [v] ++ (as.map V.ref).drop (cellAt ns 1 % ((ts.length : Int) + 1)).toNat))) := by
      refine ⟨l, _, rfl, upd_same, ?_, fun x hx => ?_, v, insert_mem _ _ _, hv.told h3⟩
      · simp only [List.length_append, List.length_take, List.length_drop, nlen, List.length_singleton]; omega
      · rw [List.mem_append, List.mem_append, List.mem_singleton] at hx
        have hall : ∀ x ∈ as.map V.ref, TieK K (upd G3 l (.lst ((as.map V.ref).take (cellAt ns 1 % ((ts.length : Int) + 1)).toNat ++ [v] ++ (as.map V.ref).drop (cellAt ns 1 % ((ts.length : Int) + 1)).toNat))) x := TiesAt.kinds (((T2.ta.mono e3)).upd h3)
        rcases hx with (hx | hx) | hx
        · exact hall x (List.mem_of_mem_take hx)
        · rw [hx]; exact (hv.told h3).kind
        · exact hall x (List.mem_of_mem_drop hx)
    exact s_ret (v := .bl true) (ev_call (vs := [vi m, .ref l]) (ea_cons (ev_var rfl) (ea_cons (ev_var rfl) ea_nil)) (spv_refused kd_int (hodd.bad (by omega) m24))) fun G4 e4 => k _
  clear hb
  have E2 := E1.trans e2
  have T2 := T1.mono e2
  refine q_when (et_test (ev_op (ev_var rfl) ev_c rv_eqI)) (fun hb G3 e3 => ?_) (fun hb G3 e3 => ?_)
  · -- 300 and 301
    refine q_asg0 (c_tiesR (m := m) (n := 300) (ea_cons ev_c ea_nil) (by omega) (fun _ => rfl) (fun c G4 Q' hc e4 kk => c_l_good (K := K) (A := A) (ea_cons (ev_op (cell 2 _ _ rfl ((E2.trans e3).trans e4)) (ev_op (y := .int (c : Int)) ev_c (ev_var rfl) (rv_times (.inl ⟨by omega, by omega⟩))) rv_plus) (ea_cons (ev_var rfl) ea_nil)) m2 m24 kk) fun l2 as2 ts2 G4 hl2 U hn2 => ?_)
    show tRet _ _ [some (.ref a), some (.int way), some (vi m), some (.ref l2), none, none, none, none, none, none, none, none, none, none] G4
    have nok2 : Net.Ok ⟨m, ts2⟩ := ⟨by show 1 ≤ m; omega, m24, by show ts2.length ≤ 300; omega, U.ok⟩
    have n2len : (as2.map V.ref).length = 300 := by rw [List.length_map, U.len, hn2]
    refine s_ret (v := .bl true) (ev_is (ev_andV (a := true) (b := true) (ev_opL1 (y := .ref l2) (el_netTies (K := K) (A := A) (ts := ts2) (ev_var rfl) (ev_var rfl) ⟨U.at_, U.ta⟩ nok2) (fun G5 e5 => ev_var rfl) fun p G5 hp e5 => ?_) fun _ => ev_callP (P := LongList K) (ev_var rfl) (fun G5 e5 Q' q' => ?_) fun y G5 e5 hy => spv_refused kd_int (hy.bad (by omega) m24)) rfl) fun G5 e5 => k _
    · have := rv_eqD (K := K) (dp_ties (sq_of hp) (U.ta.mono e5)) (dp_ties (sq_of (e5 _ _ U.at_)) (U.ta.mono e5)) (shaped_ties ts2) (shaped_ties ts2)
      rw [eqv_self _ (shaped_ties ts2)] at this
      exact this
    · refine (evpl_cat (P := fun v G => TieK K G v) (n := 1) (n' := 300) (fun v _ _ e h => h.mono e) (ev_var rfl) U.at_ n2len (TiesAt.kinds U.ta) (evpl_lst (fun v _ _ e h => h.mono e) (evpa_cons (fun v _ _ e h => h.mono e) (evp_U (eu_tup (ea_cons ev_c (ea_cons ev_c (ea_cons ev_c ea_nil))) (by show 3 ≤ 100000; decide)) fun p G hp _ => .inr (.inr ⟨p, _, _, _, rfl, hp, kd_int, kd_int, kd_int⟩)) evpa_nil) (by decide)) (by decide)) G5 e5 _ fun p vs G6 _ e6 h6 hl6 hv6 => q' _ G6 e6 ⟨p, vs, rfl, h6, by omega, by omega, hv6⟩
  clear hb
  have E3 := E2.trans e3
  have T3 := T2.mono e3
  refine q_when (et_test (ev_op (ev_var rfl) ev_c rv_eqI)) (fun hb G4 e4 => ?_) (fun hb G4 e4 => ?_)
  · -- no list
    have T4 := T3.mono e4
    exact s_ret (v := .bl true) (ev_callP (P := NoList K) (ev_var rfl) (evp_ix (n := 5) (i := cellAt ns 1 % 5) (evpl_lst NoList.pm (evpa_cons NoList.pm (evp_tuple (ev_var rfl) T4.at_) (evpa_cons NoList.pm (evp_v ev_c fun G _ => nolist_non) (evpa_cons NoList.pm (evp_str fun G => nolist_str) (evpa_cons NoList.pm (evp_v ev_c fun G _ => nolist_int) (evpa_cons NoList.pm evp_dict evpa_nil))))) (by decide))
      (ev_op (y := .int 5) (cell 1 _ _ rfl (E3.trans e4)) ev_c (rv_mod (by omega))) (md _ _ (by omega)).1 (md _ _ (by omega)).2 NoList.pm) fun y G5 e5 hy => spv_refused kd_int (hy.bad (by omega) m24)) fun G5 e5 => k _
  clear hb
  have E4 := E3.trans e4
  have T4 := T3.mono e4
  -- sides
  refine q_asg0 (c_net (m := m) (R := fun l' as' ts' => as' = as ∧ ts' = ts) (ev_var rfl) (evp_var rfl fun G e => ⟨l, as, ts, rfl, ⟨e _ _ T4.at_, T4.ta.mono e⟩, rfl, rfl⟩) (fun _ _ _ r => r.2 ▸ nok) fun x l' as' ts' s G5 e5 _ r N _ => ?_)
  rw [r.2] at N
  show tSeq _ _ _ [some (.ref a), some (.int way), some (vi m), some (.ref l), none, none, some (.ref x), none, none, none, none, none, none, none] G5
  have E5 := E4.trans e5
  obtain ⟨pl, hpl, hpm⟩ : ∃ pl : Nat, cellAt ns 1 % (m : Int) = (pl : Int) ∧ pl < m := by
    have := md (cellAt ns 1) (m : Int) (by omega)
    exact ⟨(cellAt ns 1 % (m : Int)).toNat, by omega, by omega⟩
  refine q_asg (v := vi pl) (ev_is (ev_op (y := .int (m : Int)) (cell 1 _ _ rfl E5) (ev_var rfl) (rv_mod (by omega))) (by rw [hpl]; rfl)) fun G6 e6 => ?_
  have E6 := E5.trans e6
  let f : Nat → Bool := fun i => !decide ((i : Int) = (pl : Int)) && decide (cellAt ns 2 / (2 + (i : Int)) % 2 = 0)
  refine q_asgL (xs := given m f vi) ?_ fun sl G7 hsl e7 h7 => ?_
  · have := el_lcR1 (ta := tCons (tVar 2) tNil) (σ := [some (.ref a), some (.int way), some (vi m), some (.ref l), none, none, some (.ref x), some (vi pl), none, none, none, none, none, none]) (H := G6) (j := 13) (vs := [13]) (n := (m : Int)) (t := tAnd (tTest (tOp rNe (tVar 13) (tVar 7))) (tTest (tOp rEq (tOp rMod (tOp rFdiv (tCall (sp_l_cell_at K A) [] E0 (tCons (tVar 0) (tCons (tC (.int 2)) tNil))) (tOp rPlus (tC (.int 2)) (tVar 13))) (tC (.int 2))) (tC (.int 0))))) (te := tVar 13) f vi (ea_cons (ev_var rfl) ea_nil) (by omega) (fun _ => rfl)
      (fun i G e hi => et_and (et_test (ev_op (x := .int (i : Int)) (y := .int (pl : Int)) (ev_var rfl) (ev_var rfl) rv_neI)) fun _ => et_test (ev_op (ev_op (ev_op (y := .int (2 + (i : Int))) (cell 2 _ _ rfl (E6.trans e)) (ev_op ev_c (ev_var rfl) rv_plus) (rv_fdiv ⟨by omega, by omega⟩)) ev_c (rv_mod (by omega))) ev_c rv_eqI)) (fun i G e hi _ => ev_var rfl)
    rw [Int.toNat_natCast] at this
    exact this
  show tSeq _ _ _ [some (.ref a), some (.int way), some (vi m), some (.ref l), none, none, some (.ref x), some (vi pl), some (.ref sl), none, none, none, none, none] G7
  have E7 := E6.trans e7
  have hgl := given_len m f vi
  have hkd : ∀ G, ∀ y ∈ given m f vi, Kd K G y := fun G y hy => by
    obtain ⟨i, _, rfl⟩ := List.mem_map.mp hy
    exact kd_int
  have hat := md (cellAt ns 1 / 24) (((given m f vi).length : Int) + 1) (by omega)
  obtain ⟨at_, hat', hatl⟩ : ∃ q : Nat, cellAt ns 1 / 24 % (((given m f vi).length : Int) + 1) = (q : Int) ∧ q ≤ (given m f vi).length := ⟨_, (Int.toNat_of_nonneg hat.1).symm, by omega⟩
  refine q_asg (v := vi at_) (ev_is (ev_op (y := .int (((given m f vi).length : Int) + 1)) (ev_op (y := .int 24) (cell 1 _ _ rfl E7) ev_c (rv_fdiv ⟨by omega, by omega⟩)) (ev_op (x := .int ((given m f vi).length : Int)) (ev_cb (ea_cons (ev_var rfl) ea_nil) (rc_lenL (sq_of h7))) ev_c rv_plus) (rv_mod (by omega))) (by rw [hat']; rfl)) fun G8 e8 => ?_
  have E8 := E7.trans e8
  have pmP : PM (NoPl K m) := NoPl.pm
  have hnI : ∀ (i : Int) (G : Hp), ¬ (0 ≤ i ∧ i < m) → NoPl K m (.int i) G := fun i G hi => ⟨kd_int, fun ⟨j, hj, h1⟩ => hi (by
    have := V.int.inj hj
    omega)⟩
  refine q_asgP (P := NoPl K m) (evp_ix (n := 9) (i := cellAt ns 2 % 9) (evpl_lst pmP (evpa_cons pmP (evp_v (v := vi m) (ev_var rfl) fun G _ => hnI m G (by omega)) (evpa_cons pmP (evp_v ev_neg1 fun G _ => hnI _ G (by omega)) (evpa_cons pmP (evp_v (v := .int (10 ^ 20)) (ev_op (x := .int 10) (y := .int 20) ev_c ev_c (rv_I ⟨by omega, by omega, by decide⟩)) fun G _ => hnI _ G (by omega))
    (evpa_cons pmP (evp_v ev_c fun G _ => ⟨kd_bl, fun ⟨j, hj, _⟩ => nomatch hj⟩) (evpa_cons pmP (evp_v ev_c fun G _ => ⟨kd_bl, fun ⟨j, hj, _⟩ => nomatch hj⟩) (evpa_cons pmP (evp_str fun G => ⟨kd_str, fun ⟨j, hj, _⟩ => nomatch hj⟩) (evpa_cons pmP (evp_v ev_c fun G _ => ⟨kd_non, fun ⟨j, hj, _⟩ => nomatch hj⟩)
    (evpa_cons pmP (evp_L (el_lst (ea_cons ev_c ea_nil) (by show 1 ≤ 100000; decide)) fun p G hp _ => ⟨kd_lst hp, fun ⟨j, hj, _⟩ => nomatch hj⟩) (evpa_cons pmP (evp_U (eu_tup (ea_cons ev_c ea_nil) (by show 1 ≤ 100000; decide)) fun p G hp _ => ⟨kd_tup hp, fun ⟨j, hj, _⟩ => nomatch hj⟩) evpa_nil))))))))) (by decide)) (ev_op (y := .int 9) (cell 2 _ _ rfl E8) ev_c (rv_mod (by omega))) (md _ _ (by omega)).1 (md _ _ (by omega)).2 pmP) fun ov G9 e9 hov => ?_
  show tSeq _ _ _ [some (.ref a), some (.int way), some (vi m), some (.ref l), none, none, some (.ref x), some (vi pl), some (.ref sl), some (vi at_), some ov, none, none, none] G9
  have E9 := E8.trans e9
  have N9 := (((N.mono e6).mono e7).mono e8).mono e9
  have h9 := e9 _ _ (e8 _ _ h7)
  refine q_when (et_test (ev_op (ev_var rfl) ev_c rv_eqI)) (fun hb G10 e10 => ?_) (fun hb G10 e10 => ?_)
  · have N10 := N9.mono e10
    have h10 := e10 _ _ h9
    have hls : EvL (tOp rCat (tOp rCat (tLst (tCons (tVar 7) tNil)) (tVar 8)) (tLst (tCons (tVar 7) tNil))) [some (.ref a), some (.int way), some (vi m), some (.ref l), none, none, some (.ref x), some (vi pl), some (.ref sl), some (vi at_), some ov, none, none, none] G10 (([vi pl] ++ given m f vi) ++ [vi pl]) :=
      el_catLL (el_catLV (el_lst (ea_cons (ev_var rfl) ea_nil) (by show 1 ≤ 100000; decide)) (ev_var rfl) h10 (by simp only [List.length_singleton]; omega)) (el_lst (ea_cons (ev_var rfl) ea_nil) (by show 1 ≤ 100000; decide)) (by simp only [List.length_append, List.length_singleton]; omega)
    refine q_skip (et_not (a := true) (et_B (ev_callP (P := BadSide K m) (ev_var rfl) (evp_L hls fun p G hp e => .inl ⟨p, _, rfl, hp, ?_, fun y hy => ?_, ?_⟩) fun y G e hy => spv_side_refused (N10.mono e) hy))) fun G11 e11 => ?_
    · simp only [List.length_append, List.length_singleton]; omega
    · rw [List.mem_append, List.mem_append, List.mem_singleton] at hy
      rcases hy with (hy | hy) | hy
      · rw [hy]; exact kd_int
      · exact hkd G y hy
      · rw [hy]; exact kd_int
    · rintro ⟨side, hx, nd, _⟩
      have h2 := congrArg List.length hx
      have hnd : (([vi pl] ++ given m f vi) ++ [vi pl]).Nodup := by
        rw [hx]
        exact List.Pairwise.map (R := (· ≠ ·)) _ (fun a b h q => h (vi_inj q)) nd
      rw [List.nodup_append] at hnd
      exact hnd.2.2 (vi pl) (by simp) (vi pl) (by simp) rfl
    have N11 := N10.mono e11
    have h11 := e11 _ _ h10
    have hov11 := pmP _ _ _ (e10.trans e11) hov
    have hls2 : EvL (tOp rCat (tOp rCat (tSl (rSlL K) (tVar 8) tNoPart (tPart (tVar 9))) (tLst (tCons (tVar 10) tNil))) (tSl (rSlL K) (tVar 8) (tPart (tVar 9)) tNoPart)) [some (.ref a), some (.int way), some (vi m), some (.ref l), none, none, some (.ref x), some (vi pl), some (.ref sl), some (vi at_), some ov, none, none, none] G11 ((cutV (given m f vi) none (some (at_ : Int)) ++ [ov]) ++ cutV (given m f vi) (some (at_ : Int)) none) := by
      have c1 := cutV_length (given m f vi) none (some (at_ : Int))
      have c2 := cutV_length (given m f vi) (some (at_ : Int)) none
      exact el_catLL (el_catLL (el_sl (ev_var rfl) eo_none (eo_some (ev_var rfl)) (sq_of h11)) (el_lst (ea_cons (ev_var rfl) ea_nil) (by show 1 ≤ 100000; decide)) (by simp only [List.length_singleton]; omega)) (el_sl (ev_var rfl) (eo_some (ev_var rfl)) eo_none (sq_of h11)) (by simp only [List.length_append, List.length_singleton]; omega)
    have cmem : ∀ lo hi, ∀ y ∈ cutV (given m f vi) lo hi, y ∈ given m f vi := fun lo hi y hy => by
      unfold cutV at hy
      exact List.mem_of_mem_drop (List.mem_of_mem_take hy)
    refine s_ret (v := .bl true) (ev_callP (P := BadSide K m) (ev_var rfl) (evp_L hls2 fun p G hp e => .inl ⟨p, _, rfl, hp, ?_, fun y hy => ?_, ?_⟩) fun y G e hy => spv_side_refused (N11.mono e) hy) fun G12 e12 => k _
    · have c1 := cutV_length (given m f vi) none (some (at_ : Int))
      have c2 := cutV_length (given m f vi) (some (at_ : Int)) none
      simp only [List.length_append, List.length_singleton]; omega
    · rw [List.mem_append, List.mem_append, List.mem_singleton] at hy
      rcases hy with (hy | hy) | hy
      · exact hkd G y (cmem _ _ y hy)
      · rw [hy]; exact hov11.1.mono e
      · exact hkd G y (cmem _ _ y hy)
    · rintro ⟨side, hx, _, hl⟩
      have : ov ∈ side.map vi := by rw [← hx]; simp
      obtain ⟨i, hi, rfl⟩ := List.mem_map.mp this
      exact hov11.2 ⟨i, rfl, hl i hi⟩
  · have N10 := N9.mono e10
    have h10 := e10 _ _ h9
    exact s_ret (v := .bl true) (ev_callP (P := NoList K) (ev_var rfl) (evp_ix (n := 4) (i := cellAt ns 2 % 4) (evpl_lst NoList.pm (evpa_cons NoList.pm (evp_tuple (ev_var rfl) h10) (evpa_cons NoList.pm (evp_v ev_c fun G _ => nolist_non) (evpa_cons NoList.pm (evp_str fun G => nolist_str) (evpa_cons NoList.pm (evp_v ev_c fun G _ => nolist_int) evpa_nil)))) (by decide))
      (ev_op (y := .int 4) (cell 2 _ _ rfl (E9.trans e10)) ev_c (rv_mod (by omega))) (md _ _ (by omega)).1 (md _ _ (by omega)).2 NoList.pm) fun y G e hy => spv_side_refused (N10.mono e) (.inr hy)) fun G11 e11 => k _
end

def topS (i : Nat) : Stmt := PySem.Challenge.pw_onewalls_k02_nets_refused.main.body.getD i (.Pass ⟨0, 0, 0, 0⟩)
abbrev s_is_whole : Stmt := topS 11
abbrev s_has : Stmt := inClass (topS 12) 1
abbrev s_cost : Stmt := inClass (topS 12) 5
abbrev s_init : Stmt := inClass (topS 12) 0
abbrev s_ties : Stmt := inClass (topS 12) 4
abbrev s_price : Stmt := inClass (topS 12) 8
abbrev s_l_cell_at : Stmt := topS 14
abbrev s_l_good : Stmt := topS 17
abbrev s_l_odd : Stmt := topS 18
abbrev s_l_refused : Stmt := topS 15
abbrev s_l_side_refused : Stmt := topS 16
abbrev s_law : Stmt := topS 19
structure Fs where
  f_is_whole : Addr
  d_is_whole : FuncData
  f_has : Addr
  d_has : FuncData
  f_cost : Addr
  d_cost : FuncData
  f_init : Addr
  d_init : FuncData
  f_ties : Addr
  d_ties : FuncData
  f_price : Addr
  d_price : FuncData
  f_l_cell_at : Addr
  d_l_cell_at : FuncData
  f_l_good : Addr
  d_l_good : FuncData
  f_l_odd : Addr
  d_l_odd : FuncData
  f_l_refused : Addr
  d_l_refused : FuncData
  f_l_side_refused : Addr
  d_l_side_refused : FuncData
  f_law : Addr
  d_law : FuncData
structure Txt (K : PySem.W.Frag) (mg : Str → Option Value) (A : Ads) (F : Fs) : Prop where
  ec : ErrC K A
  nc : NetC K A
  mgC : mg "Net" = some (.ref A.C)
  mkN : Mk K A.C F.f_init
  F_is_whole : Fun K "is_whole" "is_whole" s_is_whole F.f_is_whole F.d_is_whole
  B_is_whole : Binds K F.d_is_whole ["thing"] []
  g_is_whole : mg "is_whole" = some (.ref F.f_is_whole)
  F_has : Fun K "has" "Net.has" s_has F.f_has F.d_has
  B_has : Binds K F.d_has ["self", "place"] []
  m_has : Meth K A.C "has" F.f_has
  F_cost : Fun K "cost" "Net.cost" s_cost F.f_cost F.d_cost
  B_cost : Binds K F.d_cost ["self", "one", "other"] []
  m_cost : Meth K A.C "cost" F.f_cost
  F_init : Fun K "__init__" "Net.__init__" s_init F.f_init F.d_init
  B_init : Binds K F.d_init ["self", "many", "ties"] []
  F_ties : Fun K "ties" "Net.ties" s_ties F.f_ties F.d_ties
  B_ties : Binds K F.d_ties ["self"] []
  m_ties : Meth K A.C "ties" F.f_ties
  F_price : Fun K "price" "Net.price" s_price F.f_price F.d_price
  B_price : Binds K F.d_price ["self", "side"] []
  m_price : Meth K A.C "price" F.f_price
  F_l_cell_at : Fun K "_law_cell_at" "_law_cell_at" s_l_cell_at F.f_l_cell_at F.d_l_cell_at
  B_l_cell_at : Binds K F.d_l_cell_at ["_law_script", "_law_k"] []
  g_l_cell_at : mg "_law_cell_at" = some (.ref F.f_l_cell_at)
  F_l_good : Fun K "_law_good" "_law_good" s_l_good F.f_l_good F.d_l_good
  B_l_good : Binds K F.d_l_good ["_law_cell", "_law_many"] []
  g_l_good : mg "_law_good" = some (.ref F.f_l_good)
  F_l_odd : Fun K "_law_odd" "_law_odd" s_l_odd F.f_l_odd F.d_l_odd
  B_l_odd : Binds K F.d_l_odd ["_law_cell", "_law_many"] []
  g_l_odd : mg "_law_odd" = some (.ref F.f_l_odd)
  F_l_refused : Fun K "_law_refused" "_law_refused" s_l_refused F.f_l_refused F.d_l_refused
  B_l_refused : Binds K F.d_l_refused ["_law_many", "_law_ties"] []
  g_l_refused : mg "_law_refused" = some (.ref F.f_l_refused)
  F_l_side_refused : Fun K "_law_side_refused" "_law_side_refused" s_l_side_refused F.f_l_side_refused F.d_l_side_refused
  B_l_side_refused : Binds K F.d_l_side_refused ["_law_net", "_law_side"] []
  g_l_side_refused : mg "_law_side_refused" = some (.ref F.f_l_side_refused)
  F_law : Fun K "law" "law" s_law F.f_law F.d_law
  B_law : Binds K F.d_law ["_law_script"] []
  g_law : mg "law" = some (.ref F.f_law)
  b_ValueError : mg "ValueError" = none
  b_bool : mg "bool" = none
  b_int : mg "int" = none
  b_isinstance : mg "isinstance" = none
  b_len : mg "len" = none
  b_list : mg "list" = none
  b_max : mg "max" = none
  b_min : mg "min" = none
  b_range : mg "range" = none
  b_sum : mg "sum" = none
  b_tuple : mg "tuple" = none
  c_MOST_PLACES : ∃ t, mg "MOST_PLACES" = some (.int 24 t)
  c_MOST_TIES : ∃ t, mg "MOST_TIES" = some (.int 300 t)
  c_MOST_PRICE : ∃ t, mg "MOST_PRICE" = some (.int 1000000000 t)
  x_WallError : ExcT K mg "WallError" A.eWallError
  x_NoNet : ExcT K mg "NoNet" A.eNoNet
  x_NoPlace : ExcT K mg "NoPlace" A.eNoPlace
  x_NoSide : ExcT K mg "NoSide" A.eNoSide
  x_NoText : ExcT K mg "NoText" A.eNoText
section
variable {P : Program} {w : World} {K : PySem.W.Frag} {mg : Str → Option Value} {base : Heap}
theorem sc_is_whole : FnScope ["thing"] ["thing"] (defScope s_is_whole) := ⟨rfl, rfl, rfl, by decide +kernel, rfl, by decide +kernel, by decide +kernel⟩
theorem ok_is_whole {A : Ads} {F : Fs} (T : Txt K mg A F) : FnOk P w K mg base CX0 1 F.f_is_whole F.d_is_whole ["thing"] (sp_is_whole K A) := by
  refine Fun.ok T.F_is_whole sc_is_whole (len_is_whole K A) (fun cdv Ar outer s H vs Q E hr h => ⟨t_is_whole K A, ?_, pure_is_whole T.nc vs H Q E h⟩)
  exact (pss_one (ps_ret (pe_and (pe_callB call_isi (by rfl) T.b_isinstance (by decide +kernel) (pa_cons (pv 0) (pa_cons (pe_bltn (v := .ty "int") (by rfl) T.b_int (by decide +kernel) rfl) pa_nil))) (pe_one (pe_not (pe_callB call_isi (by rfl) T.b_isinstance (by decide +kernel) (pa_cons (pv 0) (pa_cons (pe_bltn (v := .ty "bool") (by rfl) T.b_bool (by decide +kernel) rfl) pa_nil))))))))

theorem sc_has : FnScope ["self", "place"] ["self", "place"] (defScope s_has) := ⟨rfl, rfl, rfl, by decide +kernel, rfl, by decide +kernel, by decide +kernel⟩
theorem ok_has {A : Ads} {F : Fs} (T : Txt K mg A F) : FnOk P w K mg base CX0 2 F.f_has F.d_has ["self", "place"] (sp_has K A) := by
  refine Fun.ok T.F_has sc_has (len_has K A) (fun cdv Ar outer s H vs Q E hr h => ⟨t_has K A, ?_, pure_has T.nc vs H Q E h⟩)
  exact (pss_one (ps_ret (pe_and (pe_call (ok_is_whole T) (hr.mono (by decide)) (by rfl) T.g_is_whole T.F_is_whole.kp T.B_is_whole .nil pass0 (pa_cons (pv 1) pa_nil)) (pe_one (pe_chain op_le op_lt pe_int (pv 1) (pe_fld (pv 0) rfl))))))

theorem sc_cost : FnScope ["self", "one", "other"] ["self", "one", "other"] (defScope s_cost) := ⟨rfl, rfl, rfl, by decide +kernel, rfl, by decide +kernel, by decide +kernel⟩
theorem ok_cost {A : Ads} {F : Fs} (T : Txt K mg A F) : FnOk P w K mg base CX0 1 F.f_cost F.d_cost ["self", "one", "other"] (sp_cost K A) := by
  refine Fun.ok T.F_cost sc_cost (len_cost K A) (fun cdv Ar outer s H vs Q E hr h => ⟨t_cost K A, ?_, pure_cost T.nc vs H Q E h⟩)
  exact (pss_one (ps_ret (pe_dget2 (hu_of hr) (pe_fld (pv 0) rfl) (pe_tup (pa_cons (pe_callB (call_min2 rfl) (by rfl) T.b_min (by decide +kernel) (pa_cons (pv 1) (pa_cons (pv 2) pa_nil))) (pa_cons (pe_callB (call_max2 rfl) (by rfl) T.b_max (by decide +kernel) (pa_cons (pv 1) (pa_cons (pv 2) pa_nil))) pa_nil))) pe_int ⟨rfl, rfl, rfl, rfl⟩)))

theorem sc_init : FnScope ["self", "many", "ties", "tie", "pair", "place"] ["self", "many", "ties"] (defScope s_init) := ⟨rfl, rfl, rfl, by decide +kernel, rfl, by decide +kernel, by decide +kernel⟩
theorem ok_init {A : Ads} {F : Fs} (T : Txt K mg A F) : FnOk P w K mg base (L2N.CX P w) 3 F.f_init F.d_init ["self", "many", "ties"] (sp_init K A) := by
  refine fun_okN T.F_init sc_init (len_init K A) (fun cdv Ar outer s H vs Q E hr h => ⟨t_init K A E, ?_, pure_init T.nc vs H Q E h⟩)
  exact (pss_cons (ps_if (PW.pt (pw_or (pt_not (pt_val (pe_call (ok_is_whole T) (hr.mono (by decide)) (by rfl) T.g_is_whole T.F_is_whole.kp T.B_is_whole .nil pass0 (pa_cons (pv 1) pa_nil)))) (pw_or1 (pt_not (pt_chain op_le op_le pe_int (pv 1) (pe_gi T.c_MOST_PLACES)))))) (pss_one (L2N.ps_raise rfl (L2N.takes_of rfl rfl rfl rfl) (T.x_NoNet.pmk (by rfl)))) pss_nil)
    (pss_cons (ps_if (PW.pt (pw_or (pt_not (pt_val (pe_callB call_isi (by rfl) T.b_isinstance (by decide +kernel) (pa_cons (pv 2) (pa_cons (pe_bltn (v := .ty "list") (by rfl) T.b_list (by decide +kernel) rfl) pa_nil))))) (pw_or1 (pt_cmpR op_gt (pe_callB call_len_seq (by rfl) T.b_len PySem.boot_len (pa_cons (pv 2) pa_nil)) (pe_gi T.c_MOST_TIES) (nomark _))))) (pss_one (L2N.ps_raise rfl (L2N.takes_of rfl rfl rfl rfl) (T.x_NoNet.pmk (by rfl)))) pss_nil)
    (pss_cons (ps_fld (pv 0) (pv 1) rfl)
    (pss_cons (ps_fld (pv 0) (pe_lst pa_nil) rfl)
    (pss_cons (ps_fld (pv 0) pe_dnewT rfl)
    (pss_cons (ps_fld (pv 0) (pe_lc (own := [("place", 5)]) (g := (gName 5)) (tt := tYes) rfl sc_init.nd (pi_range1 (by rfl) T.b_range (pa_cons (pv 1) pa_nil)) (blkOk_by (own := [("place", 5)]) (N := ["self", "many", "ties", "tie", "pair", "place"]) (sc := defScope s_init) (by decide +kernel)) (fun _ _ _ _ _ => (pg_name (i := 5) sc_init.nd rfl (by first | exact Or.inl rfl | exact Or.inr rfl))) (fun _ _ _ _ _ => pts_nil) (fun _ _ _ _ _ => (pe_lst pa_nil))) rfl)
    (pss_one (ps_for (L2.passes_of rfl) rfl (pi_list (pv 2)) (pg_name (i := 3) sc_init.nd rfl (by first | exact Or.inl rfl | exact Or.inr rfl)) (pss_cons (ps_if (PW.pt (pw_or (pt_not (pt_val (pe_callB call_isi (by rfl) T.b_isinstance (by decide +kernel) (pa_cons (pv 3) (pa_cons (pe_bltn (v := .ty "tuple") (by rfl) T.b_tuple (by decide +kernel) rfl) pa_nil))))) (pw_or (pt_cmpR op_ne (pe_callB call_len_seq (by rfl) T.b_len PySem.boot_len (pa_cons (pv 3) pa_nil)) pe_int (nomark _)) (pw_or (pt_not (pt_val (pe_meth (pv 0) T.nc.cl T.m_has (ok_has T) (hr.mono (by decide)) T.B_has .nil pass0 (pa_cons (pe_ix ix_tup (pv 3) pe_int (fun _ _ => rfl)) pa_nil)))) (pw_or1 (pt_not (pt_val (pe_meth (pv 0) T.nc.cl T.m_has (ok_has T) (hr.mono (by decide)) T.B_has .nil pass0 (pa_cons (pe_ix ix_tup (pv 3) pe_int (fun _ _ => rfl)) pa_nil))))))))) (pss_one (L2N.ps_raise rfl (L2N.takes_of rfl rfl rfl rfl) (T.x_NoNet.pmk (by rfl)))) pss_nil)
    (pss_cons (ps_if (PW.pt (pw_or (pt_cmpR op_eq (pe_ix ix_tup (pv 3) pe_int (fun _ _ => rfl)) (pe_ix ix_tup (pv 3) pe_int (fun _ _ => rfl)) (nomark _)) (pw_or (pt_not (pt_val (pe_call (ok_is_whole T) (hr.mono (by decide)) (by rfl) T.g_is_whole T.F_is_whole.kp T.B_is_whole .nil pass0 (pa_cons (pe_ix ix_tup (pv 3) pe_int (fun _ _ => rfl)) pa_nil)))) (pw_or1 (pt_not (pt_chain op_le op_le pe_int (pe_ix ix_tup (pv 3) pe_int (fun _ _ => rfl)) (pe_gi T.c_MOST_PRICE))))))) (pss_one (L2N.ps_raise rfl (L2N.takes_of rfl rfl rfl rfl) (T.x_NoNet.pmk (by rfl)))) pss_nil)
    (pss_cons (ps_set (i := 4) sc_init.nd rfl (by first | exact Or.inl rfl | exact Or.inr rfl) (pe_tup (pa_cons (pe_callB (call_min2 rfl) (by rfl) T.b_min (by decide +kernel) (pa_cons (pe_ix ix_tup (pv 3) pe_int (fun _ _ => rfl)) (pa_cons (pe_ix ix_tup (pv 3) pe_int (fun _ _ => rfl)) pa_nil))) (pa_cons (pe_callB (call_max2 rfl) (by rfl) T.b_max (by decide +kernel) (pa_cons (pe_ix ix_tup (pv 3) pe_int (fun _ _ => rfl)) (pa_cons (pe_ix ix_tup (pv 3) pe_int (fun _ _ => rfl)) pa_nil))) pa_nil))))
    (pss_cons (ps_expr (pe_bm PySem.F.plainAttrs_list PySem.F.slot_list_append PySem.F.type_list_append mt_append (pe_fld (pv 0) rfl) (pa_cons (pv 3) pa_nil)))
    (pss_cons (ps_if (pt_cmp (pc_dnotin (hu_of hr) (pv 4) (pe_fld (pv 0) rfl))) (pss_cons (ps_expr (pe_bm PySem.F.plainAttrs_list PySem.F.slot_list_append PySem.F.type_list_append mt_append (pe_ix ix_list (pe_fld (pv 0) rfl) (pe_ix ix_tup (pv 4) pe_int (fun _ _ => rfl)) (fun _ _ => rfl)) (pa_cons (pe_ix ix_tup (pv 4) pe_int (fun _ _ => rfl)) pa_nil)))
    (pss_one (ps_expr (pe_bm PySem.F.plainAttrs_list PySem.F.slot_list_append PySem.F.type_list_append mt_append (pe_ix ix_list (pe_fld (pv 0) rfl) (pe_ix ix_tup (pv 4) pe_int (fun _ _ => rfl)) (fun _ _ => rfl)) (pa_cons (pe_ix ix_tup (pv 4) pe_int (fun _ _ => rfl)) pa_nil))))) pss_nil)
    (pss_one (ps_dput (hu_of hr) (pe_fld (pv 0) rfl) (pv 4) (pe_op op_add (pe_meth (pv 0) T.nc.cl T.m_cost (ok_cost T) (hr.mono (by decide)) T.B_cost .nil pass0 (pa_cons (pe_ix ix_tup (pv 4) pe_int (fun _ _ => rfl)) (pa_cons (pe_ix ix_tup (pv 4) pe_int (fun _ _ => rfl)) pa_nil))) (pe_ix ix_tup (pv 3) pe_int (fun _ _ => rfl))) rfl)))))))))))))))

theorem sc_ties : FnScope ["self"] ["self"] (defScope s_ties) := ⟨rfl, rfl, rfl, by decide +kernel, rfl, by decide +kernel, by decide +kernel⟩
theorem ok_ties {A : Ads} {F : Fs} (T : Txt K mg A F) : FnOk P w K mg base CX0 1 F.f_ties F.d_ties ["self"] (sp_ties K A) := by
  refine Fun.ok T.F_ties sc_ties (len_ties K A) (fun cdv Ar outer s H vs Q E hr h => ⟨t_ties K A, ?_, pure_ties T.nc vs H Q E h⟩)
  exact (pss_one (ps_ret (pe_callTy call_list_of (by rfl) T.b_list (by decide +kernel) (pa_cons (pe_fld (pv 0) rfl) pa_nil))))

theorem sc_price : FnScope ["self", "side", "at", "tie"] ["self", "side"] (defScope s_price) := ⟨rfl, rfl, rfl, by decide +kernel, rfl, by decide +kernel, by decide +kernel⟩
theorem ok_price {A : Ads} {F : Fs} (T : Txt K mg A F) : FnOk P w K mg base (L2N.CX P w) 3 F.f_price F.d_price ["self", "side"] (sp_price K A) := by
  refine fun_okN T.F_price sc_price (len_price K A) (fun cdv Ar outer s H vs Q E hr h => ⟨t_price K A E, ?_, pure_price T.nc vs H Q E h⟩)
  exact (pss_cons (ps_if (pt_not (pt_val (pe_callB call_isi (by rfl) T.b_isinstance (by decide +kernel) (pa_cons (pv 1) (pa_cons (pe_bltn (v := .ty "list") (by rfl) T.b_list (by decide +kernel) rfl) pa_nil))))) (pss_one (L2N.ps_raise rfl (L2N.takes_of rfl rfl rfl rfl) (T.x_NoSide.pmk (by rfl)))) pss_nil)
    (pss_cons (ps_for (L2.passes_of rfl) rfl (pi_range1 (by rfl) T.b_range (pa_cons (pe_callB call_len_seq (by rfl) T.b_len PySem.boot_len (pa_cons (pv 1) pa_nil)) pa_nil)) (pg_name (i := 2) sc_price.nd rfl (by first | exact Or.inl rfl | exact Or.inr rfl)) (pss_one (ps_if (PW.pt (pw_or (pt_not (pt_val (pe_meth (pv 0) T.nc.cl T.m_has (ok_has T) (hr.mono (by decide)) T.B_has .nil pass0 (pa_cons (pe_ix ix_list (pv 1) (pv 2) (fun _ _ => rfl)) pa_nil)))) (pw_or1 (pt_cmpR op_in_seq (pe_ix ix_list (pv 1) (pv 2) (fun _ _ => rfl)) (pe_slice sl_list (pv 1) po_none (po_some (pv 2))) (by rfl))))) (pss_one (L2N.ps_raise rfl (L2N.takes_of rfl rfl rfl rfl) (T.x_NoSide.pmk (by rfl)))) pss_nil)))
    (pss_one (ps_ret (pe_callB (cr_sum rfl) (by rfl) T.b_sum (by decide +kernel) (pa_cons (pe_lc (own := [("tie", 3)]) (g := (gName 3)) (tt := (tTest (tOp rNe (tOp (rIn K false) (tOp (rIxT K) (tVar 3) (tC (.int 0))) (tVar 1)) (tOp (rIn K false) (tOp (rIxT K) (tVar 3) (tC (.int 1))) (tVar 1))))) rfl sc_price.nd (pi_list (pe_fld (pv 0) rfl)) (blkOk_by (own := [("tie", 3)]) (N := ["self", "side", "at", "tie"]) (sc := defScope s_price) (by decide +kernel)) (fun _ _ _ _ _ => (pg_name (i := 3) sc_price.nd rfl (by first | exact Or.inl rfl | exact Or.inr rfl))) (fun _ _ _ _ _ => (pts_one (pt_cmpR op_ne (pe_cmpR op_in_seq (pe_ix ix_tup (pv 3) pe_int (fun _ _ => rfl)) (pv 1) (by rfl)) (pe_cmpR op_in_seq (pe_ix ix_tup (pv 3) pe_int (fun _ _ => rfl)) (pv 1) (by rfl)) (nomark _)))) (fun _ _ _ _ _ => (pe_ix ix_tup (pv 3) pe_int (fun _ _ => rfl)))) pa_nil))))))

theorem sc_l_cell_at : FnScope ["_law_script", "_law_k"] ["_law_script", "_law_k"] (defScope s_l_cell_at) := ⟨rfl, rfl, rfl, by decide +kernel, rfl, by decide +kernel, by decide +kernel⟩
theorem ok_l_cell_at {A : Ads} {F : Fs} (T : Txt K mg A F) : FnOk P w K mg base CX0 1 F.f_l_cell_at F.d_l_cell_at ["_law_script", "_law_k"] (sp_l_cell_at K A) := by
  refine Fun.ok T.F_l_cell_at sc_l_cell_at (len_l_cell_at K A) (fun cdv Ar outer s H vs Q E hr h => ⟨t_l_cell_at K A, ?_, pure_l_cell_at vs H Q E h⟩)
  exact (pss_cons (ps_if (pt_cmpR op_lt (pv 1) (pe_callB call_len_seq (by rfl) T.b_len PySem.boot_len (pa_cons (pv 0) pa_nil)) (nomark _)) (pss_one (ps_ret (pe_ix ix_list (pv 0) (pv 1) (fun _ _ => rfl)))) pss_nil)
    (pss_one (ps_ret pe_int)))

theorem sc_l_good : FnScope ["_law_cell", "_law_many", "_law_one"] ["_law_cell", "_law_many"] (defScope s_l_good) := ⟨rfl, rfl, rfl, by decide +kernel, rfl, by decide +kernel, by decide +kernel⟩
theorem ok_l_good {A : Ads} {F : Fs} (T : Txt K mg A F) : FnOk P w K mg base CX0 1 F.f_l_good F.d_l_good ["_law_cell", "_law_many"] (sp_l_good K A) := by
  refine Fun.ok T.F_l_good sc_l_good (len_l_good K A) (fun cdv Ar outer s H vs Q E hr h => ⟨t_l_good K A, ?_, pure_l_good vs H Q E h⟩)
  exact (pss_cons (ps_set (i := 2) sc_l_good.nd rfl (by first | exact Or.inl rfl | exact Or.inr rfl) (pe_op op_mod (pv 0) (pv 1)))
    (pss_one (ps_ret (pe_tup (pa_cons (pv 2) (pa_cons (pe_op op_mod (pe_op op_add (pe_op op_add (pv 2) pe_int) (pe_op op_mod (pe_op op_fdiv (pv 0) pe_int) (pe_op op_sub (pv 1) pe_int))) (pv 1)) (pa_cons (pe_op op_add pe_int (pe_op op_mod (pe_op op_fdiv (pv 0) pe_int) pe_int)) pa_nil)))))))

theorem sc_l_odd : FnScope ["_law_cell", "_law_many", "_law_some"] ["_law_cell", "_law_many"] (defScope s_l_odd) := ⟨rfl, rfl, rfl, by decide +kernel, rfl, by decide +kernel, by decide +kernel⟩
theorem ok_l_odd {A : Ads} {F : Fs} (T : Txt K mg A F) : FnOk P w K mg base CX0 1 F.f_l_odd F.d_l_odd ["_law_cell", "_law_many"] (sp_l_odd K A) := by
  refine Fun.ok T.F_l_odd sc_l_odd (len_l_odd K A) (fun cdv Ar outer s H vs Q E hr h => ⟨t_l_odd K A, ?_, pure_l_odd vs H Q E h⟩)
  exact (pss_cons (ps_set (i := 2) sc_l_odd.nd rfl (by first | exact Or.inl rfl | exact Or.inr rfl) (pe_lst (pa_cons (pe_tup (pa_cons pe_int (pa_cons pe_int (pa_cons pe_int pa_nil)))) (pa_cons (pe_tup (pa_cons pe_int (pa_cons (pv 1) (pa_cons pe_int pa_nil)))) (pa_cons (pe_tup (pa_cons (pv 1) (pa_cons pe_int (pa_cons pe_int pa_nil)))) (pa_cons (pe_tup (pa_cons (pe_un un_neg pe_int) (pa_cons pe_int (pa_cons pe_int pa_nil)))) (pa_cons (pe_tup (pa_cons pe_int (pa_cons (pe_un un_neg pe_int) (pa_cons pe_int pa_nil)))) (pa_cons (pe_tup (pa_cons pe_int (pa_cons pe_int (pa_cons pe_int pa_nil)))) (pa_cons (pe_tup (pa_cons pe_int (pa_cons pe_int (pa_cons (pe_un un_neg pe_int) pa_nil)))) (pa_cons (pe_tup (pa_cons pe_int (pa_cons pe_int (pa_cons pe_int pa_nil)))) pa_nil))))))))))
    (pss_cons (ps_set (i := 2) sc_l_odd.nd rfl (by first | exact Or.inl rfl | exact Or.inr rfl) (pe_op op_cat (pv 2) (pe_lst (pa_cons (pe_tup (pa_cons pe_int (pa_cons pe_int (pa_cons pe_bl pa_nil)))) (pa_cons (pe_tup (pa_cons pe_bl (pa_cons pe_int (pa_cons pe_int pa_nil)))) (pa_cons (pe_tup (pa_cons pe_int (pa_cons pe_int pa_nil))) (pa_cons (pe_tup (pa_cons pe_int (pa_cons pe_int (pa_cons pe_int (pa_cons pe_int pa_nil))))) (pa_cons (pe_lst (pa_cons pe_int (pa_cons pe_int (pa_cons pe_int pa_nil)))) (pa_cons pe_non (pa_cons pe_int (pa_cons (pe_tup (pa_cons pe_str (pa_cons pe_int (pa_cons pe_int pa_nil)))) (pa_cons (pe_tup (pa_cons pe_int (pa_cons pe_int (pa_cons pe_str pa_nil)))) pa_nil))))))))))))
    (pss_cons (ps_set (i := 2) sc_l_odd.nd rfl (by first | exact Or.inl rfl | exact Or.inr rfl) (pe_op op_cat (pv 2) (pe_lst (pa_cons (pe_tup (pa_cons (pe_op op_sub (pv 1) pe_int) (pa_cons (pe_op op_sub (pv 1) pe_int) (pa_cons pe_int pa_nil)))) (pa_cons (pe_tup (pa_cons pe_int (pa_cons pe_bl (pa_cons pe_int pa_nil)))) (pa_cons (pe_tup (pa_cons pe_int (pa_cons pe_bl (pa_cons pe_int pa_nil)))) (pa_cons (pe_tup (pa_cons pe_bl (pa_cons pe_int (pa_cons pe_int pa_nil)))) (pa_cons (pe_tup (pa_cons pe_int (pa_cons pe_str (pa_cons pe_int pa_nil)))) pa_nil))))))))
    (pss_cons (ps_set (i := 2) sc_l_odd.nd rfl (by first | exact Or.inl rfl | exact Or.inr rfl) (pe_op op_cat (pv 2) (pe_lst (pa_cons (pe_tup (pa_cons (pe_lst (pa_cons pe_int pa_nil)) (pa_cons pe_int (pa_cons pe_int pa_nil)))) (pa_cons (pe_tup (pa_cons pe_int (pa_cons pe_int (pa_cons (pe_tup (pa_cons pe_int pa_nil)) pa_nil)))) pa_nil)))))
    (pss_one (ps_ret (pe_ix ix_list (pv 2) (pe_op op_mod (pv 0) pe_int) (fun _ _ => rfl))))))))

theorem sc_l_refused : FnScope ["_law_many", "_law_ties", "e"] ["_law_many", "_law_ties"] (defScope s_l_refused) := ⟨rfl, rfl, rfl, by decide +kernel, rfl, by decide +kernel, by decide +kernel⟩
theorem ok_l_refused {A : Ads} {F : Fs} (T : Txt K mg A F) : FnOk P w K mg base CX0 5 F.f_l_refused F.d_l_refused ["_law_many", "_law_ties"] (sp_l_refused K A) := by
  refine Fun.ok T.F_l_refused sc_l_refused (len_l_refused K A) (fun cdv Ar outer s H vs Q E hr h => ⟨t_l_refused K A, ?_, pure_l_refused T.ec vs H Q E h⟩)
  exact (pss_cons (L2N.ps_try_as (i := 2) (tb := fun W => (fun EW => (tDrop (tMake A.C (sp_init K A) [] EW (tCons (tVar 0) (tCons (tVar 1) tNil))))) (anyS 3 W)) (ts := tsOnly A.eNoNet (fun ea => (tSeq (tIfS (tB (tCB (rIsET K A.eNoNet ea) (tCons (tVar 2) (tCons (tTup (tCons (tC (.ref A.eNoPlace)) (tCons (tC (.ref A.eNoSide)) (tCons (tC (.ref A.eNoText)) tNil)))) tNil)))) (tRet (tC (.bl false))) tNext)
    (tRet (tAndV (tCB (rIsE K A.eNoNet ea) (tCons (tVar 2) (tCons (tC (.ref A.eWallError)) tNil))) (tCB (rIsE K A.eNoNet ea) (tCons (tVar 2) (tCons (tC (.ty "ValueError")) tNil)))))))) (Wout := fun _ _ _ _ => False) rfl rfl sc_l_refused.nd rfl rfl ⟨rfl, by decide, Or.inl T.x_NoNet.gC⟩ take0N (fun W pn xe tk _ => (pss_one (ps_expr (pe_make T.mkN (ok_init T) (hr.mono (by decide)) (by rfl) T.mgC T.B_init .nil (passL tk) (pa_cons (pv 0) (pa_cons (pv 1) pa_nil)))))) (fun ea oe cls d pn hz hf => pss_only hz fun hzc => (pss_cons (ps_if (pt_val (pe_callB (call_isET (T.ec.cc .net) hzc hf) (by rfl) T.b_isinstance (by decide +kernel) (pa_cons (pv 2) (pa_cons (pe_tup (pa_cons (pe_glob (v := .ref A.eNoPlace) (by rfl) T.x_NoPlace.gC rfl) (pa_cons (pe_glob (v := .ref A.eNoSide) (by rfl) T.x_NoSide.gC rfl) (pa_cons (pe_glob (v := .ref A.eNoText) (by rfl) T.x_NoText.gC rfl) pa_nil)))) pa_nil)))) (pss_one (ps_ret pe_bl)) pss_nil)
    (pss_one (ps_ret (pe_and (pe_callB (call_isE (T.ec.cc .net) hzc hf) (by rfl) T.b_isinstance (by decide +kernel) (pa_cons (pv 2) (pa_cons (pe_glob (v := .ref A.eWallError) (by rfl) T.x_WallError.gC rfl) pa_nil))) (pe_one (pe_callB (call_isE (T.ec.cc .net) hzc hf) (by rfl) T.b_isinstance (by decide +kernel) (pa_cons (pv 2) (pa_cons (pe_bltn (v := .ty "ValueError") (by rfl) T.b_ValueError (by decide +kernel) rfl) pa_nil))))))))))
    (pss_one (ps_ret pe_bl)))

theorem sc_l_side_refused : FnScope ["_law_net", "_law_side", "e"] ["_law_net", "_law_side"] (defScope s_l_side_refused) := ⟨rfl, rfl, rfl, by decide +kernel, rfl, by decide +kernel, by decide +kernel⟩
theorem ok_l_side_refused {A : Ads} {F : Fs} (T : Txt K mg A F) : FnOk P w K mg base CX0 4 F.f_l_side_refused F.d_l_side_refused ["_law_net", "_law_side"] (sp_l_side_refused K A) := by
  refine Fun.ok T.F_l_side_refused sc_l_side_refused (len_l_side_refused K A) (fun cdv Ar outer s H vs Q E hr h => ⟨t_l_side_refused K A, ?_, pure_l_side_refused T.ec vs H Q E h⟩)
  exact (pss_cons (L2N.ps_try_as (i := 2) (tb := fun W => (fun EW => (tDrop (tMeth A.C "price" (sp_price K A) [] EW (tVar 0) (tCons (tVar 1) tNil)))) (anyS 3 W)) (ts := tsOnly A.eNoSide (fun ea => (tSeq (tIfS (tB (tCB (rIsET K A.eNoSide ea) (tCons (tVar 2) (tCons (tTup (tCons (tC (.ref A.eNoNet)) (tCons (tC (.ref A.eNoPlace)) (tCons (tC (.ref A.eNoText)) tNil)))) tNil)))) (tRet (tC (.bl false))) tNext)
    (tRet (tAndV (tCB (rIsE K A.eNoSide ea) (tCons (tVar 2) (tCons (tC (.ref A.eWallError)) tNil))) (tCB (rIsE K A.eNoSide ea) (tCons (tVar 2) (tCons (tC (.ty "ValueError")) tNil)))))))) (Wout := fun _ _ _ _ => False) rfl rfl sc_l_side_refused.nd rfl rfl ⟨rfl, by decide, Or.inl T.x_NoSide.gC⟩ take0N (fun W pn xe tk _ => (pss_one (ps_expr (pe_meth (pv 0) T.nc.cl T.m_price (ok_price T) (hr.mono (by decide)) T.B_price .nil (passL tk) (pa_cons (pv 1) pa_nil))))) (fun ea oe cls d pn hz hf => pss_only hz fun hzc => (pss_cons (ps_if (pt_val (pe_callB (call_isET (T.ec.cc .side) hzc hf) (by rfl) T.b_isinstance (by decide +kernel) (pa_cons (pv 2) (pa_cons (pe_tup (pa_cons (pe_glob (v := .ref A.eNoNet) (by rfl) T.x_NoNet.gC rfl) (pa_cons (pe_glob (v := .ref A.eNoPlace) (by rfl) T.x_NoPlace.gC rfl) (pa_cons (pe_glob (v := .ref A.eNoText) (by rfl) T.x_NoText.gC rfl) pa_nil)))) pa_nil)))) (pss_one (ps_ret pe_bl)) pss_nil)
    (pss_one (ps_ret (pe_and (pe_callB (call_isE (T.ec.cc .side) hzc hf) (by rfl) T.b_isinstance (by decide +kernel) (pa_cons (pv 2) (pa_cons (pe_glob (v := .ref A.eWallError) (by rfl) T.x_WallError.gC rfl) pa_nil))) (pe_one (pe_callB (call_isE (T.ec.cc .side) hzc hf) (by rfl) T.b_isinstance (by decide +kernel) (pa_cons (pv 2) (pa_cons (pe_bltn (v := .ty "ValueError") (by rfl) T.b_ValueError (by decide +kernel) rfl) pa_nil))))))))))
    (pss_one (ps_ret pe_bl)))

theorem sc_law : FnScope ["_law_script", "_law_way", "_law_many", "_law_ties", "_law_wrong", "_law_dear", "_law_net", "_law_place", "_law_side", "_law_at", "_law_odd_here", "_law_cell", "_law_k", "_law_one"] ["_law_script"] (defScope s_law) := ⟨rfl, rfl, rfl, by decide +kernel, rfl, by decide +kernel, by decide +kernel⟩
theorem ok_law {A : Ads} {F : Fs} (T : Txt K mg A F) : FnOk P w K mg base CX0 6 F.f_law F.d_law ["_law_script"] (sp_law K A) := by
  refine Fun.ok T.F_law sc_law (len_law K A) (fun cdv Ar outer s H vs Q E hr h => ⟨t_law K A, ?_, pure_law T.nc vs H Q E h⟩)
  exact (pss_cons (ps_set (i := 1) sc_law.nd rfl (by first | exact Or.inl rfl | exact Or.inr rfl) (pe_ix ix_list (pe_lst (pa_cons pe_int (pa_cons pe_int (pa_cons pe_int (pa_cons pe_int (pa_cons pe_int (pa_cons pe_int (pa_cons pe_int (pa_cons pe_int (pa_cons pe_int pa_nil)))))))))) (pe_op op_mod (pe_call (ok_l_cell_at T) (hr.mono (by decide)) (by rfl) T.g_l_cell_at T.F_l_cell_at.kp T.B_l_cell_at .nil pass0 (pa_cons (pv 0) (pa_cons pe_int pa_nil))) pe_int) (fun _ _ => rfl)))
    (pss_cons (ps_set (i := 2) sc_law.nd rfl (by first | exact Or.inl rfl | exact Or.inr rfl) (pe_op op_add pe_int (pe_op op_mod (pe_op op_fdiv (pe_call (ok_l_cell_at T) (hr.mono (by decide)) (by rfl) T.g_l_cell_at T.F_l_cell_at.kp T.B_l_cell_at .nil pass0 (pa_cons (pv 0) (pa_cons pe_int pa_nil))) pe_int) pe_int)))
    (pss_cons (ps_setLc (i := 3) (own := [("_law_cell", 11)]) (g := (gName 11)) (tt := tYes) rfl sc_law.nd rfl rfl (sw_true rfl rfl rfl (by decide +kernel)) (pi_list (pe_slice sl_list (pv 0) (po_some pe_int) (po_some pe_int))) (blkOk_by (own := [("_law_cell", 11)]) (N := ["_law_script", "_law_way", "_law_many", "_law_ties", "_law_wrong", "_law_dear", "_law_net", "_law_place", "_law_side", "_law_at", "_law_odd_here", "_law_cell", "_law_k", "_law_one"]) (sc := defScope s_law) (by decide +kernel)) (fun _ _ _ _ _ => (pg_name (i := 11) sc_law.nd rfl (by first | exact Or.inl rfl | exact Or.inr rfl))) (fun _ _ _ _ _ => pts_nil) (fun _ _ _ _ _ => (pe_call (ok_l_good T) (hr.mono (by decide)) (by rfl) T.g_l_good T.F_l_good.kp T.B_l_good .nil pass0 (pa_cons (pv 11) (pa_cons (pv 2) pa_nil)))))
    (pss_cons (ps_if (pt_cmpR op_eq (pv 1) pe_int (nomark _)) (pss_cons (ps_set (i := 4) sc_law.nd rfl (by first | exact Or.inl rfl | exact Or.inr rfl) (pe_ix ix_list (pe_lst (pa_cons pe_int (pa_cons pe_int (pa_cons (pe_op op_sub (pe_un un_neg pe_int) (pv 2)) (pa_cons (pe_op op_pow pe_int pe_int) (pa_cons pe_bl (pa_cons pe_str (pa_cons pe_non (pa_cons (pe_lst (pa_cons pe_int pa_nil)) pa_nil))))))))) (pe_op op_mod (pe_call (ok_l_cell_at T) (hr.mono (by decide)) (by rfl) T.g_l_cell_at T.F_l_cell_at.kp T.B_l_cell_at .nil pass0 (pa_cons (pv 0) (pa_cons pe_int pa_nil))) pe_int) (fun _ _ => rfl)))
    (pss_cons (ps_set (i := 5) sc_law.nd rfl (by first | exact Or.inl rfl | exact Or.inr rfl) (pe_make T.mkN (ok_init T) (hr.mono (by decide)) (by rfl) T.mgC T.B_init .nil passN (pa_cons pe_int (pa_cons (pe_lst (pa_cons (pe_tup (pa_cons pe_int (pa_cons pe_int (pa_cons pe_int pa_nil)))) pa_nil)) pa_nil))))
    (pss_cons (ps_if (PW.pt (pw_or (pt_cmpR (op_neD hr.units) (pe_meth0 (pv 5) T.nc.cl T.m_ties (ok_ties T) (hr.mono (by decide)) T.B_ties .nil pass0) (pe_lst (pa_cons (pe_tup (pa_cons pe_int (pa_cons pe_int (pa_cons pe_int pa_nil)))) pa_nil)) (nomark _)) (pw_or1 (pt_not (pt_val (pe_call (ok_l_refused T) (hr.mono (by decide)) (by rfl) T.g_l_refused T.F_l_refused.kp T.B_l_refused .nil pass0 (pa_cons pe_int (pa_cons (pe_lst (pa_cons (pe_tup (pa_cons pe_int (pa_cons pe_int (pa_cons pe_int pa_nil)))) pa_nil)) pa_nil)))))))) (pss_one (ps_ret pe_bl)) pss_nil)
    (pss_one (ps_ret (pe_and (pe_call (ok_l_refused T) (hr.mono (by decide)) (by rfl) T.g_l_refused T.F_l_refused.kp T.B_l_refused .nil pass0 (pa_cons (pv 4) (pa_cons (pe_lst pa_nil) pa_nil))) (pe_and (pe_cmpR op_eq (pe_fld (pe_make T.mkN (ok_init T) (hr.mono (by decide)) (by rfl) T.mgC T.B_init .nil passN (pa_cons pe_int (pa_cons (pe_lst pa_nil) pa_nil))) rfl) pe_int (nomark _)) (pe_one (pe_cmpR op_eq (pe_fld (pe_make T.mkN (ok_init T) (hr.mono (by decide)) (by rfl) T.mgC T.B_init .nil passN (pa_cons pe_int (pa_cons (pe_lst pa_nil) pa_nil))) rfl) pe_int (nomark _)))))))))) pss_nil)
    (pss_cons (ps_if (pt_cmpR op_eq (pv 1) pe_int (nomark _)) (pss_cons (ps_expr (pe_bm PySem.F.plainAttrs_list PySem.F.slot_list_insert PySem.F.type_list_insert mt_insert (pv 3) (pa_cons (pe_op op_mod (pe_call (ok_l_cell_at T) (hr.mono (by decide)) (by rfl) T.g_l_cell_at T.F_l_cell_at.kp T.B_l_cell_at .nil pass0 (pa_cons (pv 0) (pa_cons pe_int pa_nil))) (pe_op op_add (pe_callB call_len_seq (by rfl) T.b_len PySem.boot_len (pa_cons (pv 3) pa_nil)) pe_int)) (pa_cons (pe_call (ok_l_odd T) (hr.mono (by decide)) (by rfl) T.g_l_odd T.F_l_odd.kp T.B_l_odd .nil pass0 (pa_cons (pe_call (ok_l_cell_at T) (hr.mono (by decide)) (by rfl) T.g_l_cell_at T.F_l_cell_at.kp T.B_l_cell_at .nil pass0 (pa_cons (pv 0) (pa_cons pe_int pa_nil))) (pa_cons (pv 2) pa_nil))) pa_nil))))
    (pss_one (ps_ret (pe_call (ok_l_refused T) (hr.mono (by decide)) (by rfl) T.g_l_refused T.F_l_refused.kp T.B_l_refused .nil pass0 (pa_cons (pv 2) (pa_cons (pv 3) pa_nil)))))) pss_nil)
    (pss_cons (ps_if (pt_cmpR op_eq (pv 1) pe_int (nomark _)) (pss_cons (ps_setLc (i := 3) (own := [("_law_k", 12)]) (g := (gName 12)) (tt := tYes) rfl sc_law.nd rfl rfl (sw_true rfl rfl rfl (by decide +kernel)) (pi_range1 (by rfl) T.b_range (pa_cons pe_int pa_nil)) (blkOk_by (own := [("_law_k", 12)]) (N := ["_law_script", "_law_way", "_law_many", "_law_ties", "_law_wrong", "_law_dear", "_law_net", "_law_place", "_law_side", "_law_at", "_law_odd_here", "_law_cell", "_law_k", "_law_one"]) (sc := defScope s_law) (by decide +kernel)) (fun _ _ _ _ _ => (pg_name (i := 12) sc_law.nd rfl (by first | exact Or.inl rfl | exact Or.inr rfl))) (fun _ _ _ _ _ => pts_nil) (fun _ _ _ _ _ => (pe_call (ok_l_good T) (hr.mono (by decide)) (by rfl) T.g_l_good T.F_l_good.kp T.B_l_good .nil pass0 (pa_cons (pe_op op_add (pe_call (ok_l_cell_at T) (hr.mono (by decide)) (by rfl) T.g_l_cell_at T.F_l_cell_at.kp T.B_l_cell_at .nil pass0 (pa_cons (pv 0) (pa_cons pe_int pa_nil))) (pe_op op_mul pe_int (pv 12))) (pa_cons (pv 2) pa_nil)))))
    (pss_one (ps_ret (pe_and (pe_cmpR (op_eqD hr.units) (pe_meth0 (pe_make T.mkN (ok_init T) (hr.mono (by decide)) (by rfl) T.mgC T.B_init .nil passN (pa_cons (pv 2) (pa_cons (pv 3) pa_nil))) T.nc.cl T.m_ties (ok_ties T) (hr.mono (by decide)) T.B_ties .nil pass0) (pv 3) (nomark _)) (pe_one (pe_call (ok_l_refused T) (hr.mono (by decide)) (by rfl) T.g_l_refused T.F_l_refused.kp T.B_l_refused .nil pass0 (pa_cons (pv 2) (pa_cons (pe_op op_cat (pv 3) (pe_lst (pa_cons (pe_tup (pa_cons pe_int (pa_cons pe_int (pa_cons pe_int pa_nil)))) pa_nil))) pa_nil)))))))) pss_nil)
    (pss_cons (ps_if (pt_cmpR op_eq (pv 1) pe_int (nomark _)) (pss_one (ps_ret (pe_call (ok_l_refused T) (hr.mono (by decide)) (by rfl) T.g_l_refused T.F_l_refused.kp T.B_l_refused .nil pass0 (pa_cons (pv 2) (pa_cons (pe_ix ix_list (pe_lst (pa_cons (pe_callTy call_tuple_of (by rfl) T.b_tuple (by decide +kernel) (pa_cons (pv 3) pa_nil)) (pa_cons pe_non (pa_cons pe_str (pa_cons pe_int (pa_cons pe_dnewK pa_nil)))))) (pe_op op_mod (pe_call (ok_l_cell_at T) (hr.mono (by decide)) (by rfl) T.g_l_cell_at T.F_l_cell_at.kp T.B_l_cell_at .nil pass0 (pa_cons (pv 0) (pa_cons pe_int pa_nil))) pe_int) (fun _ _ => rfl)) pa_nil))))) pss_nil)
    (pss_cons (ps_set (i := 6) sc_law.nd rfl (by first | exact Or.inl rfl | exact Or.inr rfl) (pe_make T.mkN (ok_init T) (hr.mono (by decide)) (by rfl) T.mgC T.B_init .nil passN (pa_cons (pv 2) (pa_cons (pv 3) pa_nil))))
    (pss_cons (ps_set (i := 7) sc_law.nd rfl (by first | exact Or.inl rfl | exact Or.inr rfl) (pe_op op_mod (pe_call (ok_l_cell_at T) (hr.mono (by decide)) (by rfl) T.g_l_cell_at T.F_l_cell_at.kp T.B_l_cell_at .nil pass0 (pa_cons (pv 0) (pa_cons pe_int pa_nil))) (pv 2)))
    (pss_cons (ps_setLc (i := 8) (own := [("_law_one", 13)]) (g := (gName 13)) (tt := (tAnd (tTest (tOp rNe (tVar 13) (tVar 7))) (tTest (tOp rEq (tOp rMod (tOp rFdiv (tCall (sp_l_cell_at K A) [] E0 (tCons (tVar 0) (tCons (tC (.int 2)) tNil))) (tOp rPlus (tC (.int 2)) (tVar 13))) (tC (.int 2))) (tC (.int 0)))))) rfl sc_law.nd rfl rfl (sw_true rfl rfl rfl (by decide +kernel)) (pi_range1 (by rfl) T.b_range (pa_cons (pv 2) pa_nil)) (blkOk_by (own := [("_law_one", 13)]) (N := ["_law_script", "_law_way", "_law_many", "_law_ties", "_law_wrong", "_law_dear", "_law_net", "_law_place", "_law_side", "_law_at", "_law_odd_here", "_law_cell", "_law_k", "_law_one"]) (sc := defScope s_law) (by decide +kernel)) (fun _ _ _ _ _ => (pg_name (i := 13) sc_law.nd rfl (by first | exact Or.inl rfl | exact Or.inr rfl))) (fun _ _ _ _ _ => (pts_one (PW.pt (pw_and (pt_cmpR op_ne (pv 13) (pv 7) (nomark _)) (pw_and1 (pt_cmpR op_eq (pe_op op_mod (pe_op op_fdiv (pe_call (ok_l_cell_at T) (hr.mono (by decide)) (by rfl) T.g_l_cell_at T.F_l_cell_at.kp T.B_l_cell_at .nil pass0 (pa_cons (pv 0) (pa_cons pe_int pa_nil))) (pe_op op_add pe_int (pv 13))) pe_int) pe_int (nomark _))))))) (fun _ _ _ _ _ => (pv 13)))
    (pss_cons (ps_set (i := 9) sc_law.nd rfl (by first | exact Or.inl rfl | exact Or.inr rfl) (pe_op op_mod (pe_op op_fdiv (pe_call (ok_l_cell_at T) (hr.mono (by decide)) (by rfl) T.g_l_cell_at T.F_l_cell_at.kp T.B_l_cell_at .nil pass0 (pa_cons (pv 0) (pa_cons pe_int pa_nil))) pe_int) (pe_op op_add (pe_callB call_len_seq (by rfl) T.b_len PySem.boot_len (pa_cons (pv 8) pa_nil)) pe_int)))
    (pss_cons (ps_set (i := 10) sc_law.nd rfl (by first | exact Or.inl rfl | exact Or.inr rfl) (pe_ix ix_list (pe_lst (pa_cons (pv 2) (pa_cons (pe_un un_neg pe_int) (pa_cons (pe_op op_pow pe_int pe_int) (pa_cons pe_bl (pa_cons pe_bl (pa_cons pe_str (pa_cons pe_non (pa_cons (pe_lst (pa_cons pe_int pa_nil)) (pa_cons (pe_tup (pa_cons pe_int pa_nil)) pa_nil)))))))))) (pe_op op_mod (pe_call (ok_l_cell_at T) (hr.mono (by decide)) (by rfl) T.g_l_cell_at T.F_l_cell_at.kp T.B_l_cell_at .nil pass0 (pa_cons (pv 0) (pa_cons pe_int pa_nil))) pe_int) (fun _ _ => rfl)))
    (pss_cons (ps_if (pt_cmpR op_eq (pv 1) pe_int (nomark _)) (pss_cons (ps_if (pt_not (pt_val (pe_call (ok_l_side_refused T) (hr.mono (by decide)) (by rfl) T.g_l_side_refused T.F_l_side_refused.kp T.B_l_side_refused .nil pass0 (pa_cons (pv 6) (pa_cons (pe_op op_cat (pe_op op_cat (pe_lst (pa_cons (pv 7) pa_nil)) (pv 8)) (pe_lst (pa_cons (pv 7) pa_nil))) pa_nil))))) (pss_one (ps_ret pe_bl)) pss_nil)
    (pss_one (ps_ret (pe_call (ok_l_side_refused T) (hr.mono (by decide)) (by rfl) T.g_l_side_refused T.F_l_side_refused.kp T.B_l_side_refused .nil pass0 (pa_cons (pv 6) (pa_cons (pe_op op_cat (pe_op op_cat (pe_slice sl_list (pv 8) po_none (po_some (pv 9))) (pe_lst (pa_cons (pv 10) pa_nil))) (pe_slice sl_list (pv 8) (po_some (pv 9)) po_none)) pa_nil)))))) pss_nil)
    (pss_one (ps_ret (pe_call (ok_l_side_refused T) (hr.mono (by decide)) (by rfl) T.g_l_side_refused T.F_l_side_refused.kp T.B_l_side_refused .nil pass0 (pa_cons (pv 6) (pa_cons (pe_ix ix_list (pe_lst (pa_cons (pe_callTy call_tuple_of (by rfl) T.b_tuple (by decide +kernel) (pa_cons (pv 8) pa_nil)) (pa_cons pe_non (pa_cons pe_str (pa_cons pe_int pa_nil))))) (pe_op op_mod (pe_call (ok_l_cell_at T) (hr.mono (by decide)) (by rfl) T.g_l_cell_at T.F_l_cell_at.kp T.B_l_cell_at .nil pass0 (pa_cons (pv 0) (pa_cons pe_int pa_nil))) pe_int) (fun _ _ => rfl)) pa_nil))))))))))))))))))

end
theorem all_mk {l : PySem.W.OpenLaw} {w : World} {K : PySem.W.Frag} {h : Heap} {mg : Str → Option Value} {fa : Addr} (X : K.In h) (G : h.Ns mainGlobals mg) (hfa : mg "law" = some (.ref fa))
    {C : Addr}
    {od_is_whole an_is_whole : Option Addr} {sl_is_whole : Array (Option Value)} {oc_is_whole kV_is_whole dc_is_whole pm_is_whole cd_is_whole ct_is_whole : Value} {f_is_whole : Addr}
    {od_has an_has : Option Addr} {sl_has : Array (Option Value)} {oc_has kV_has dc_has pm_has cd_has ct_has : Value} {f_has : Addr}
    {od_cost an_cost : Option Addr} {sl_cost : Array (Option Value)} {oc_cost kV_cost dc_cost pm_cost cd_cost ct_cost : Value} {f_cost : Addr}
    {od_init an_init : Option Addr} {sl_init : Array (Option Value)} {oc_init kV_init dc_init pm_init cd_init ct_init : Value} {f_init : Addr}
    {od_ties an_ties : Option Addr} {sl_ties : Array (Option Value)} {oc_ties kV_ties dc_ties pm_ties cd_ties ct_ties : Value} {f_ties : Addr}
    {od_price an_price : Option Addr} {sl_price : Array (Option Value)} {oc_price kV_price dc_price pm_price cd_price ct_price : Value} {f_price : Addr}
    {od_l_cell_at an_l_cell_at : Option Addr} {sl_l_cell_at : Array (Option Value)} {oc_l_cell_at kV_l_cell_at dc_l_cell_at pm_l_cell_at cd_l_cell_at ct_l_cell_at : Value} {f_l_cell_at : Addr}
    {od_l_good an_l_good : Option Addr} {sl_l_good : Array (Option Value)} {oc_l_good kV_l_good dc_l_good pm_l_good cd_l_good ct_l_good : Value} {f_l_good : Addr}
    {od_l_odd an_l_odd : Option Addr} {sl_l_odd : Array (Option Value)} {oc_l_odd kV_l_odd dc_l_odd pm_l_odd cd_l_odd ct_l_odd : Value} {f_l_odd : Addr}
    {od_l_refused an_l_refused : Option Addr} {sl_l_refused : Array (Option Value)} {oc_l_refused kV_l_refused dc_l_refused pm_l_refused cd_l_refused ct_l_refused : Value} {f_l_refused : Addr}
    {od_l_side_refused an_l_side_refused : Option Addr} {sl_l_side_refused : Array (Option Value)} {oc_l_side_refused kV_l_side_refused dc_l_side_refused pm_l_side_refused cd_l_side_refused ct_l_side_refused : Value} {f_l_side_refused : Addr}
    {od_law an_law : Option Addr} {sl_law : Array (Option Value)} {oc_law kV_law dc_law pm_law cd_law ct_law : Value} {f_law : Addr}
    {t_MOST_PLACES : Tok}
    {t_MOST_TIES : Tok}
    {t_MOST_PRICE : Tok}
    {e_WallError : Addr}
    {e_NoNet : Addr}
    {e_NoPlace : Addr}
    {e_NoSide : Addr}
    {e_NoText : Addr}
    (aC : PySem.W.nsIn K mainGlobals "Net" = some (some (.ref C)))
    (pg : PySem.W.plainGet K C Str.empty = true)
    (hd : PySem.W.hasDictIn K C = true)
    (po : PySem.W.plainOver K C = true)
    (sa : PySem.W.findIn K (.ref C) "__setattr__" = some (some (.builtin "object.__setattr__")))
    (mk : PySem.W.makesIn K C = true)
    (kc : PySem.W.keepIn K (.ref C) = true)
    (n_many : PySem.W.findIn K (.ref C) "many" = some none)
    (n_kept : PySem.W.findIn K (.ref C) "kept" = some none)
    (n_summed : PySem.W.findIn K (.ref C) "summed" = some none)
    (n_near : PySem.W.findIn K (.ref C) "near" = some none)
    (a_is_whole : PySem.W.nsIn K mainGlobals "is_whole" = some (some (.ref f_is_whole)))
    (l_is_whole : K.lookup f_is_whole = some ⟨oc_is_whole, od_is_whole, .func (PySem.W.fnOf "is_whole" "is_whole" (defArgs s_is_whole) (defBody s_is_whole) (defScope s_is_whole) .none kV_is_whole dc_is_whole pm_is_whole an_is_whole cd_is_whole ct_is_whole), sl_is_whole⟩)
    (c_is_whole : PySem.W.codeIn K cd_is_whole "is_whole" = true)
    (k_is_whole : PySem.W.keepIn K (.ref f_is_whole) = true)
    (a_has : PySem.W.findIn K (.ref C) "has" = some (some (.ref f_has)))
    (i_has : PySem.W.isFn K (.ref f_has) = true)
    (l_has : K.lookup f_has = some ⟨oc_has, od_has, .func (PySem.W.fnOf "has" "Net.has" (defArgs s_has) (defBody s_has) (defScope s_has) .none kV_has dc_has pm_has an_has cd_has ct_has), sl_has⟩)
    (c_has : PySem.W.codeIn K cd_has "Net.has" = true)
    (k_has : PySem.W.keepIn K (.ref f_has) = true)
    (a_cost : PySem.W.findIn K (.ref C) "cost" = some (some (.ref f_cost)))
    (i_cost : PySem.W.isFn K (.ref f_cost) = true)
    (l_cost : K.lookup f_cost = some ⟨oc_cost, od_cost, .func (PySem.W.fnOf "cost" "Net.cost" (defArgs s_cost) (defBody s_cost) (defScope s_cost) .none kV_cost dc_cost pm_cost an_cost cd_cost ct_cost), sl_cost⟩)
    (c_cost : PySem.W.codeIn K cd_cost "Net.cost" = true)
    (k_cost : PySem.W.keepIn K (.ref f_cost) = true)
    (a_init : PySem.W.findIn K (.ref C) "__init__" = some (some (.ref f_init)))
    (i_init : PySem.W.isFn K (.ref f_init) = true)
    (l_init : K.lookup f_init = some ⟨oc_init, od_init, .func (PySem.W.fnOf "__init__" "Net.__init__" (defArgs s_init) (defBody s_init) (defScope s_init) .none kV_init dc_init pm_init an_init cd_init ct_init), sl_init⟩)
    (c_init : PySem.W.codeIn K cd_init "Net.__init__" = true)
    (k_init : PySem.W.keepIn K (.ref f_init) = true)
    (a_ties : PySem.W.findIn K (.ref C) "ties" = some (some (.ref f_ties)))
    (i_ties : PySem.W.isFn K (.ref f_ties) = true)
    (l_ties : K.lookup f_ties = some ⟨oc_ties, od_ties, .func (PySem.W.fnOf "ties" "Net.ties" (defArgs s_ties) (defBody s_ties) (defScope s_ties) .none kV_ties dc_ties pm_ties an_ties cd_ties ct_ties), sl_ties⟩)
    (c_ties : PySem.W.codeIn K cd_ties "Net.ties" = true)
    (k_ties : PySem.W.keepIn K (.ref f_ties) = true)
    (a_price : PySem.W.findIn K (.ref C) "price" = some (some (.ref f_price)))
    (i_price : PySem.W.isFn K (.ref f_price) = true)
    (l_price : K.lookup f_price = some ⟨oc_price, od_price, .func (PySem.W.fnOf "price" "Net.price" (defArgs s_price) (defBody s_price) (defScope s_price) .none kV_price dc_price pm_price an_price cd_price ct_price), sl_price⟩)
    (c_price : PySem.W.codeIn K cd_price "Net.price" = true)
    (k_price : PySem.W.keepIn K (.ref f_price) = true)
    (a_l_cell_at : PySem.W.nsIn K mainGlobals "_law_cell_at" = some (some (.ref f_l_cell_at)))
    (l_l_cell_at : K.lookup f_l_cell_at = some ⟨oc_l_cell_at, od_l_cell_at, .func (PySem.W.fnOf "_law_cell_at" "_law_cell_at" (defArgs s_l_cell_at) (defBody s_l_cell_at) (defScope s_l_cell_at) .none kV_l_cell_at dc_l_cell_at pm_l_cell_at an_l_cell_at cd_l_cell_at ct_l_cell_at), sl_l_cell_at⟩)
    (c_l_cell_at : PySem.W.codeIn K cd_l_cell_at "_law_cell_at" = true)
    (k_l_cell_at : PySem.W.keepIn K (.ref f_l_cell_at) = true)
    (a_l_good : PySem.W.nsIn K mainGlobals "_law_good" = some (some (.ref f_l_good)))
    (l_l_good : K.lookup f_l_good = some ⟨oc_l_good, od_l_good, .func (PySem.W.fnOf "_law_good" "_law_good" (defArgs s_l_good) (defBody s_l_good) (defScope s_l_good) .none kV_l_good dc_l_good pm_l_good an_l_good cd_l_good ct_l_good), sl_l_good⟩)
    (c_l_good : PySem.W.codeIn K cd_l_good "_law_good" = true)
    (k_l_good : PySem.W.keepIn K (.ref f_l_good) = true)
    (a_l_odd : PySem.W.nsIn K mainGlobals "_law_odd" = some (some (.ref f_l_odd)))
    (l_l_odd : K.lookup f_l_odd = some ⟨oc_l_odd, od_l_odd, .func (PySem.W.fnOf "_law_odd" "_law_odd" (defArgs s_l_odd) (defBody s_l_odd) (defScope s_l_odd) .none kV_l_odd dc_l_odd pm_l_odd an_l_odd cd_l_odd ct_l_odd), sl_l_odd⟩)
    (c_l_odd : PySem.W.codeIn K cd_l_odd "_law_odd" = true)
    (k_l_odd : PySem.W.keepIn K (.ref f_l_odd) = true)
    (a_l_refused : PySem.W.nsIn K mainGlobals "_law_refused" = some (some (.ref f_l_refused)))
    (l_l_refused : K.lookup f_l_refused = some ⟨oc_l_refused, od_l_refused, .func (PySem.W.fnOf "_law_refused" "_law_refused" (defArgs s_l_refused) (defBody s_l_refused) (defScope s_l_refused) .none kV_l_refused dc_l_refused pm_l_refused an_l_refused cd_l_refused ct_l_refused), sl_l_refused⟩)
    (c_l_refused : PySem.W.codeIn K cd_l_refused "_law_refused" = true)
    (k_l_refused : PySem.W.keepIn K (.ref f_l_refused) = true)
    (a_l_side_refused : PySem.W.nsIn K mainGlobals "_law_side_refused" = some (some (.ref f_l_side_refused)))
    (l_l_side_refused : K.lookup f_l_side_refused = some ⟨oc_l_side_refused, od_l_side_refused, .func (PySem.W.fnOf "_law_side_refused" "_law_side_refused" (defArgs s_l_side_refused) (defBody s_l_side_refused) (defScope s_l_side_refused) .none kV_l_side_refused dc_l_side_refused pm_l_side_refused an_l_side_refused cd_l_side_refused ct_l_side_refused), sl_l_side_refused⟩)
    (c_l_side_refused : PySem.W.codeIn K cd_l_side_refused "_law_side_refused" = true)
    (k_l_side_refused : PySem.W.keepIn K (.ref f_l_side_refused) = true)
    (a_law : PySem.W.nsIn K mainGlobals "law" = some (some (.ref f_law)))
    (l_law : K.lookup f_law = some ⟨oc_law, od_law, .func (PySem.W.fnOf "law" "law" (defArgs s_law) (defBody s_law) (defScope s_law) .none kV_law dc_law pm_law an_law cd_law ct_law), sl_law⟩)
    (c_law : PySem.W.codeIn K cd_law "law" = true)
    (k_law : PySem.W.keepIn K (.ref f_law) = true)
    (z_ValueError : PySem.W.nsIn K mainGlobals "ValueError" = some none)
    (z_bool : PySem.W.nsIn K mainGlobals "bool" = some none)
    (z_int : PySem.W.nsIn K mainGlobals "int" = some none)
    (z_isinstance : PySem.W.nsIn K mainGlobals "isinstance" = some none)
    (z_len : PySem.W.nsIn K mainGlobals "len" = some none)
    (z_list : PySem.W.nsIn K mainGlobals "list" = some none)
    (z_max : PySem.W.nsIn K mainGlobals "max" = some none)
    (z_min : PySem.W.nsIn K mainGlobals "min" = some none)
    (z_range : PySem.W.nsIn K mainGlobals "range" = some none)
    (z_sum : PySem.W.nsIn K mainGlobals "sum" = some none)
    (z_tuple : PySem.W.nsIn K mainGlobals "tuple" = some none)
    (v_MOST_PLACES : PySem.W.nsIn K mainGlobals "MOST_PLACES" = some (some (.int 24 t_MOST_PLACES)))
    (v_MOST_TIES : PySem.W.nsIn K mainGlobals "MOST_TIES" = some (some (.int 300 t_MOST_TIES)))
    (v_MOST_PRICE : PySem.W.nsIn K mainGlobals "MOST_PRICE" = some (some (.int 1000000000 t_MOST_PRICE)))
    (xg_WallError : PySem.W.nsIn K mainGlobals "WallError" = some (some (.ref e_WallError)))
    (xq_WallError : PySem.W.excIn K e_WallError [.type "ValueError", .type "Exception", .type "BaseException", .type "object"] "ValueError.__new__" = true)
    (xk_WallError : PySem.W.keepIn K (.ref e_WallError) = true)
    (xb_WallError : PySem.W.subIn K (.ref e_WallError) (.type "BaseException") = some true)
    (xt_WallError : PySem.W.typeIn K (.ref e_WallError) = some (.type "type"))
    (xg_NoNet : PySem.W.nsIn K mainGlobals "NoNet" = some (some (.ref e_NoNet)))
    (xq_NoNet : PySem.W.excIn K e_NoNet [.type "ValueError", .type "Exception", .type "BaseException", .type "object"] "ValueError.__new__" = true)
    (xk_NoNet : PySem.W.keepIn K (.ref e_NoNet) = true)
    (xb_NoNet : PySem.W.subIn K (.ref e_NoNet) (.type "BaseException") = some true)
    (xt_NoNet : PySem.W.typeIn K (.ref e_NoNet) = some (.type "type"))
    (xg_NoPlace : PySem.W.nsIn K mainGlobals "NoPlace" = some (some (.ref e_NoPlace)))
    (xq_NoPlace : PySem.W.excIn K e_NoPlace [.type "ValueError", .type "Exception", .type "BaseException", .type "object"] "ValueError.__new__" = true)
    (xk_NoPlace : PySem.W.keepIn K (.ref e_NoPlace) = true)
    (xb_NoPlace : PySem.W.subIn K (.ref e_NoPlace) (.type "BaseException") = some true)
    (xt_NoPlace : PySem.W.typeIn K (.ref e_NoPlace) = some (.type "type"))
    (xg_NoSide : PySem.W.nsIn K mainGlobals "NoSide" = some (some (.ref e_NoSide)))
    (xq_NoSide : PySem.W.excIn K e_NoSide [.type "ValueError", .type "Exception", .type "BaseException", .type "object"] "ValueError.__new__" = true)
    (xk_NoSide : PySem.W.keepIn K (.ref e_NoSide) = true)
    (xb_NoSide : PySem.W.subIn K (.ref e_NoSide) (.type "BaseException") = some true)
    (xt_NoSide : PySem.W.typeIn K (.ref e_NoSide) = some (.type "type"))
    (xg_NoText : PySem.W.nsIn K mainGlobals "NoText" = some (some (.ref e_NoText)))
    (xq_NoText : PySem.W.excIn K e_NoText [.type "ValueError", .type "Exception", .type "BaseException", .type "object"] "ValueError.__new__" = true)
    (xk_NoText : PySem.W.keepIn K (.ref e_NoText) = true)
    (xb_NoText : PySem.W.subIn K (.ref e_NoText) (.type "BaseException") = some true)
    (xt_NoText : PySem.W.typeIn K (.ref e_NoText) = some (.type "type"))
    (en : PySem.W.specialIn K (.builtin "object.__class__") "__get__" = some (some (.builtin "getset_descriptor.__get__")))
    (eh : PySem.W.takesIn K (.builtin "object.__class__") = some true)
    (eiW : PySem.W.isClsIn K e_WallError = true)
    (esW : PySem.W.subIn K (.ref e_WallError) (.ref e_WallError) = some true)
    (eg_NoNet : PySem.W.findIn K (.ref e_NoNet) "__getattribute__" = some (some (.builtin "BaseException.__getattribute__")))
    (ek_NoNet : PySem.W.findIn K (.ref e_NoNet) "__getattr__" = some none)
    (ed_NoNet : PySem.W.hasDictIn K e_NoNet = true)
    (ea_NoNet : PySem.W.findIn K (.ref e_NoNet) "__class__" = some (some (.builtin "object.__class__")))
    (em_NoNet : PySem.W.mroIn K e_NoNet (.type "object") = some true)
    (ei_NoNet : PySem.W.isClsIn K e_NoNet = true)
    (ew_NoNet : PySem.W.subIn K (.ref e_NoNet) (.ref e_WallError) = some true)
    (ev_NoNet : PySem.W.subIn K (.ref e_NoNet) (.type "ValueError") = some true)
    (es_NoNet_NoNet : PySem.W.subIn K (.ref e_NoNet) (.ref e_NoNet) = some true)
    (es_NoNet_NoPlace : PySem.W.subIn K (.ref e_NoNet) (.ref e_NoPlace) = some false)
    (es_NoNet_NoSide : PySem.W.subIn K (.ref e_NoNet) (.ref e_NoSide) = some false)
    (es_NoNet_NoText : PySem.W.subIn K (.ref e_NoNet) (.ref e_NoText) = some false)
    (eg_NoPlace : PySem.W.findIn K (.ref e_NoPlace) "__getattribute__" = some (some (.builtin "BaseException.__getattribute__")))
    (ek_NoPlace : PySem.W.findIn K (.ref e_NoPlace) "__getattr__" = some none)
    (ed_NoPlace : PySem.W.hasDictIn K e_NoPlace = true)
    (ea_NoPlace : PySem.W.findIn K (.ref e_NoPlace) "__class__" = some (some (.builtin "object.__class__")))
    (em_NoPlace : PySem.W.mroIn K e_NoPlace (.type "object") = some true)
    (ei_NoPlace : PySem.W.isClsIn K e_NoPlace = true)
    (ew_NoPlace : PySem.W.subIn K (.ref e_NoPlace) (.ref e_WallError) = some true)
    (ev_NoPlace : PySem.W.subIn K (.ref e_NoPlace) (.type "ValueError") = some true)
    (es_NoPlace_NoNet : PySem.W.subIn K (.ref e_NoPlace) (.ref e_NoNet) = some false)
    (es_NoPlace_NoPlace : PySem.W.subIn K (.ref e_NoPlace) (.ref e_NoPlace) = some true)
    (es_NoPlace_NoSide : PySem.W.subIn K (.ref e_NoPlace) (.ref e_NoSide) = some false)
    (es_NoPlace_NoText : PySem.W.subIn K (.ref e_NoPlace) (.ref e_NoText) = some false)
    (eg_NoSide : PySem.W.findIn K (.ref e_NoSide) "__getattribute__" = some (some (.builtin "BaseException.__getattribute__")))
    (ek_NoSide : PySem.W.findIn K (.ref e_NoSide) "__getattr__" = some none)
    (ed_NoSide : PySem.W.hasDictIn K e_NoSide = true)
    (ea_NoSide : PySem.W.findIn K (.ref e_NoSide) "__class__" = some (some (.builtin "object.__class__")))
    (em_NoSide : PySem.W.mroIn K e_NoSide (.type "object") = some true)
    (ei_NoSide : PySem.W.isClsIn K e_NoSide = true)
    (ew_NoSide : PySem.W.subIn K (.ref e_NoSide) (.ref e_WallError) = some true)
    (ev_NoSide : PySem.W.subIn K (.ref e_NoSide) (.type "ValueError") = some true)
    (es_NoSide_NoNet : PySem.W.subIn K (.ref e_NoSide) (.ref e_NoNet) = some false)
    (es_NoSide_NoPlace : PySem.W.subIn K (.ref e_NoSide) (.ref e_NoPlace) = some false)
    (es_NoSide_NoSide : PySem.W.subIn K (.ref e_NoSide) (.ref e_NoSide) = some true)
    (es_NoSide_NoText : PySem.W.subIn K (.ref e_NoSide) (.ref e_NoText) = some false)
    (eg_NoText : PySem.W.findIn K (.ref e_NoText) "__getattribute__" = some (some (.builtin "BaseException.__getattribute__")))
    (ek_NoText : PySem.W.findIn K (.ref e_NoText) "__getattr__" = some none)
    (ed_NoText : PySem.W.hasDictIn K e_NoText = true)
    (ea_NoText : PySem.W.findIn K (.ref e_NoText) "__class__" = some (some (.builtin "object.__class__")))
    (em_NoText : PySem.W.mroIn K e_NoText (.type "object") = some true)
    (ei_NoText : PySem.W.isClsIn K e_NoText = true)
    (ew_NoText : PySem.W.subIn K (.ref e_NoText) (.ref e_WallError) = some true)
    (ev_NoText : PySem.W.subIn K (.ref e_NoText) (.type "ValueError") = some true)
    (es_NoText_NoNet : PySem.W.subIn K (.ref e_NoText) (.ref e_NoNet) = some false)
    (es_NoText_NoPlace : PySem.W.subIn K (.ref e_NoText) (.ref e_NoPlace) = some false)
    (es_NoText_NoSide : PySem.W.subIn K (.ref e_NoText) (.ref e_NoSide) = some false)
    (es_NoText_NoText : PySem.W.subIn K (.ref e_NoText) (.ref e_NoText) = some true)
    : ∃ fd : FuncData, (∀ (s : Shared) (v : Value), BindsTo s fd ⟨[v], []⟩ [("_law_script", v)]) ∧ ∀ base : Heap, K.In base → base.Ns mainGlobals mg → FnOk l.prog w K mg base CX0 6 fa fd ["_law_script"] (spLaw K) := by
  have e := hfa.symm.trans (PySem.W.mg_of X G a_law)
  cases e
  let A : Ads := ⟨C, e_WallError, e_NoNet, e_NoPlace, e_NoSide, e_NoText⟩
  have F_is_whole := fun_mk (st := s_is_whole) l_is_whole c_is_whole k_is_whole
  have B_is_whole := F_is_whole.binds (ps := ["thing"]) fun _ _ _ _ _ _ us hl => match us, hl with | [_], _ => rfl
  have F_has := fun_mk (st := s_has) l_has c_has k_has
  have B_has := F_has.binds (ps := ["self", "place"]) fun _ _ _ _ _ _ us hl => match us, hl with | [_, _], _ => rfl
  have F_cost := fun_mk (st := s_cost) l_cost c_cost k_cost
  have B_cost := F_cost.binds (ps := ["self", "one", "other"]) fun _ _ _ _ _ _ us hl => match us, hl with | [_, _, _], _ => rfl
  have F_init := fun_mk (st := s_init) l_init c_init k_init
  have B_init := F_init.binds (ps := ["self", "many", "ties"]) fun _ _ _ _ _ _ us hl => match us, hl with | [_, _, _], _ => rfl
  have F_ties := fun_mk (st := s_ties) l_ties c_ties k_ties
  have B_ties := F_ties.binds (ps := ["self"]) fun _ _ _ _ _ _ us hl => match us, hl with | [_], _ => rfl
  have F_price := fun_mk (st := s_price) l_price c_price k_price
  have B_price := F_price.binds (ps := ["self", "side"]) fun _ _ _ _ _ _ us hl => match us, hl with | [_, _], _ => rfl
  have F_l_cell_at := fun_mk (st := s_l_cell_at) l_l_cell_at c_l_cell_at k_l_cell_at
  have B_l_cell_at := F_l_cell_at.binds (ps := ["_law_script", "_law_k"]) fun _ _ _ _ _ _ us hl => match us, hl with | [_, _], _ => rfl
  have F_l_good := fun_mk (st := s_l_good) l_l_good c_l_good k_l_good
  have B_l_good := F_l_good.binds (ps := ["_law_cell", "_law_many"]) fun _ _ _ _ _ _ us hl => match us, hl with | [_, _], _ => rfl
  have F_l_odd := fun_mk (st := s_l_odd) l_l_odd c_l_odd k_l_odd
  have B_l_odd := F_l_odd.binds (ps := ["_law_cell", "_law_many"]) fun _ _ _ _ _ _ us hl => match us, hl with | [_, _], _ => rfl
  have F_l_refused := fun_mk (st := s_l_refused) l_l_refused c_l_refused k_l_refused
  have B_l_refused := F_l_refused.binds (ps := ["_law_many", "_law_ties"]) fun _ _ _ _ _ _ us hl => match us, hl with | [_, _], _ => rfl
  have F_l_side_refused := fun_mk (st := s_l_side_refused) l_l_side_refused c_l_side_refused k_l_side_refused
  have B_l_side_refused := F_l_side_refused.binds (ps := ["_law_net", "_law_side"]) fun _ _ _ _ _ _ us hl => match us, hl with | [_, _], _ => rfl
  have F_law := fun_mk (st := s_law) l_law c_law k_law
  have B_law := F_law.binds (ps := ["_law_script"]) fun _ _ _ _ _ _ us hl => match us, hl with | [_], _ => rfl
  let F : Fs := ⟨f_is_whole, PySem.W.fnOf "is_whole" "is_whole" (defArgs s_is_whole) (defBody s_is_whole) (defScope s_is_whole) .none kV_is_whole dc_is_whole pm_is_whole an_is_whole cd_is_whole ct_is_whole,
    f_has, PySem.W.fnOf "has" "Net.has" (defArgs s_has) (defBody s_has) (defScope s_has) .none kV_has dc_has pm_has an_has cd_has ct_has,
    f_cost, PySem.W.fnOf "cost" "Net.cost" (defArgs s_cost) (defBody s_cost) (defScope s_cost) .none kV_cost dc_cost pm_cost an_cost cd_cost ct_cost,
    f_init, PySem.W.fnOf "__init__" "Net.__init__" (defArgs s_init) (defBody s_init) (defScope s_init) .none kV_init dc_init pm_init an_init cd_init ct_init,
    f_ties, PySem.W.fnOf "ties" "Net.ties" (defArgs s_ties) (defBody s_ties) (defScope s_ties) .none kV_ties dc_ties pm_ties an_ties cd_ties ct_ties,
    f_price, PySem.W.fnOf "price" "Net.price" (defArgs s_price) (defBody s_price) (defScope s_price) .none kV_price dc_price pm_price an_price cd_price ct_price,
    f_l_cell_at, PySem.W.fnOf "_law_cell_at" "_law_cell_at" (defArgs s_l_cell_at) (defBody s_l_cell_at) (defScope s_l_cell_at) .none kV_l_cell_at dc_l_cell_at pm_l_cell_at an_l_cell_at cd_l_cell_at ct_l_cell_at,
    f_l_good, PySem.W.fnOf "_law_good" "_law_good" (defArgs s_l_good) (defBody s_l_good) (defScope s_l_good) .none kV_l_good dc_l_good pm_l_good an_l_good cd_l_good ct_l_good,
    f_l_odd, PySem.W.fnOf "_law_odd" "_law_odd" (defArgs s_l_odd) (defBody s_l_odd) (defScope s_l_odd) .none kV_l_odd dc_l_odd pm_l_odd an_l_odd cd_l_odd ct_l_odd,
    f_l_refused, PySem.W.fnOf "_law_refused" "_law_refused" (defArgs s_l_refused) (defBody s_l_refused) (defScope s_l_refused) .none kV_l_refused dc_l_refused pm_l_refused an_l_refused cd_l_refused ct_l_refused,
    f_l_side_refused, PySem.W.fnOf "_law_side_refused" "_law_side_refused" (defArgs s_l_side_refused) (defBody s_l_side_refused) (defScope s_l_side_refused) .none kV_l_side_refused dc_l_side_refused pm_l_side_refused an_l_side_refused cd_l_side_refused ct_l_side_refused,
    fa, PySem.W.fnOf "law" "law" (defArgs s_law) (defBody s_law) (defScope s_law) .none kV_law dc_law pm_law an_law cd_law ct_law⟩
  have T : Txt K mg A F := ⟨⟨fun x => match x with | .net => ⟨eg_NoNet, ek_NoNet, xb_NoNet, ed_NoNet, ea_NoNet, en, eh, em_NoNet⟩ | .place => ⟨eg_NoPlace, ek_NoPlace, xb_NoPlace, ed_NoPlace, ea_NoPlace, en, eh, em_NoPlace⟩ | .side => ⟨eg_NoSide, ek_NoSide, xb_NoSide, ed_NoSide, ea_NoSide, en, eh, em_NoSide⟩ | .text => ⟨eg_NoText, ek_NoText, xb_NoText, ed_NoText, ea_NoText, en, eh, em_NoText⟩,
    fun x => match x with | .net => exm_own xb_NoNet ei_NoNet xt_NoNet es_NoNet_NoNet | .place => exm_own xb_NoPlace ei_NoPlace xt_NoPlace es_NoPlace_NoPlace | .side => exm_own xb_NoSide ei_NoSide xt_NoSide es_NoSide_NoSide | .text => exm_own xb_NoText ei_NoText xt_NoText es_NoText_NoText,
    fun x y => match x, y with | .net, .net => kit_ref ei_NoNet xt_NoNet es_NoNet_NoNet es_NoNet_NoNet | .net, .place => kit_ref ei_NoPlace xt_NoPlace es_NoNet_NoPlace es_NoPlace_NoPlace | .net, .side => kit_ref ei_NoSide xt_NoSide es_NoNet_NoSide es_NoSide_NoSide | .net, .text => kit_ref ei_NoText xt_NoText es_NoNet_NoText es_NoText_NoText | .place, .net => kit_ref ei_NoNet xt_NoNet es_NoPlace_NoNet es_NoNet_NoNet | .place, .place => kit_ref ei_NoPlace xt_NoPlace es_NoPlace_NoPlace es_NoPlace_NoPlace | .place, .side => kit_ref ei_NoSide xt_NoSide es_NoPlace_NoSide es_NoSide_NoSide | .place, .text => kit_ref ei_NoText xt_NoText es_NoPlace_NoText es_NoText_NoText | .side, .net => kit_ref ei_NoNet xt_NoNet es_NoSide_NoNet es_NoNet_NoNet | .side, .place => kit_ref ei_NoPlace xt_NoPlace es_NoSide_NoPlace es_NoPlace_NoPlace | .side, .side => kit_ref ei_NoSide xt_NoSide es_NoSide_NoSide es_NoSide_NoSide | .side, .text => kit_ref ei_NoText xt_NoText es_NoSide_NoText es_NoText_NoText | .text, .net => kit_ref ei_NoNet xt_NoNet es_NoText_NoNet es_NoNet_NoNet | .text, .place => kit_ref ei_NoPlace xt_NoPlace es_NoText_NoPlace es_NoPlace_NoPlace | .text, .side => kit_ref ei_NoSide xt_NoSide es_NoText_NoSide es_NoSide_NoSide | .text, .text => kit_ref ei_NoText xt_NoText es_NoText_NoText es_NoText_NoText,
    fun x => match x with | .net => kit_ref eiW xt_WallError ew_NoNet esW | .place => kit_ref eiW xt_WallError ew_NoPlace esW | .side => kit_ref eiW xt_WallError ew_NoSide esW | .text => kit_ref eiW xt_WallError ew_NoText esW,
    fun x => match x with | .net => kit_val ev_NoNet | .place => kit_val ev_NoPlace | .side => kit_val ev_NoSide | .text => kit_val ev_NoText⟩,
    ⟨⟨pg, hd, po, sa⟩, n_many, n_kept, n_summed, n_near⟩, PySem.W.mg_of X G aC, ⟨mk, a_init, i_init, kc⟩,
    F_is_whole, B_is_whole,
    PySem.W.mg_of X G a_is_whole,
    F_has, B_has,
    ⟨a_has, i_has, k_has⟩,
    F_cost, B_cost,
    ⟨a_cost, i_cost, k_cost⟩,
    F_init, B_init,
    F_ties, B_ties,
    ⟨a_ties, i_ties, k_ties⟩,
    F_price, B_price,
    ⟨a_price, i_price, k_price⟩,
    F_l_cell_at, B_l_cell_at,
    PySem.W.mg_of X G a_l_cell_at,
    F_l_good, B_l_good,
    PySem.W.mg_of X G a_l_good,
    F_l_odd, B_l_odd,
    PySem.W.mg_of X G a_l_odd,
    F_l_refused, B_l_refused,
    PySem.W.mg_of X G a_l_refused,
    F_l_side_refused, B_l_side_refused,
    PySem.W.mg_of X G a_l_side_refused,
    F_law, B_law,
    PySem.W.mg_of X G a_law,
    PySem.W.mg_none_of X G z_ValueError,
    PySem.W.mg_none_of X G z_bool,
    PySem.W.mg_none_of X G z_int,
    PySem.W.mg_none_of X G z_isinstance,
    PySem.W.mg_none_of X G z_len,
    PySem.W.mg_none_of X G z_list,
    PySem.W.mg_none_of X G z_max,
    PySem.W.mg_none_of X G z_min,
    PySem.W.mg_none_of X G z_range,
    PySem.W.mg_none_of X G z_sum,
    PySem.W.mg_none_of X G z_tuple,
    ⟨_, PySem.W.mg_of X G v_MOST_PLACES⟩,
    ⟨_, PySem.W.mg_of X G v_MOST_TIES⟩,
    ⟨_, PySem.W.mg_of X G v_MOST_PRICE⟩,
    ⟨PySem.W.mg_of X G xg_WallError, xq_WallError, xk_WallError, xb_WallError, xt_WallError⟩,
    ⟨PySem.W.mg_of X G xg_NoNet, xq_NoNet, xk_NoNet, xb_NoNet, xt_NoNet⟩,
    ⟨PySem.W.mg_of X G xg_NoPlace, xq_NoPlace, xk_NoPlace, xb_NoPlace, xt_NoPlace⟩,
    ⟨PySem.W.mg_of X G xg_NoSide, xq_NoSide, xk_NoSide, xb_NoSide, xt_NoSide⟩,
    ⟨PySem.W.mg_of X G xg_NoText, xq_NoText, xk_NoText, xb_NoText, xt_NoText⟩⟩
  exact ⟨F.d_law, fun s v => .of_eq rfl, fun base _ _ => ok_law T⟩
theorem walk {l : PySem.W.OpenLaw} {q : Program} {loose : List Str} {XP : (Str → Option Value) → Heap → Prop} {YP : World → Heap → Prop} {d : DefRec} {K : Params → PySem.W.Frag} (hn : l.most = some 63) (hdf : d.params.defaults = [])
    (hY : ∀ (w : World) (h : Heap), YP w h → (K w.params).In h)
    (F : ∀ (w : World) (mg : Str → Option Value) (fa : Addr) (h : Heap), (K w.params).In h → h.Ns mainGlobals mg → mg d.name = some (.ref fa) →
      ∃ fd : FuncData, (∀ (s : Shared) (u : Value), BindsTo s fd ⟨[u], []⟩ [("_law_script", u)]) ∧ ∀ base : Heap, (K w.params).In base → base.Ns mainGlobals mg → FnOk l.prog w (K w.params) mg base CX0 6 fa fd ["_law_script"] (spLaw (K w.params))) :
    PySem.W.WalkO q loose XP YP l.row.toRowW d [] (fun f vs => PySem.call f vs) :=
  L2.walk_of (n := 63) (k := 6) (x := "_law_script") (CX := fun _ => CX0) (sp := fun w => spLaw (K w.params)) hn (by decide) hdf ⟨rfl, by decide, by decide⟩ hY F (fun _ _ a ns hl _ hS => ⟨a, ns, rfl, hS, hl, fun _ => rfl⟩) fun _ _ _ _ _ z => z

end OW

open PySem PySem.W PyProof.Rows in
set_option maxRecDepth 100000 in
set_option maxHeartbeats 0 in
theorem PySem.Challenge.cw_onewalls_k02_nets_refused_holds : PySem.Challenge.rw_onewalls_k02_nets_refused.Holds := by
  w_on; o_law; k_head; (case hw => w_witness2)
  k_fill
  refine OW.walk (l := PySem.Challenge.rw_onewalls_k02_nets_refused) rfl rfl (fun w h Y => PySem.W.kIn_of Y) ?F
  case F =>
    intro w mg fa h KX G hmg
    refine' OW.all_mk KX G hmg ?aC ?pg ?hd ?po ?sa ?mk ?kc ?n_many ?n_kept ?n_summed ?n_near ?a_is_whole ?l_is_whole ?c_is_whole ?k_is_whole ?a_has ?i_has ?l_has ?c_has ?k_has ?a_cost ?i_cost ?l_cost ?c_cost ?k_cost ?a_init ?i_init ?l_init ?c_init ?k_init ?a_ties ?i_ties ?l_ties ?c_ties ?k_ties ?a_price ?i_price ?l_price ?c_price ?k_price ?a_l_cell_at ?l_l_cell_at ?c_l_cell_at ?k_l_cell_at ?a_l_good ?l_l_good ?c_l_good ?k_l_good ?a_l_odd ?l_l_odd ?c_l_odd ?k_l_odd ?a_l_refused ?l_l_refused ?c_l_refused ?k_l_refused ?a_l_side_refused ?l_l_side_refused ?c_l_side_refused ?k_l_side_refused ?a_law ?l_law ?c_law ?k_law ?z_ValueError ?z_bool ?z_int ?z_isinstance ?z_len ?z_list ?z_max ?z_min ?z_range ?z_sum ?z_tuple ?v_MOST_PLACES ?v_MOST_TIES ?v_MOST_PRICE ?xg_WallError ?xq_WallError ?xk_WallError ?xb_WallError ?xt_WallError ?xg_NoNet ?xq_NoNet ?xk_NoNet ?xb_NoNet ?xt_NoNet ?xg_NoPlace ?xq_NoPlace ?xk_NoPlace ?xb_NoPlace ?xt_NoPlace ?xg_NoSide ?xq_NoSide ?xk_NoSide ?xb_NoSide ?xt_NoSide ?xg_NoText ?xq_NoText ?xk_NoText ?xb_NoText ?xt_NoText ?en ?eh ?eiW ?esW ?eg_NoNet ?ek_NoNet ?ed_NoNet ?ea_NoNet ?em_NoNet ?ei_NoNet ?ew_NoNet ?ev_NoNet ?es_NoNet_NoNet ?es_NoNet_NoPlace ?es_NoNet_NoSide ?es_NoNet_NoText ?eg_NoPlace ?ek_NoPlace ?ed_NoPlace ?ea_NoPlace ?em_NoPlace ?ei_NoPlace ?ew_NoPlace ?ev_NoPlace ?es_NoPlace_NoNet ?es_NoPlace_NoPlace ?es_NoPlace_NoSide ?es_NoPlace_NoText ?eg_NoSide ?ek_NoSide ?ed_NoSide ?ea_NoSide ?em_NoSide ?ei_NoSide ?ew_NoSide ?ev_NoSide ?es_NoSide_NoNet ?es_NoSide_NoPlace ?es_NoSide_NoSide ?es_NoSide_NoText ?eg_NoText ?ek_NoText ?ed_NoText ?ea_NoText ?em_NoText ?ei_NoText ?ew_NoText ?ev_NoText ?es_NoText_NoNet ?es_NoText_NoPlace ?es_NoText_NoSide ?es_NoText_NoText
    (case aC => k_is)
    (case pg => k_is)
    (case hd => k_is)
    (case po => k_is)
    (case sa => k_is)
    (case mk => k_is)
    (case kc => k_is)
    (case n_many => k_is)
    (case n_kept => k_is)
    (case n_summed => k_is)
    (case n_near => k_is)
    (case a_is_whole => k_is)
    (case l_is_whole => k_is)
    (case c_is_whole => k_is)
    (case k_is_whole => k_is)
    (case a_has => k_is)
    (case i_has => k_is)
    (case l_has => k_is)
    (case c_has => k_is)
    (case k_has => k_is)
    (case a_cost => k_is)
    (case i_cost => k_is)
    (case l_cost => k_is)
    (case c_cost => k_is)
    (case k_cost => k_is)
    (case a_init => k_is)
    (case i_init => k_is)
    (case l_init => k_is)
    (case c_init => k_is)
    (case k_init => k_is)
    (case a_ties => k_is)
    (case i_ties => k_is)
    (case l_ties => k_is)
    (case c_ties => k_is)
    (case k_ties => k_is)
    (case a_price => k_is)
    (case i_price => k_is)
    (case l_price => k_is)
    (case c_price => k_is)
    (case k_price => k_is)
    (case a_l_cell_at => k_is)
    (case l_l_cell_at => k_is)
    (case c_l_cell_at => k_is)
    (case k_l_cell_at => k_is)
    (case a_l_good => k_is)
    (case l_l_good => k_is)
    (case c_l_good => k_is)
    (case k_l_good => k_is)
    (case a_l_odd => k_is)
    (case l_l_odd => k_is)
    (case c_l_odd => k_is)
    (case k_l_odd => k_is)
    (case a_l_refused => k_is)
    (case l_l_refused => k_is)
    (case c_l_refused => k_is)
    (case k_l_refused => k_is)
    (case a_l_side_refused => k_is)
    (case l_l_side_refused => k_is)
    (case c_l_side_refused => k_is)
    (case k_l_side_refused => k_is)
    (case a_law => k_is)
    (case l_law => k_is)
    (case c_law => k_is)
    (case k_law => k_is)
    (case z_ValueError => k_is)
    (case z_bool => k_is)
    (case z_int => k_is)
    (case z_isinstance => k_is)
    (case z_len => k_is)
    (case z_list => k_is)
    (case z_max => k_is)
    (case z_min => k_is)
    (case z_range => k_is)
    (case z_sum => k_is)
    (case z_tuple => k_is)
    (case v_MOST_PLACES => k_is)
    (case v_MOST_TIES => k_is)
    (case v_MOST_PRICE => k_is)
    (case xg_WallError => k_is)
    (case xq_WallError => k_exc)
    (case xk_WallError => k_is)
    (case xb_WallError => k_is)
    (case xt_WallError => k_is)
    (case xg_NoNet => k_is)
    (case xq_NoNet => k_exc)
    (case xk_NoNet => k_is)
    (case xb_NoNet => k_is)
    (case xt_NoNet => k_is)
    (case xg_NoPlace => k_is)
    (case xq_NoPlace => k_exc)
    (case xk_NoPlace => k_is)
    (case xb_NoPlace => k_is)
    (case xt_NoPlace => k_is)
    (case xg_NoSide => k_is)
    (case xq_NoSide => k_exc)
    (case xk_NoSide => k_is)
    (case xb_NoSide => k_is)
    (case xt_NoSide => k_is)
    (case xg_NoText => k_is)
    (case xq_NoText => k_exc)
    (case xk_NoText => k_is)
    (case xb_NoText => k_is)
    (case xt_NoText => k_is)
    (case en => k_is)
    (case eh => k_is)
    (case eiW => k_is)
    (case esW => k_is)
    (case eg_NoNet => k_is)
    (case ek_NoNet => k_is)
    (case ed_NoNet => k_is)
    (case ea_NoNet => k_is)
    (case em_NoNet => k_is)
    (case ei_NoNet => k_is)
    (case ew_NoNet => k_is)
    (case ev_NoNet => k_is)
    (case es_NoNet_NoNet => k_is)
    (case es_NoNet_NoPlace => k_is)
    (case es_NoNet_NoSide => k_is)
    (case es_NoNet_NoText => k_is)
    (case eg_NoPlace => k_is)
    (case ek_NoPlace => k_is)
    (case ed_NoPlace => k_is)
    (case ea_NoPlace => k_is)
    (case em_NoPlace => k_is)
    (case ei_NoPlace => k_is)
    (case ew_NoPlace => k_is)
    (case ev_NoPlace => k_is)
    (case es_NoPlace_NoNet => k_is)
    (case es_NoPlace_NoPlace => k_is)
    (case es_NoPlace_NoSide => k_is)
    (case es_NoPlace_NoText => k_is)
    (case eg_NoSide => k_is)
    (case ek_NoSide => k_is)
    (case ed_NoSide => k_is)
    (case ea_NoSide => k_is)
    (case em_NoSide => k_is)
    (case ei_NoSide => k_is)
    (case ew_NoSide => k_is)
    (case ev_NoSide => k_is)
    (case es_NoSide_NoNet => k_is)
    (case es_NoSide_NoPlace => k_is)
    (case es_NoSide_NoSide => k_is)
    (case es_NoSide_NoText => k_is)
    (case eg_NoText => k_is)
    (case ek_NoText => k_is)
    (case ed_NoText => k_is)
    (case ea_NoText => k_is)
    (case em_NoText => k_is)
    (case ei_NoText => k_is)
    (case ew_NoText => k_is)
    (case ev_NoText => k_is)
    (case es_NoText_NoNet => k_is)
    (case es_NoText_NoPlace => k_is)
    (case es_NoText_NoSide => k_is)
    (case es_NoText_NoText => k_is)
