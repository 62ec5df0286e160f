import PyProof.Rows.All
import Wide.All
import OpenK.AllK
import Wide.FinOn
import HandS.ForMost
import HandS.ForExc
import HandS.Evl
import HandS.Steps
import HandS.IsInst
import HandS.SortInts
import HandS.Conv
import HandS.Style
import HandS.TupLe
import HandS.TupAny
import HandS.Deep
import HandS.ExcCtx
import HandS.ExcIs
import HandS.Codes
import HandS.Zip
import HandS.Walk
import HandS.More
import HandS.RaiseFrom
import HandS.SuiteRaise
import KE.GoesComp
import PySem.Challenge.RW_onewalls_k11_texts_refused

set_option Elab.async false
set_option linter.all false
set_option maxRecDepth 100000
set_option maxHeartbeats 4000000
/-! The base of our walk: operators by name, rules of our own, readings. -/
namespace OW
open PySem PySem.Spec PyProof.Rows L2 Evl

/-! ### operators by name -/
abbrev rPlus : R2 := rI0 fun i j => .int (i + j)
abbrev rMinus : R2 := rI0 fun i j => .int (i - j)
abbrev rTimes : R2 := rI CMul fun i j => .int (i * j)
abbrev rFdiv : R2 := rI CDiv fun i j => .int (i / j)
abbrev rMod : R2 := rI (fun _ j => 0 < j) fun i j => .int (i % j)
abbrev rPow : R2 := rI CPow fun i j => .int (i ^ j.toNat)
abbrev rNeg : V → Hp → VK → Prop := rU fun i => .int (-i)
abbrev rPlusS : R2 := fun x y H Q => ∃ i j, x = .str i ∧ y = .str j ∧ i.length + j.length ≤ sizeLine ∧ Q (.str (i ++ j)) H
abbrev rLt : R2 := rI0 fun i j => .bl (decide (i < j))
abbrev rLe : R2 := rI0 fun i j => .bl (decide (i ≤ j))
abbrev rGt1 : R2 := rI0 fun i j => .bl (decide (j < i))
abbrev rGe1 : R2 := rI0 fun i j => .bl (decide (j ≤ i))
abbrev RCt := List V → Hp → VK → Prop
abbrev rLenStr : RCt := fun xs H Q => ∃ z, xs = [.str z] ∧ z.length ≤ sizeLine ∧ Q (.int z.length) H
abbrev rLenD : RCt := fun xs H Q => ∃ a kvs, xs = [V.ref a] ∧ H a = some (.dK kvs) ∧ Q (.int kvs.length) H
abbrev rMin2 : RCt := fun xs H Q => ∃ i j, xs = [.int i, .int j] ∧ Q (.int (if j < i then j else i)) H
abbrev rInt1 : RCt := fun xs H Q => (∃ i, xs = [.int i] ∧ Q (.int i) H) ∨ ∃ k, xs = [.bl k] ∧ Q (.int (if k then 1 else 0)) H
abbrev rIntStr : RCt := fun xs H Q => ∃ a n, xs = [.str a] ∧ PySem.intText? a = some n ∧ a.length ≤ 640 ∧ Q (.int n) H
abbrev rStrI : RCt := fun xs H Q => ∃ i, xs = [.int i] ∧ i.natAbs.log2 < 1920 ∧ Q (.str (toString i)) H
abbrev rTupS (K : PySem.W.Frag) : RCt := fun xs H Q => ∃ p ys, xs = [.ref p] ∧ ((SqL K H p ys ∧ ∀ l, H l = none → Q (.ref l) (upd H l (.tup ys))) ∨ (SqT K H p ys ∧ Q (.ref p) H))
abbrev rSplit : V → List V → Hp → VK → Prop := fun x xs H Q => ∃ a b, x = .str a ∧ xs = [.str b] ∧ (b.length == 0) = false ∧ a.length + 2 ≤ sizeLine ∧ rNewStrs (Txt.split a b) H Q
abbrev rJoin (K : PySem.W.Frag) : V → List V → Hp → VK → Prop := fun x xs H Q => ∃ a p, ∃ ys : List Str, x = .str a ∧ xs = [.ref p] ∧ (SqL K H p (ys.map V.str) ∨ SqT K H p (ys.map V.str)) ∧ (ys.map (·.length)).sum + ys.length * a.length ≤ 16777216 ∧ Q (.str (Txt.join a ys)) H
abbrev rIsC (C : Addr) : RCt := fun xs H Q => ∃ a dx fs, xs = [V.ref a, V.ref C] ∧ H a = some (.ins C dx fs) ∧ Q (.bl true) H
abbrev rInsert : V → List V → Hp → VK → Prop := fun x vs H Q => ∃ (l : Addr) (xs : List V) (i : Int) (y : V), x = .ref l ∧ vs = [.int i, y] ∧ H l = some (.lst xs) ∧ xs.length < sizeLine ∧ 0 ≤ i ∧ i < 2 ^ 63 ∧ Q .non (upd H l (.lst (xs.take i.toNat ++ [y] ++ xs.drop i.toNat)))
def tRaiseE (E : XK) (c : Addr) : TS := fun _ _ H => E (.ref c) none H

/-! ### where our classes lie -/
structure Ads where
  C : Addr
  eWallError : Addr
  eNoNet : Addr
  eNoPlace : Addr
  eNoSide : Addr
  eNoText : Addr
structure NetC (K : PySem.W.Frag) (A : Ads) : Prop where
  cl : Cls K A.C
  nM : NoAttr K A.C "many"
  nK : NoAttr K A.C "kept"
  nS : NoAttr K A.C "summed"
  nN : NoAttr K A.C "near"
/-- an own exception class -/
structure ExcT (K : PySem.W.Frag) (mg : Str → Option Value) (x : Str) (C : Addr) : Prop where
  gC : mg x = some (.ref C)
  q : PySem.W.excIn K C [.type "ValueError", .type "Exception", .type "BaseException", .type "object"] "ValueError.__new__" = true
  kC : PySem.W.keepIn K (.ref C) = true
  b : PySem.W.subIn K (.ref C) (.type "BaseException") = some true
  t : PySem.W.typeIn K (.ref C) = some (.type "type")
section
variable {X : Cx}
theorem pe_gi {x : Str} {pos : Pos} {i : Int} (h : ∃ t, X.mg x = some (.int i t)) (hg : Gl X x := by rfl) (hd : (x == ("__debug__" : Str)) = false := by decide) : PE X (.Name x pos) (tC (.int i)) := by
  obtain ⟨t, h⟩ := h
  exact pe_glob hg h ⟨t, rfl⟩ hd
theorem pe_gs {x : Str} {pos : Pos} {i : Str} (h : ∃ t, X.mg x = some (.str i t)) (hg : Gl X x := by rfl) (hd : (x == ("__debug__" : Str)) = false := by decide) : PE X (.Name x pos) (tC (.str i)) := by
  obtain ⟨t, h⟩ := h
  exact pe_glob hg h ⟨t, rfl⟩ hd
theorem ExcT.pmk {x m : Str} {C : Addr} {j : Nat} {p p2 pos : Pos} (h : ExcT X.K X.mg x C) (hg : Gl X x) (hd : (x == ("__debug__" : Str)) = false := by decide) :
    L2N.PMk X (.Call (.Name x p) [.Constant (.str m) j p2] [] pos) (fun _ H Q => Q (.ref C) none H) :=
  L2N.pmk_own PySem.F.excBase_ValueError h.q h.gC h.kC (raises_own h.b h.t) hg hd
theorem passN : Passes (L2N.CX X.prog X.w) X E0 := fun _ _ _ _ _ _ _ h => by
  obtain ⟨_, _, _, _, _, _, _, _, _, _, _, _, z⟩ := h
  exact z.elim
theorem take0N : L2N.Takes X (fun _ _ _ _ => False) := fun _ _ x => by
  obtain ⟨_, _, _, _, _, _, _, _, _, _, _, _, _, _, _, _, z⟩ := x
  exact z.elim
end
section
variable {P : Program} {w : World} {K : PySem.W.Frag} {mg : Str → Option Value} {base : Heap}
/-- a def that may raise, the context of its error None -/
theorem fun_okN {x qual : Str} {st : Stmt} {f : Addr} {fd : FuncData} {N ps : List Str} {k : Nat} {sp : Sp} (F : Fun K x qual st f fd) (S : FnScope N ps (defScope st)) (len : ∀ vs H Q E, sp vs H Q E → vs.length = ps.length)
    (hbody : ∀ (cdv : Value) (A : Around) (outer : List Env) (s : Shared) (H : Hp) (vs : List V) (Q : VK) (E : XK), Room k (A.deeper (envOfC qual (defScope st) s.heap.objs.size f cdv)) → sp vs H Q E →
      ∃ t, PSs (cxOf (L2N.CX P w) P w K mg base N qual (defScope st) f cdv A outer s H E) (defBody st) t ∧ t { nx := fun _ H' => Q .non H', rt := Q } (start N vs) H) : FnOk P w K mg base (L2N.CX P w) (k + 1) f fd ps sp := by
  obtain ⟨oc, od, kV, doc, pm, an, cdv, ct, osl, rfl, lk, hcd⟩ := F.ex
  exact fn_of lk hcd S len fun A outer s H vs Q E hr hsp => hbody cdv A outer s H vs Q E hr hsp
end

/-! ### readings -/
section
variable {K : PySem.W.Frag} {σ : L2.St} {H H' : Hp} {ta tb tc te tx : TE} {t u : TT} {x y z v : V} {r r' : R2}
theorem ev_fld {a C dx : Addr} {fs : List (Str × V)} {f : Str} (ha : Ev ta σ H (.ref a)) (h : H a = some (.ins C dx fs)) (c : Cls K C) (n : NoAttr K C f) (l : fs.lookup f = some v) : Ev (tFld K ta f) σ H v := fun H1 e Q q =>
  ha H1 e _ fun H2 e2 => ⟨a, C, dx, fs, v, rfl, e2 a _ (e a _ h), c, n, l, q H2 e2⟩
theorem ev_chain {a b : Bool} (ha : Ev ta σ H x) (hb : Ev tb σ H y) (hr : RV r x y H (.bl a)) (hc : a = true → Ev tc σ H z) (hr' : a = true → RV r' y z H (.bl b)) : Ev (tChain r r' ta tb tc) σ H (.bl (a && b)) := fun H1 e Q q =>
  ha H1 e _ fun H2 e2 => hb H2 (e.trans e2) _ fun H3 e3 => hr H3 ((e.trans e2).trans e3) _ fun H4 e4 => ⟨a, rfl, by
    cases a with
    | true =>
      show tc σ H4 _
      exact hc rfl H4 (((e.trans e2).trans e3).trans e4) _ fun H5 e5 => hr' rfl H5 ((((e.trans e2).trans e3).trans e4).trans e5) Q fun H6 e6 => q H6 ((((e2.trans e3).trans e4).trans e5).trans e6)
    | false => exact q H4 ((e2.trans e3).trans e4)⟩
theorem ev_meth {C p dx : Addr} {fs : List (Str × V)} {m : Str} {sp : Sp} {dvs vs : List V} {E : XK} {t : TA} (ha : Ev ta σ H (.ref p)) (h : H p = some (.ins C dx fs)) (l : fs.lookup m = none) (hv : EvA t σ H vs) (hs : SpV sp (.ref p :: (vs ++ dvs)) H z) :
    Ev (tMeth C m sp dvs E ta t) σ H z := fun H1 e Q q =>
  ha H1 e _ fun H2 e2 => ⟨p, dx, fs, rfl, e2 p _ (e p _ h), l, hv H2 (e.trans e2) _ fun H3 e3 => hs H3 ((e.trans e2).trans e3) Q (fun H4 e4 => q H4 ((e2.trans e3).trans e4)) E⟩
theorem el_meth {C p dx : Addr} {fs : List (Str × V)} {m : Str} {sp : Sp} {dvs vs xs : List V} {E : XK} {t : TA} (ha : Ev ta σ H (.ref p)) (h : H p = some (.ins C dx fs)) (l : fs.lookup m = none) (hv : EvA t σ H vs) (hs : SpL sp (.ref p :: (vs ++ dvs)) H xs) :
    EvL (tMeth C m sp dvs E ta t) σ H xs := fun H1 e Q q =>
  ha H1 e _ fun H2 e2 => ⟨p, dx, fs, rfl, e2 p _ (e p _ h), l, hv H2 (e.trans e2) _ fun H3 e3 => hs H3 ((e.trans e2).trans e3) Q (fun a H4 ha e4 h4 => q a H4 (fresh_back (e2.trans e3) ha) ((e2.trans e3).trans e4) h4) E⟩
/-- a built-in of one new list -/
theorem ev_cbL {r : RCt} {xs : List V} (ha : EvL ta σ H xs) (hr : ∀ p H1, H1 p = some (.lst xs) → Ex H H1 → RC r [.ref p] H1 z) : Ev (tCB r (tCons ta tNil)) σ H z := fun H1 e Q q =>
  ha H1 e _ fun p H2 _ e2 hp => hr p H2 hp (e.trans e2) H2 (Ex.refl H2) Q fun H3 e3 => q H3 (e2.trans e3)
theorem el_cbL {r : RCt} {xs ys : List V} (ha : EvL ta σ H xs) (hr : ∀ p H1, H1 p = some (.lst xs) → Ex H H1 → RCL r [.ref p] H1 ys) : EvL (tCB r (tCons ta tNil)) σ H ys := fun H1 e Q q =>
  ha H1 e _ fun p H2 _ e2 hp => hr p H2 hp (e.trans e2) H2 (Ex.refl H2) Q fun b H3 hb e3 h3 => q b H3 (fresh_back e2 hb) (e2.trans e3) h3
theorem rv_plus {i j : Int} : RV rPlus (.int i) (.int j) H (.int (i + j)) := rv_I0
theorem rv_minus {i j : Int} : RV rMinus (.int i) (.int j) H (.int (i - j)) := rv_I0
theorem rv_times {i j : Int} (h : CMul i j) : RV rTimes (.int i) (.int j) H (.int (i * j)) := rv_I h
theorem rv_fdiv {i j : Int} (h : CDiv i j) : RV rFdiv (.int i) (.int j) H (.int (i / j)) := rv_I h
theorem rv_mod {i j : Int} (h : 0 < j) : RV rMod (.int i) (.int j) H (.int (i % j)) := rv_I h
theorem rv_lt {i j : Int} : RV rLt (.int i) (.int j) H (.bl (decide (i < j))) := rv_I0
theorem rv_le {i j : Int} : RV rLe (.int i) (.int j) H (.bl (decide (i ≤ j))) := rv_I0
theorem rv_gt {i j : Int} : RV rGt1 (.int i) (.int j) H (.bl (decide (j < i))) := rv_I0
theorem rv_ge {i j : Int} : RV rGe1 (.int i) (.int j) H (.bl (decide (j ≤ i))) := rv_I0
theorem deq_int (i j : Int) : decide (V.int i = V.int j) = decide (i = j) := by
  by_cases h : i = j
  · rw [decide_eq_true h, decide_eq_true (by rw [h])]
  · rw [decide_eq_false h, decide_eq_false (fun e => h (V.int.inj e))]
theorem deq_bl (i j : Bool) : decide (V.bl i = V.bl j) = decide (i = j) := by
  by_cases h : i = j
  · rw [decide_eq_true h, decide_eq_true (by rw [h])]
  · rw [decide_eq_false h, decide_eq_false (fun e => h (V.bl.inj e))]
theorem deq_str (i j : Str) : decide (V.str i = V.str j) = decide (i = j) := by
  by_cases h : i = j
  · rw [decide_eq_true h, decide_eq_true (by rw [h])]
  · rw [decide_eq_false h, decide_eq_false (fun e => h (V.str.inj e))]
theorem rv_eqI {i j : Int} : RV rEq (.int i) (.int j) H (.bl (decide (i = j))) := by
  rw [← deq_int]
  exact rv_eq rfl
theorem rv_neI {i j : Int} : RV rNe (.int i) (.int j) H (.bl (!decide (i = j))) := by
  rw [← deq_int]
  exact rv_ne rfl
theorem rv_eqB {i j : Bool} : RV rEq (.bl i) (.bl j) H (.bl (decide (i = j))) := by
  rw [← deq_bl]
  exact rv_eq rfl
theorem rv_neB {i j : Bool} : RV rNe (.bl i) (.bl j) H (.bl (!decide (i = j))) := by
  rw [← deq_bl]
  exact rv_ne rfl
theorem rv_eqS {i j : Str} : RV rEq (.str i) (.str j) H (.bl (decide (i = j))) := by
  rw [← deq_str]
  exact rv_eq rfl
theorem rv_neS {i j : Str} : RV rNe (.str i) (.str j) H (.bl (!decide (i = j))) := by
  rw [← deq_str]
  exact rv_ne rfl
theorem rc_min2 {i j : Int} : RC rMin2 [.int i, .int j] H (.int (min i j)) := fun H1 _ _ q => ⟨i, j, rfl, by
  have e : (if j < i then j else i) = min i j := by omega
  rw [e]
  exact q H1 (Ex.refl H1)⟩
theorem rc_max2 {i j : Int} : RC rMax2 [.int i, .int j] H (.int (max i j)) := fun H1 _ _ q => ⟨i, j, rfl, by
  have e : (if j > i then j else i) = max i j := by omega
  rw [e]
  exact q H1 (Ex.refl H1)⟩
theorem rc_lenL {p : Addr} {xs : List V} (h : SqL K H p xs) : RC (rLenS K) [.ref p] H (.int (xs.length : Int)) := fun H1 e _ q => ⟨p, xs, rfl, .inl (ex_l e h), q H1 (Ex.refl H1)⟩
theorem rc_lenT {p : Addr} {xs : List V} (h : SqT K H p xs) : RC (rLenS K) [.ref p] H (.int (xs.length : Int)) := fun H1 e _ q => ⟨p, xs, rfl, .inr (ex_t e h), q H1 (Ex.refl H1)⟩
theorem rc_sum {p : Addr} {ns : List Int} (h : SqL K H p (ns.map V.int)) : RC (rSum K) [.ref p] H (.int ns.sum) := fun H1 e _ q => ⟨p, ns, rfl, ex_l e h, q H1 (Ex.refl H1)⟩
theorem rcl_list {p : Addr} {xs : List V} (h : SqL K H p xs ∨ SqT K H p xs) : RCL (rListS K) [.ref p] H xs := fun H1 e _ q => ⟨p, xs, rfl, h.elim (fun h => .inl (ex_l e h)) (fun h => .inr (ex_t e h)), fun l hl => q l _ hl (Ex.new hl) upd_same⟩
/-- the sorted list -/
def srt (ns : List Int) : List Int := ns.mergeSort (fun x y => decide (x ≤ y))
theorem srt_perm (ns : List Int) : (srt ns).Perm ns := List.mergeSort_perm _ _
theorem srt_sorted (ns : List Int) : (srt ns).Pairwise (· ≤ ·) := by
  have h := List.pairwise_mergeSort (le := fun x y : Int => decide (x ≤ y)) (by intro x y z hxy hyz; simp only [decide_eq_true_eq] at *; omega) (by intro x y; simp only [Bool.or_eq_true, decide_eq_true_eq]; omega) ns
  exact h.imp (by intro a b hab; simpa using hab)
theorem srt_one {a b : List Int} (p : a.Perm b) (h : a.Pairwise (· ≤ ·)) : a = srt b :=
  List.Perm.eq_of_pairwise (le := (· ≤ ·)) (fun _ _ _ _ h1 h2 => Int.le_antisymm h1 h2) h (srt_sorted b) (p.trans (srt_perm b).symm)
theorem rcl_sorted {p : Addr} {ns : List Int} (h : SqL K H p (ns.map V.int)) : RCL (rSortedI K) [.ref p] H ((srt ns).map V.int) := fun H1 e _ q => ⟨p, ns, rfl, ex_l e h, fun ns' l hp hs hl => by
  rw [srt_one hp hs]
  exact q l _ hl (Ex.new hl) upd_same⟩
/-- a value's type is known -/
def Vt (K : PySem.W.Frag) (H : Hp) (v : V) (ty : String) : Prop := TyOf K H v (.type ty)
theorem ex_ty {ty : Value} (e : Ex H H') (h : TyOf K H v ty) : TyOf K H' v ty := by
  cases h with
  | non => exact .non
  | bl x => exact .bl x
  | int i => exact .int i
  | str x => exact .str x
  | flt x => exact .flt x
  | lst h => exact .lst (e _ _ h)
  | frz h => exact .frz (e _ _ h)
  | tup h => exact .tup (e _ _ h)
  | dK h => exact .dK (e _ _ h)
  | dT h => exact .dT (e _ _ h)
  | ins h cl ha hn htk hm => exact .ins (e _ _ h) cl ha hn htk hm
theorem Vt.mono {ty : String} (e : Ex H H') (h : Vt K H v ty) : Vt K H' v ty := ex_ty e h
theorem vt_int {i : Int} : Vt K H (.int i) "int" := .int i
theorem vt_bl {i : Bool} : Vt K H (.bl i) "bool" := .bl i
theorem vt_str {i : Str} : Vt K H (.str i) "str" := .str i
theorem vt_non : Vt K H .non "NoneType" := .non
theorem vt_lst {a : Addr} {xs : List V} (h : H a = some (.lst xs)) : Vt K H (.ref a) "list" := .lst h
theorem vt_tup {a : Addr} {xs : List V} (h : H a = some (.tup xs)) : Vt K H (.ref a) "tuple" := .tup h
theorem vt_is_tup {a : Addr} {xs : List V} {ty : String} (h : H a = some (.tup xs)) (t : Vt K H (.ref a) ty) : ty = "tuple" := by
  have key : ∀ T : Value, TyOf K H (.ref a) T → T = .type "tuple" := by
    intro T t
    cases t with
    | tup e => rfl
    | lst e => rw [h] at e; cases e
    | frz e => rw [h] at e; cases e
    | dK e => rw [h] at e; cases e
    | dT e => rw [h] at e; cases e
    | ins e => rw [h] at e; cases e
  exact Value.type.inj (key _ t)
theorem kitB_self (T : String) : kitB T T = some true := by
  unfold kitB
  rw [if_pos (by exact beq_self_eq_true _)]
theorem rc_isi {v : V} {ty T : String} {b : Bool} (h : Vt K H v ty) (hb : kitB ty T = some b) : RC (rIsi K) [v, .ty T] H (.bl b) := fun H1 e _ q =>
  ⟨v, .ty T, .type ty, .type T, b, rfl, .ty T, .base (ex_ty e h), kit_ty hb, q H1 (Ex.refl H1)⟩
/-- dict reads -/
theorem ev_get2 {d : Addr} {kvs : List (List Key × V)} {k : List Key} (hd : Ev ta σ H (.ref d)) (h : H d = some (.dT kvs)) (hk : EvU tb σ H (k.map kV)) (hx : Ev tc σ H z) : Ev (tDGet2 ta tb tc) σ H ((valV kvs k).getD z) := fun H1 e Q q =>
  hd H1 e _ fun H2 e2 => ⟨d, rfl, .inr ⟨kvs, .inl (e2 d _ (e d _ h))⟩, hk H2 (e.trans e2) _ fun a H3 _ e3 ha => hx H3 ((e.trans e2).trans e3) _ fun H4 e4 =>
    ⟨valV kvs k, .inr ⟨kvs, k, a, .inl (e4 d _ (e3 d _ (e2 d _ (e d _ h)))), rfl, e4 a _ ha, rfl⟩, q H4 ((e2.trans e3).trans e4)⟩⟩
theorem ev_getT {d a : Addr} {kvs : List (List Key × V)} {k : List Key} (hd : Ev ta σ H (.ref d)) (h : Rd H d (.dT kvs)) (hk : Ev tb σ H (.ref a)) (ha : H a = some (.tup (k.map kV))) (hv : valV kvs k = some v) : Ev (tDGet ta tb) σ H v := fun H1 e Q q =>
  hd H1 e _ fun H2 e2 => hk H2 (e.trans e2) _ fun H3 e3 => ⟨d, v, rfl, .inr ⟨kvs, k, a, ex_rd ((e.trans e2).trans e3) h, rfl, (((e.trans e2).trans e3)) a _ ha, hv.symm⟩, q H3 (e2.trans e3)⟩
theorem ev_getK {d : Addr} {kvs : List (Key × V)} {k : Key} (hd : Ev ta σ H (.ref d)) (h : Rd H d (.dK kvs)) (hk : Ev tb σ H (kV k)) (hv : valV kvs k = some v) : Ev (tDGet ta tb) σ H v := fun H1 e Q q =>
  hd H1 e _ fun H2 e2 => hk H2 (e.trans e2) _ fun H3 e3 => ⟨d, v, rfl, .inl ⟨kvs, k, ex_rd ((e.trans e2).trans e3) h, rfl, hv.symm⟩, q H3 (e2.trans e3)⟩
theorem ev_inK {d : Addr} {kvs : List (Key × V)} {k : Key} (hd : Ev ta σ H (.ref d)) (h : Rd H d (.dK kvs)) (hk : Ev tb σ H (kV k)) : Ev (tDIn tb ta) σ H (.bl (valV kvs k).isSome) := fun H1 e Q q =>
  hk H1 e _ fun H2 e2 => hd H2 (e.trans e2) _ fun H3 e3 => ⟨d, valV kvs k, rfl, .inl ⟨kvs, k, ex_rd ((e.trans e2).trans e3) h, rfl, rfl⟩, q H3 (e2.trans e3)⟩
theorem ev_notInK {d : Addr} {kvs : List (Key × V)} {k : Key} (hd : Ev ta σ H (.ref d)) (h : Rd H d (.dK kvs)) (hk : Ev tb σ H (kV k)) : Ev (tDNotIn tb ta) σ H (.bl (!(valV kvs k).isSome)) := fun H1 e Q q =>
  hk H1 e _ fun H2 e2 => hd H2 (e.trans e2) _ fun H3 e3 => ⟨d, valV kvs k, rfl, .inl ⟨kvs, k, ex_rd ((e.trans e2).trans e3) h, rfl, rfl⟩, q H3 (e2.trans e3)⟩
theorem ev_notInT {d a : Addr} {kvs : List (List Key × V)} {k : List Key} (hd : Ev ta σ H (.ref d)) (h : Rd H d (.dT kvs)) (hk : Ev tb σ H (.ref a)) (ha : H a = some (.tup (k.map kV))) : Ev (tDNotIn tb ta) σ H (.bl (!(valV kvs k).isSome)) := fun H1 e Q q =>
  hk H1 e _ fun H2 e2 => hd H2 (e.trans e2) _ fun H3 e3 => ⟨d, valV kvs k, rfl, .inr ⟨kvs, k, a, ex_rd ((e.trans e2).trans e3) h, rfl, ((e.trans e2).trans e3) a _ ha, rfl⟩, q H3 (e2.trans e3)⟩
theorem ev_inT {d a : Addr} {kvs : List (List Key × V)} {k : List Key} (hd : Ev ta σ H (.ref d)) (h : Rd H d (.dT kvs)) (hk : Ev tb σ H (.ref a)) (ha : H a = some (.tup (k.map kV))) : Ev (tDIn tb ta) σ H (.bl (valV kvs k).isSome) := fun H1 e Q q =>
  hk H1 e _ fun H2 e2 => hd H2 (e.trans e2) _ fun H3 e3 => ⟨d, valV kvs k, rfl, .inr ⟨kvs, k, a, ex_rd ((e.trans e2).trans e3) h, rfl, ((e.trans e2).trans e3) a _ ha, rfl⟩, q H3 (e2.trans e3)⟩
theorem rd_of {d : Addr} {u : HO} (h : H d = some u) : Rd H d u := .inl h
/-- the end of a reading: what is known passes on -/
theorem Ev.go {Q : VK} (h : Ev te σ H v) (k : ∀ H1, Ex H H1 → Q v H1) : te σ H Q := h H (Ex.refl H) Q k
theorem EvT.go {b : Bool} {Q : Bool → Hp → Prop} (h : EvT t σ H b) (k : ∀ H1, Ex H H1 → Q b H1) : t σ H Q := h H (Ex.refl H) Q k
/-- an if whose test is known -/
theorem s_yes {D : Ends} {tu tw : TS} (h : EvT t σ H true) (k : ∀ H1, Ex H H1 → tu D σ H1) : tIfS t tu tw D σ H := s_if h (fun _ => k) (fun q => nomatch q)
theorem s_no {D : Ends} {tu tw : TS} (h : EvT t σ H false) (k : ∀ H1, Ex H H1 → tw D σ H1) : tIfS t tu tw D σ H := s_if h (fun q => nomatch q) (fun _ => k)
theorem q_yes {D : Ends} {tu tw tz : TS} (h : EvT t σ H true) (k : ∀ H1, Ex H H1 → tu { D with nx := tz D } σ H1) : tSeq (tIfS t tu tw) tz D σ H := s_yes (D := { D with nx := tz D }) h k
theorem q_skip {D : Ends} {tu tz : TS} (h : EvT t σ H false) (k : ∀ H1, Ex H H1 → tz D σ H1) : tSeq (tIfS t tu tNext) tz D σ H := s_no (D := { D with nx := tz D }) h k
theorem q_no {D : Ends} {tu tw tz : TS} (h : EvT t σ H false) (k : ∀ H1, Ex H H1 → tw { D with nx := tz D } σ H1) : tSeq (tIfS t tu tw) tz D σ H := s_no (D := { D with nx := tz D }) h k
end
/-! ### statements by what follows -/
section
variable {K : PySem.W.Frag} {σ : L2.St} {H H' : Hp} {ta tb tc te tx : TE} {t u : TT} {x y z v : V} {D : Ends} {tu tw tz : TS}
theorem q_drop0 (h : te σ H fun _ H1 => tz D σ H1) : tSeq (tDrop te) tz D σ H := h
theorem s_drop0 (h : te σ H fun _ H1 => D.nx σ H1) : tDrop te D σ H := h
theorem s_ret0 (h : te σ H D.rt) : tRet te D σ H := h
theorem q_asg0 {i : Nat} (h : te σ H fun v H1 => tz D (σ.set i (some v)) H1) : tSeq (tAsg te (gName i)) tz D σ H := h
theorem s_asg0 {i : Nat} (h : te σ H fun v H1 => D.nx (σ.set i (some v)) H1) : tAsg te (gName i) D σ H := h
theorem q_seq0 (h : tu { D with nx := tz D } σ H) : tSeq tu tz D σ H := h
theorem c_meth {C p dx : Addr} {fs : List (Str × V)} {m : Str} {sp : Sp} {dvs vs : List V} {E : XK} {t : TA} {Q : VK} (ha : Ev ta σ H (.ref p)) (h : H p = some (.ins C dx fs)) (l : fs.lookup m = none) (hv : EvA t σ H vs) (hs : ∀ H1, Ex H H1 → sp (.ref p :: (vs ++ dvs)) H1 Q E) :
    tMeth C m sp dvs E ta t σ H Q :=
  ha H (Ex.refl H) _ fun H2 e2 => ⟨p, dx, fs, rfl, e2 p _ h, l, hv H2 e2 _ fun H3 e3 => hs H3 (e2.trans e3)⟩
theorem c_call {sp : Sp} {dvs vs : List V} {E : XK} {t : TA} {Q : VK} (hv : EvA t σ H vs) (hs : ∀ H1, Ex H H1 → sp (vs ++ dvs) H1 Q E) : tCall sp dvs E t σ H Q :=
  hv H (Ex.refl H) _ fun H3 e3 => hs H3 e3
theorem c_make {C : Addr} {sp : Sp} {dvs vs : List V} {E : XK} {t : TA} {Q : VK} (hv : EvA t σ H vs)
    (hs : ∀ H1, Ex H H1 → ∀ x dx, H1 x = none → H1 dx = none → dx ≠ x → sp (.ref x :: (vs ++ dvs)) (upd (upd H1 dx (.own x)) x (.ins C dx [])) (fun v H2 => v = .non ∧ Q (.ref x) H2) E) : tMake C sp dvs E t σ H Q :=
  hv H (Ex.refl H) _ fun H3 e3 => hs H3 e3
/-- e.f = v -/
theorem q_fld {C p dx : Addr} {fs : List (Str × V)} {f : Str} (hv : Ev tb σ H v) (ha : Ev ta σ H (.ref p)) (h : H p = some (.ins C dx fs)) (c : Cls K C) (n : NoAttr K C f) (hl : fs.length < 1000) (k : ∀ H1, Ex H H1 → tz D σ (upd H1 p (.ins C dx (putF f v fs)))) :
    tSeq (sFld K ta tb f) tz D σ H :=
  hv H (Ex.refl H) _ fun H1 e1 => ha H1 e1 _ fun H2 e2 => ⟨p, C, dx, fs, rfl, e2 p _ (e1 p _ h), c, n, hl, k H2 (e1.trans e2)⟩
/-- e.f = [..] -/
theorem q_fldL {C p dx : Addr} {fs : List (Str × V)} {f : Str} {xs : List V} (hv : EvL tb σ H xs) (ha : Ev ta σ H (.ref p)) (h : H p = some (.ins C dx fs)) (c : Cls K C) (n : NoAttr K C f) (hl : fs.length < 1000) (k : ∀ l H1, H l = none → Ex H H1 → H1 l = some (.lst xs) → tz D σ (upd H1 p (.ins C dx (putF f (.ref l) fs)))) :
    tSeq (sFld K ta tb f) tz D σ H :=
  hv H (Ex.refl H) _ fun l H1 hl1 e1 h1 => ha H1 e1 _ fun H2 e2 => ⟨p, C, dx, fs, rfl, e2 p _ (e1 p _ h), c, n, hl, k l H2 hl1 (e1.trans e2) (e2 l _ h1)⟩
theorem q_fld0 {f : Str} (h : tb σ H fun y H1 => ta σ H1 fun x H2 => ∃ a C dx fs, x = .ref a ∧ H2 a = some (.ins C dx fs) ∧ Cls K C ∧ NoAttr K C f ∧ fs.length < 1000 ∧ tz D σ (upd H2 a (.ins C dx (putF f y fs)))) : tSeq (sFld K ta tb f) tz D σ H := h
end
/-! ### comprehensions over a list that stands for data -/
section
variable {K : PySem.W.Frag} {σ : L2.St} {H H' : Hp} {ta tb tc te tx : TE} {t u : TT} {x y z v : V}
theorem given_cons (n : Nat) (f : Nat → Bool) (v : Nat → V) : given (n + 1) f v = (if f 0 then [v 0] else []) ++ given n (fun i => f (i + 1)) (fun i => v (i + 1)) := by
  unfold given
  rw [List.range_succ_eq_map, List.filter_cons]
  cases h : f 0 with
  | true => simp [List.filter_map, Function.comp_def]
  | false => simp [List.filter_map, Function.comp_def]
theorem given_list {α : Type} (d : α) (g : α → Bool) (h : α → V) : ∀ ts : List α, given ts.length (fun i => g (ts.getD i d)) (fun i => h (ts.getD i d)) = (ts.filter g).map h
  | [] => rfl
  | a :: r => by
    rw [List.length_cons, given_cons]
    have ih := given_list d g h r
    have e0 : (a :: r).getD 0 d = a := rfl
    have e1 : ∀ i, (a :: r).getD (i + 1) d = r.getD i d := fun i => rfl
    simp only [e0, e1, ih]
    cases hg : g a with
    | true => simp [hg]
    | false => simp [hg]
theorem el_lcF {α : Type} {a : Addr} {xs : List V} {tl : TE} {j : Nat} {vs : List Nat} (ts : List α) (g : α → Bool) (h : α → V) (hl : Ev tl σ H (.ref a)) (hx : SqL K H a xs) (hz : xs.length ≤ 40000) (hn : xs.length = ts.length) (hw : ∀ x, wipe ((wipe σ vs).set j (some x)) vs = wipe σ vs)
    (ht : ∀ (i : Nat) (x : V) (b : α) H1, Ex H H1 → xs[i]? = some x → ts[i]? = some b → EvT t ((wipe σ vs).set j (some x)) H1 (g b)) (he : ∀ (i : Nat) (x : V) (b : α) H1, Ex H H1 → xs[i]? = some x → ts[i]? = some b → g b = true → Ev te ((wipe σ vs).set j (some x)) H1 (h b)) :
    EvL (tLc (iList K tl) (gName j) t te vs) σ H ((ts.filter g).map h) := by
  cases ts with
  | nil =>
    have q := el_lcL (K := K) (te := te) (t := t) (fun _ => true) (fun _ => V.non) hl hx hz hw (fun i x H1 e hi => by
      have := (List.getElem?_eq_some_iff.mp hi).1
      rw [hn] at this
      exact absurd this (Nat.not_lt_zero _)) (fun i x H1 e hi => by
      have := (List.getElem?_eq_some_iff.mp hi).1
      rw [hn] at this
      exact absurd this (Nat.not_lt_zero _))
    rw [hn] at q
    exact q
  | cons d r =>
    have gt : ∀ (i : Nat) (x : V), xs[i]? = some x → ((d :: r)[i]? = some ((d :: r).getD i d)) := fun i x hi => by
      have := (List.getElem?_eq_some_iff.mp hi).1
      rw [hn] at this
      rw [List.getD, List.getElem?_eq_getElem this]
      rfl
    have q := el_lcL (K := K) (te := te) (t := t) (fun i => g ((d :: r).getD i d)) (fun i => h ((d :: r).getD i d)) hl hx hz hw (fun i x H1 e hi => ht i x _ H1 e hi (gt i x hi)) (fun i x H1 e hi hg => he i x _ H1 e hi (gt i x hi) hg)
    rw [hn, given_list d g h (d :: r)] at q
    exact q
end
/-! ### stores into dicts, calls at the slots -/
section
variable {K : PySem.W.Frag} {σ : L2.St} {H H' : Hp} {ta tb tc te tx : TE} {t u : TT} {x y z v : V} {D : Ends} {tu tw tz : TS}
theorem s_dputT {d q : Addr} {kvs : List (List Key × V)} {k : List Key} (hv : Ev tc σ H v) (hd : Ev ta σ H (.ref d)) (hk : Ev tb σ H (.ref q)) (h : H d = some (.dT kvs)) (hq : H q = some (.tup (k.map kV))) (hz : kvs.length < 100000)
    (n : ∀ H1, Ex H H1 → D.nx σ (upd H1 d (.dT (putK kvs k v)))) : sDPut ta tb tc D σ H :=
  hv H (Ex.refl H) _ fun H1 e1 => hd H1 e1 _ fun H2 e2 => hk H2 (e1.trans e2) _ fun H3 e3 => ⟨d, _, rfl, DPut.t (((e1.trans e2).trans e3) _ _ h) (((e1.trans e2).trans e3) _ _ hq) (sz_lt hz), n H3 ((e1.trans e2).trans e3)⟩
theorem q_dputT {d q : Addr} {kvs : List (List Key × V)} {k : List Key} (hv : Ev tc σ H v) (hd : Ev ta σ H (.ref d)) (hk : Ev tb σ H (.ref q)) (h : H d = some (.dT kvs)) (hq : H q = some (.tup (k.map kV))) (hz : kvs.length < 100000)
    (n : ∀ H1, Ex H H1 → tz D σ (upd H1 d (.dT (putK kvs k v)))) : tSeq (sDPut ta tb tc) tz D σ H := s_dputT (D := { D with nx := tz D }) hv hd hk h hq hz n
/-- the key a new tuple -/
theorem s_dputU {d : Addr} {kvs : List (List Key × V)} {k : List Key} (hv : Ev tc σ H v) (hd : Ev ta σ H (.ref d)) (hk : EvU tb σ H (k.map kV)) (h : H d = some (.dT kvs)) (hz : kvs.length < 100000)
    (n : ∀ H1, Ex H H1 → D.nx σ (upd H1 d (.dT (putK kvs k v)))) : sDPut ta tb tc D σ H :=
  hv H (Ex.refl H) _ fun H1 e1 => hd H1 e1 _ fun H2 e2 => hk H2 (e1.trans e2) _ fun q H3 _ e3 hq => ⟨d, _, rfl, DPut.t (((e1.trans e2).trans e3) _ _ h) hq (sz_lt hz), n H3 ((e1.trans e2).trans e3)⟩
theorem q_dputU {d : Addr} {kvs : List (List Key × V)} {k : List Key} (hv : Ev tc σ H v) (hd : Ev ta σ H (.ref d)) (hk : EvU tb σ H (k.map kV)) (h : H d = some (.dT kvs)) (hz : kvs.length < 100000)
    (n : ∀ H1, Ex H H1 → tz D σ (upd H1 d (.dT (putK kvs k v)))) : tSeq (sDPut ta tb tc) tz D σ H := s_dputU (D := { D with nx := tz D }) hv hd hk h hz n
theorem s_dputK {d : Addr} {kvs : List (Key × V)} {k : Key} (hv : Ev tc σ H v) (hd : Ev ta σ H (.ref d)) (hk : Ev tb σ H (kV k)) (h : H d = some (.dK kvs)) (hz : kvs.length < 100000)
    (n : ∀ H1, Ex H H1 → D.nx σ (upd H1 d (.dK (putK kvs k v)))) : sDPut ta tb tc D σ H :=
  hv H (Ex.refl H) _ fun H1 e1 => hd H1 e1 _ fun H2 e2 => hk H2 (e1.trans e2) _ fun H3 e3 => ⟨d, _, rfl, DPut.k (((e1.trans e2).trans e3) _ _ h) (sz_lt hz), n H3 ((e1.trans e2).trans e3)⟩
theorem q_dputK {d : Addr} {kvs : List (Key × V)} {k : Key} (hv : Ev tc σ H v) (hd : Ev ta σ H (.ref d)) (hk : Ev tb σ H (kV k)) (h : H d = some (.dK kvs)) (hz : kvs.length < 100000)
    (n : ∀ H1, Ex H H1 → tz D σ (upd H1 d (.dK (putK kvs k v)))) : tSeq (sDPut ta tb tc) tz D σ H := s_dputK (D := { D with nx := tz D }) hv hd hk h hz n
end
/-- all that stood in H stands, but for p -/
def Fr (p : Addr) (H H' : Hp) : Prop := ∀ b o, H b = some o → b ≠ p → H' b = some o
section
variable {p q : Addr} {H H1 H2 : Hp} {o : HO}
theorem Fr.ex (h : Fr p H H1) (e : Ex H1 H2) : Fr p H H2 := fun b u hb hp => e b u (h b u hb hp)
theorem Ex.fr (e : Ex H H1) : Fr p H H1 := fun b u hb _ => e b u hb
theorem Fr.mut (h : Fr p H H1) (hq : H q = none ∨ q = p) : Fr p H (upd H1 q o) := fun b u hb hp => by
  rw [upd_ne (fun z => by
    subst z
    rcases hq with hq | hq
    · rw [hq] at hb; cases hb
    · exact hp hq)]
  exact h b u hb hp
theorem Fr.free (h : Fr p H H1) (hq : H1 q = none) (hp : q ≠ p) : H q = none := by
  cases e : H q with
  | none => rfl
  | some u => rw [h q u e hp] at hq; cases hq
/-- seen from a heap that does not know p -/
theorem Fr.toEx (h : Fr p H H1) (hp : H p = none) : Ex H H1 := fun b u hb => h b u hb (fun z => by subst z; rw [hp] at hb; cases hb)
end
section
variable {K : PySem.W.Frag} {σ : L2.St} {H H' : Hp} {D : Ends} {tu tw tz : TS} {g : TG}
theorem q_forZ {ta : TA} {a b : Addr} {xs ys : List V} (h : EvA ta σ H [.ref a, .ref b]) (hx : SqL K H a xs) (hy : SqL K H b ys) (hl : xs.length = ys.length) (Pv : Nat → L2.St → Hp → Prop) (h0 : ∀ H1, Ex H H1 → Pv 0 σ H1) (hq : ∀ i σ H, Pv i σ H → SqL K H a xs ∧ SqL K H b ys)
    (hs : ∀ (i : Nat) (x y : V) (T : Addr) (σ : L2.St) (H : Hp), xs[i]? = some x → ys[i]? = some y → Pv i σ H → H T = none → g (.ref T) σ (upd H T (.tup [x, y])) fun σ2 H2 => tu { D with nx := Pv (i + 1), ct := Pv (i + 1), bk := tz D } σ2 H2) (hd : ∀ σ H, Pv xs.length σ H → tz D σ H) :
    tSeq (tFor (iZip K ta) g tu) tz D σ H :=
  h H (Ex.refl H) _ fun H1 e1 => ⟨a, b, xs, ys, rfl, ex_l e1 hx, ex_l e1 hy, RZ.for_zipL (D := { D with nx := tz D }) hl Pv (h0 H1 e1) hq hs hd⟩
end

theorem Ex.get {H H' : Hp} {a : Addr} {o : HO} (e : Ex H H') (h : H a = some o) : H' a = some o := e a o h

/-! ### a net's attributes -/
def flds (m : Int) (kl sd nl : Addr) : List (Str × V) := [("many", .int m), ("kept", .ref kl), ("summed", .ref sd), ("near", .ref nl)]
theorem lk_here {k : Str} {v : V} {r : List (Str × V)} : List.lookup k ((k, v) :: r) = some v := by
  have e : (k == k) = true := beq_self_eq_true k
  simp only [List.lookup, e]
theorem lk_past {k g : Str} {v : V} {r : List (Str × V)} (h : (k == g) = false) : List.lookup k ((g, v) :: r) = List.lookup k r := by
  simp only [List.lookup, h]
section
variable {m : Int} {kl sd nl : Addr}
theorem lk_many : (flds m kl sd nl).lookup ("many" : Str) = some (.int m) := lk_here
theorem lk_kept : (flds m kl sd nl).lookup ("kept" : Str) = some (.ref kl) := (lk_past (by decide +kernel)).trans lk_here
theorem lk_summed : (flds m kl sd nl).lookup ("summed" : Str) = some (.ref sd) := (lk_past (by decide +kernel)).trans ((lk_past (by decide +kernel)).trans lk_here)
theorem lk_near : (flds m kl sd nl).lookup ("near" : Str) = some (.ref nl) := (lk_past (by decide +kernel)).trans ((lk_past (by decide +kernel)).trans ((lk_past (by decide +kernel)).trans lk_here))
theorem lk_no {f : Str} (h : (f == "many") = false ∧ (f == "kept") = false ∧ (f == "summed") = false ∧ (f == "near") = false) : (flds m kl sd nl).lookup f = none :=
  (lk_past h.1).trans ((lk_past h.2.1).trans ((lk_past h.2.2.1).trans ((lk_past h.2.2.2).trans rfl)))
end

/-! ### promises of the small defs -/
def isI : V → Bool
  | .int _ => true
  | _ => false
/-- a place of a net of so many -/
def isPl (m : Int) : V → Bool
  | .int i => decide (0 ≤ i) && decide (i < m)
  | _ => false
/-- a value of a known kind -/
def Kd (K : PySem.W.Frag) (H : Hp) (v : V) : Prop := ∃ (ty : String) (b1 b2 : Bool), Vt K H v ty ∧ kitB ty "int" = some b1 ∧ kitB ty "bool" = some b2 ∧ (b1 && !b2) = isI v
section
variable {K : PySem.W.Frag} {H H' : Hp}
theorem Kd.mono {v : V} (e : Ex H H') (h : Kd K H v) : Kd K H' v := let ⟨ty, b1, b2, a, b⟩ := h; ⟨ty, b1, b2, a.mono e, b⟩
theorem kd_int {i : Int} : Kd K H (.int i) := ⟨"int", true, false, vt_int, by decide +kernel, by decide +kernel, rfl⟩
theorem kd_bl {i : Bool} : Kd K H (.bl i) := ⟨"bool", true, true, vt_bl, by decide +kernel, by decide +kernel, rfl⟩
theorem kd_str {i : Str} : Kd K H (.str i) := ⟨"str", false, false, vt_str, by decide +kernel, by decide +kernel, rfl⟩
theorem kd_non : Kd K H .non := ⟨"NoneType", false, false, vt_non, by decide +kernel, by decide +kernel, rfl⟩
theorem kd_lst {a : Addr} {xs : List V} (h : H a = some (.lst xs)) : Kd K H (.ref a) := ⟨"list", false, false, vt_lst h, by decide +kernel, by decide +kernel, rfl⟩
theorem kd_tup {a : Addr} {xs : List V} (h : H a = some (.tup xs)) : Kd K H (.ref a) := ⟨"tuple", false, false, vt_tup h, by decide +kernel, by decide +kernel, rfl⟩
end
/-- an instance with the four attributes -/
def ObjAt (A : Ads) (H : Hp) (p : Addr) (m : Int) (kl sd nl : Addr) : Prop := ∃ dx, H p = some (.ins A.C dx (flds m kl sd nl))
theorem ObjAt.mono {A : Ads} {H H' : Hp} {p : Addr} {m : Int} {kl sd nl : Addr} (e : Ex H H') (h : ObjAt A H p m kl sd nl) : ObjAt A H' p m kl sd nl := let ⟨dx, h⟩ := h; ⟨dx, e _ _ h⟩

def sp_is_whole (K : PySem.W.Frag) (_ : Ads) : Sp := fun vs H Q _ => ∃ v, vs = [v] ∧ Kd K H v ∧ ∀ H', Ex H H' → Q (.bl (isI v)) H'
def sp_has (K : PySem.W.Frag) (A : Ads) : Sp := fun vs H Q _ => ∃ p m kl sd nl v, vs = [.ref p, v] ∧ ObjAt A H p m kl sd nl ∧ Kd K H v ∧ ∀ H', Ex H H' → Q (.bl (isPl m v)) H'
def sp_need (K : PySem.W.Frag) (A : Ads) : Sp := fun vs H Q E => ∃ p m kl sd nl v, vs = [.ref p, v] ∧ ObjAt A H p m kl sd nl ∧ Kd K H v ∧
  (isPl m v = true → ∀ H', Ex H H' → Q .non H') ∧ (isPl m v = false → ∀ H', Ex H H' → E (.ref A.eNoPlace) none H')
/-- two different places -/
def isTwo (m : Int) (v u : V) : Bool := isPl m v && isPl m u && !decide (v = u)
def sp_need_two (K : PySem.W.Frag) (A : Ads) : Sp := fun vs H Q E => ∃ p m kl sd nl v u, vs = [.ref p, v, u] ∧ ObjAt A H p m kl sd nl ∧ Kd K H v ∧ Kd K H u ∧
  (isTwo m v u = true → ∀ H', Ex H H' → Q .non H') ∧ (isTwo m v u = false → ∀ H', Ex H H' → E (.ref A.eNoPlace) none H')
def keyT (i j : Int) : List Key := [.inl (min i j), .inl (max i j)]
def sp_cost (_ : PySem.W.Frag) (A : Ads) : Sp := fun vs H Q _ => ∃ p m kl sd nl kvs i j, vs = [.ref p, .int i, .int j] ∧ ObjAt A H p m kl sd nl ∧ H sd = some (.dT kvs) ∧
  ∀ H', Ex H H' → Q ((valV kvs (keyT i j)).getD (.int 0)) H'
section
variable (K : PySem.W.Frag) (A : Ads)
theorem len_is_whole : ∀ vs H Q E, sp_is_whole K A vs H Q E → vs.length = (["thing"] : List Str).length := by
  rintro _ _ _ _ ⟨_, rfl, _⟩; rfl
theorem len_has : ∀ vs H Q E, sp_has K A vs H Q E → vs.length = (["self", "place"] : List Str).length := by
  rintro _ _ _ _ ⟨_, _, _, _, _, _, rfl, _⟩; rfl
theorem len_need : ∀ vs H Q E, sp_need K A vs H Q E → vs.length = (["self", "place"] : List Str).length := by
  rintro _ _ _ _ ⟨_, _, _, _, _, _, rfl, _⟩; rfl
theorem len_need_two : ∀ vs H Q E, sp_need_two K A vs H Q E → vs.length = (["self", "one", "other"] : List Str).length := by
  rintro _ _ _ _ ⟨_, _, _, _, _, _, _, rfl, _⟩; rfl
theorem len_cost : ∀ vs H Q E, sp_cost K A vs H Q E → vs.length = (["self", "one", "other"] : List Str).length := by
  rintro _ _ _ _ ⟨_, _, _, _, _, _, _, _, rfl, _⟩; rfl
end
section
variable {K : PySem.W.Frag} {A : Ads} {H : Hp}
theorem spv_is_whole {v : V} (h : Kd K H v) : SpV (sp_is_whole K A) [v] H (.bl (isI v)) := fun _ e _ q _ => ⟨v, rfl, h.mono e, fun H2 e2 => q H2 e2⟩
theorem spv_has {p : Addr} {m : Int} {kl sd nl : Addr} {v : V} (o : ObjAt A H p m kl sd nl) (h : Kd K H v) : SpV (sp_has K A) [.ref p, v] H (.bl (isPl m v)) := fun _ e _ q _ =>
  ⟨p, m, kl, sd, nl, v, rfl, o.mono e, h.mono e, fun H2 e2 => q H2 e2⟩
theorem spv_cost {p : Addr} {m : Int} {kl sd nl : Addr} {kvs : List (List Key × V)} {i j : Int} (o : ObjAt A H p m kl sd nl) (h : H sd = some (.dT kvs)) : SpV (sp_cost K A) [.ref p, .int i, .int j] H ((valV kvs (keyT i j)).getD (.int 0)) := fun _ e _ q _ =>
  ⟨p, m, kl, sd, nl, kvs, i, j, rfl, o.mono e, e _ _ h, fun H2 e2 => q H2 e2⟩
end

/-! ### nets as data -/
abbrev Tie := Nat × Nat × Int
structure Net where
  many : Nat
  ties : List Tie
def okTie (m : Nat) (t : Tie) : Prop := t.1 < m ∧ t.2.1 < m ∧ t.1 ≠ t.2.1 ∧ 1 ≤ t.2.2 ∧ t.2.2 ≤ 1000000000
structure Net.Ok (n : Net) : Prop where
  lo : 1 ≤ n.many
  hi : n.many ≤ 24
  few : n.ties.length ≤ 300
  all : ∀ t ∈ n.ties, okTie n.many t
def joins (i j : Nat) (t : Tie) : Bool := (decide (t.1 = i) && decide (t.2.1 = j)) || (decide (t.1 = j) && decide (t.2.1 = i))
def costOf (ts : List Tie) (i j : Nat) : Int := ((ts.filter (joins i j)).map (·.2.2)).sum
/-- a place beside i, told by a tie -/
def over (i : Nat) (t : Tie) : Option Nat := if t.1 = i then some t.2.1 else if t.2.1 = i then some t.1 else none
def addNew (l : List Nat) : Option Nat → List Nat
  | none => l
  | some j => if j ∈ l then l else l ++ [j]
def nearOf (ts : List Tie) (i : Nat) : List Nat := ts.foldl (fun l t => addNew l (over i t)) []
def vi (i : Nat) : V := .int (i : Int)
def tieV (t : Tie) : List V := [vi t.1, vi t.2.1, .int t.2.2]
def TiesAt (H : Hp) (as : List Addr) (ts : List Tie) : Prop := Paired (fun a t => H a = some (.tup (tieV t))) as ts
def keyN (i j : Nat) : List Key := [.inl (i : Int), .inl (j : Int)]
structure SumOk (kvs : List (List Key × V)) (ts : List Tie) : Prop where
  val : ∀ i j : Nat, i < j → valV kvs (keyN i j) = if ts.any (joins i j) then some (.int (costOf ts i j)) else none
  len : kvs.length ≤ ts.length
structure NearAt (H : Hp) (ns : List Addr) (ts : List Tie) (m : Nat) : Prop where
  len : ns.length = m
  at_ : ∀ (i : Nat) (a : Addr), ns[i]? = some a → H a = some (.lst ((nearOf ts i).map vi))
structure NetS where
  dx : Addr
  kl : Addr
  sd : Addr
  nl : Addr
  as : List Addr
  ns : List Addr
  kvs : List (List Key × V)
/-- a net stands at p, its parts at s -/
structure NetX (A : Ads) (H : Hp) (p : Addr) (n : Net) (s : NetS) : Prop where
  ok : n.Ok
  ob : H p = some (.ins A.C s.dx (flds (n.many : Int) s.kl s.sd s.nl))
  hk : H s.kl = some (.lst (s.as.map V.ref))
  ta : TiesAt H s.as n.ties
  hs : H s.sd = some (.dT s.kvs)
  so : SumOk s.kvs n.ties
  hn : H s.nl = some (.lst (s.ns.map V.ref))
  na : NearAt H s.ns n.ties n.many
section
variable {A : Ads} {H H' : Hp} {p : Addr} {n : Net} {s : NetS}
theorem TiesAt.mono {as : List Addr} {ts : List Tie} (e : Ex H H') (h : TiesAt H as ts) : TiesAt H' as ts := Paired.mapP h fun a t q => e _ _ q
theorem NearAt.mono {ns : List Addr} {ts : List Tie} {m : Nat} (e : Ex H H') (h : NearAt H ns ts m) : NearAt H' ns ts m := ⟨h.len, fun i a q => e _ _ (h.at_ i a q)⟩
theorem NetX.mono (e : Ex H H') (h : NetX A H p n s) : NetX A H' p n s := ⟨h.ok, e _ _ h.ob, e _ _ h.hk, h.ta.mono e, e _ _ h.hs, h.so, e _ _ h.hn, h.na.mono e⟩
theorem NetX.obj (h : NetX A H p n s) : ObjAt A H p (n.many : Int) s.kl s.sd s.nl := ⟨s.dx, h.ob⟩
theorem paired_get {α β : Type} {R : α → β → Prop} : ∀ {as : List α} {bs : List β} {i : Nat} {a : α} {b : β}, Paired R as bs → as[i]? = some a → bs[i]? = some b → R a b
  | _, _, _, _, _, .nil, h, _ => by simp at h
  | _, _, 0, _, _, .cons r _, h, q => by simp at h q; subst h q; exact r
  | _, _, i + 1, _, _, .cons _ t, h, q => paired_get (i := i) t (by simpa using h) (by simpa using q)
theorem vi_inj {i j : Nat} (h : vi i = vi j) : i = j := by
  have := V.int.inj h
  omega
end

/-! ### promises of the net's defs -/
def sp_ties (_ : PySem.W.Frag) (A : Ads) : Sp := fun vs H Q _ => ∃ p n s, vs = [.ref p] ∧ NetX A H p n s ∧ ∀ q H', H q = none → Ex H H' → H' q = some (.lst (s.as.map V.ref)) → Q (.ref q) H'
def sp_between (K : PySem.W.Frag) (A : Ads) : Sp := fun vs H Q E => ∃ p n s v u, vs = [.ref p, v, u] ∧ NetX A H p n s ∧ Kd K H v ∧ Kd K H u ∧
  (∀ i j : Nat, v = vi i → u = vi j → i < n.many → j < n.many → i ≠ j → ∀ H', Ex H H' → Q (.int (costOf n.ties i j)) H') ∧ (isTwo (n.many : Int) v u = false → ∀ H', Ex H H' → E (.ref A.eNoPlace) none H')
def besideOf (ts : List Tie) (i : Nat) : List Int := srt (List.map (fun j : Nat => (j : Int)) (nearOf ts i))
def sp_beside (K : PySem.W.Frag) (A : Ads) : Sp := fun vs H Q E => ∃ p n s v, vs = [.ref p, v] ∧ NetX A H p n s ∧ Kd K H v ∧
  (∀ i : Nat, v = vi i → i < n.many → ∀ q H', H q = none → Ex H H' → H' q = some (.lst ((besideOf n.ties i).map V.int)) → Q (.ref q) H') ∧ (isPl (n.many : Int) v = false → ∀ H', Ex H H' → E (.ref A.eNoPlace) none H')
def priceOf (ts : List Tie) (side : List Nat) : Int := ((ts.filter fun t => decide (t.1 ∈ side) != decide (t.2.1 ∈ side)).map (·.2.2)).sum
/-- different places of a net of so many -/
def GoodSide (m : Nat) (xs : List V) : Prop := ∃ side : List Nat, xs = side.map vi ∧ side.Nodup ∧ ∀ i ∈ side, i < m
def sp_price (K : PySem.W.Frag) (A : Ads) : Sp := fun vs H Q E => ∃ p n s v, vs = [.ref p, v] ∧ NetX A H p n s ∧
  ((∃ l xs, v = .ref l ∧ H l = some (.lst xs) ∧ xs.length ≤ 1000 ∧ (∀ x ∈ xs, Kd K H x) ∧ (∀ side : List Nat, xs = side.map vi → side.Nodup → (∀ i ∈ side, i < n.many) → ∀ H', Ex H H' → Q (.int (priceOf n.ties side)) H') ∧ (¬ GoodSide n.many xs → ∀ H', Ex H H' → E (.ref A.eNoSide) none H')) ∨
   (∃ ty, Vt K H v ty ∧ kitB ty "list" = some false ∧ ∀ H', Ex H H' → E (.ref A.eNoSide) none H'))
section
variable (K : PySem.W.Frag) (A : Ads)
theorem len_ties : ∀ vs H Q E, sp_ties K A vs H Q E → vs.length = (["self"] : List Str).length := by
  rintro _ _ _ _ ⟨_, _, _, rfl, _⟩; rfl
theorem len_between : ∀ vs H Q E, sp_between K A vs H Q E → vs.length = (["self", "one", "other"] : List Str).length := by
  rintro _ _ _ _ ⟨_, _, _, _, _, rfl, _⟩; rfl
theorem len_beside : ∀ vs H Q E, sp_beside K A vs H Q E → vs.length = (["self", "place"] : List Str).length := by
  rintro _ _ _ _ ⟨_, _, _, _, rfl, _⟩; rfl
theorem len_price : ∀ vs H Q E, sp_price K A vs H Q E → vs.length = (["self", "side"] : List Str).length := by
  rintro _ _ _ _ ⟨_, _, _, _, rfl, _⟩; rfl
end

/-! ### a net while it is built -/
structure Build (A : Ads) (H : Hp) (p : Addr) (m : Nat) (dx kl sd nl : Addr) (ns : List Addr) (ks : List V) (kvs : List (List Key × V)) (nss : Nat → List V) : Prop where
  ob : H p = some (.ins A.C dx (flds (m : Int) kl sd nl))
  hk : H kl = some (.lst ks)
  hs : H sd = some (.dT kvs)
  hn : H nl = some (.lst (ns.map V.ref))
  len : ns.length = m
  at_ : ∀ (i : Nat) (a : Addr), ns[i]? = some a → H a = some (.lst (nss i))
  d1 : kl ≠ nl
  d2 : kl ∉ ns
  d3 : nl ∉ ns
  nd : ns.Nodup
section
variable {A : Ads} {H H' : Hp} {p dx kl sd nl : Addr} {m : Nat} {ns : List Addr} {ks : List V} {kvs : List (List Key × V)} {nss : Nat → List V}
theorem Build.ext (b : Build A H p m dx kl sd nl ns ks kvs nss) (e : Ex H H') : Build A H' p m dx kl sd nl ns ks kvs nss :=
  ⟨e _ _ b.ob, e _ _ b.hk, e _ _ b.hs, e _ _ b.hn, b.len, fun i a h => e _ _ (b.at_ i a h), b.d1, b.d2, b.d3, b.nd⟩
theorem Build.kept (b : Build A H p m dx kl sd nl ns ks kvs nss) (ks' : List V) : Build A (upd H kl (.lst ks')) p m dx kl sd nl ns ks' kvs nss := by
  have h1 : p ≠ kl := ne_of b.ob b.hk (by intro z; cases z)
  have h2 : sd ≠ kl := ne_of b.hs b.hk (by intro z; cases z)
  exact ⟨by rw [upd_ne h1]; exact b.ob, upd_same, by rw [upd_ne h2]; exact b.hs, by rw [upd_ne b.d1.symm]; exact b.hn, b.len, fun i a h => by
    have z : a ≠ kl := fun z => b.d2 (by rw [← z]; exact List.mem_of_getElem? h)
    rw [upd_ne z]; exact b.at_ i a h, b.d1, b.d2, b.d3, b.nd⟩
theorem Build.summed (b : Build A H p m dx kl sd nl ns ks kvs nss) (kvs' : List (List Key × V)) : Build A (upd H sd (.dT kvs')) p m dx kl sd nl ns ks kvs' nss := by
  have h1 : p ≠ sd := ne_of b.ob b.hs (by intro z; cases z)
  have h2 : kl ≠ sd := ne_of b.hk b.hs (by intro z; cases z)
  have h3 : nl ≠ sd := ne_of b.hn b.hs (by intro z; cases z)
  exact ⟨by rw [upd_ne h1]; exact b.ob, by rw [upd_ne h2]; exact b.hk, upd_same, by rw [upd_ne h3]; exact b.hn, b.len, fun i a h => by
    rw [upd_ne (ne_of (b.at_ i a h) b.hs (by intro z; cases z))]; exact b.at_ i a h, b.d1, b.d2, b.d3, b.nd⟩
theorem Build.near (b : Build A H p m dx kl sd nl ns ks kvs nss) {j : Nat} {c : Addr} (hc : ns[j]? = some c) (l : List V) : Build A (upd H c (.lst l)) p m dx kl sd nl ns ks kvs (fun i => if i = j then l else nss i) := by
  have hcl := b.at_ j c hc
  have h1 : p ≠ c := ne_of b.ob hcl (by intro z; cases z)
  have h2 : sd ≠ c := ne_of b.hs hcl (by intro z; cases z)
  have hm := List.mem_of_getElem? hc
  have z1 : kl ≠ c := fun z => b.d2 (by rw [z]; exact hm)
  have z2 : nl ≠ c := fun z => b.d3 (by rw [z]; exact hm)
  refine ⟨by rw [upd_ne h1]; exact b.ob, by rw [upd_ne z1]; exact b.hk, by rw [upd_ne h2]; exact b.hs, by rw [upd_ne z2]; exact b.hn, b.len, fun i a h => ?_, b.d1, b.d2, b.d3, b.nd⟩
  show upd H c (.lst l) a = some (.lst (if i = j then l else nss i))
  by_cases hij : i = j
  · subst hij
    have : a = c := by rw [h] at hc; exact Option.some.inj hc
    rw [if_pos rfl, this, upd_same]
  · have z3 : a ≠ c := fun z => hij (nd_ix b.nd h (by rw [z]; exact hc))
    rw [if_neg hij, upd_ne z3]
    exact b.at_ i a h
end
theorem nearOf_append (ts : List Tie) (t : Tie) (i : Nat) : nearOf (ts ++ [t]) i = addNew (nearOf ts i) (over i t) := by
  unfold nearOf
  rw [List.foldl_append]; rfl
theorem costOf_append (ts : List Tie) (t : Tie) (i j : Nat) : costOf (ts ++ [t]) i j = costOf ts i j + if joins i j t then t.2.2 else 0 := by
  unfold costOf
  rw [List.filter_append, List.map_append, List.sum_append]
  congr 1
  by_cases h : joins i j t = true
  · simp [h]
  · simp [h]
/-- a tie of the two places, in either order, has been told just when the one is beside the other -/
theorem mem_nearOf (ts : List Tie) (i j : Nat) (hall : ∀ t ∈ ts, t.1 ≠ t.2.1) : j ∈ nearOf ts i ↔ ∃ t ∈ ts, over i t = some j := by
  have key : ∀ (ts : List Tie) (acc : List Nat), j ∈ ts.foldl (fun l t => addNew l (over i t)) acc ↔ j ∈ acc ∨ ∃ t ∈ ts, over i t = some j := by
    intro ts
    induction ts with
    | nil => intro acc; simp
    | cons t r ih =>
      intro acc
      rw [List.foldl_cons, ih]
      have : j ∈ addNew acc (over i t) ↔ j ∈ acc ∨ over i t = some j := by
        cases h : over i t with
        | none => simp [addNew]
        | some k =>
          unfold addNew
          by_cases hk : k ∈ acc
          · simp only [if_pos hk, Option.some.injEq]
            exact ⟨.inl, fun h => h.elim id fun e => e ▸ hk⟩
          · simp only [if_neg hk, List.mem_append, List.mem_singleton, Option.some.injEq]
            exact ⟨fun h => h.imp id Eq.symm, fun h => h.imp id Eq.symm⟩
      rw [this]
      simp only [List.mem_cons, exists_eq_or_imp]
      rw [or_assoc]
  unfold nearOf
  rw [key]
  simp
theorem over_joins {i j : Nat} {t : Tie} (hij : i ≠ j) (ht : t.1 ≠ t.2.1) : over i t = some j ↔ joins i j t = true := by
  unfold over joins
  simp only [Bool.or_eq_true, Bool.and_eq_true, decide_eq_true_eq]
  by_cases h1 : t.1 = i
  · rw [if_pos h1]
    simp only [Option.some.injEq]
    exact ⟨fun h => .inl ⟨h1, h⟩, fun h => h.elim (·.2) fun h => absurd (h1.symm.trans h.1) hij⟩
  · rw [if_neg h1]
    by_cases h2 : t.2.1 = i
    · rw [if_pos h2]
      simp only [Option.some.injEq]
      exact ⟨fun h => .inr ⟨h, h2⟩, fun h => h.elim (fun h => absurd h.1 h1) (·.1)⟩
    · rw [if_neg h2]
      simp only [reduceCtorEq, false_iff]
      rintro (h | h)
      · exact h1 h.1
      · exact h2 h.2

/-- what may stand in a list of ties -/
def TieK (K : PySem.W.Frag) (H : Hp) (x : V) : Prop :=
  (∃ ty, Vt K H x ty ∧ kitB ty "tuple" = some false) ∨
  (∃ a vs, x = .ref a ∧ H a = some (.tup vs) ∧ vs.length ≠ 3) ∨
  (∃ a v0 v1 v2, x = .ref a ∧ H a = some (.tup [v0, v1, v2]) ∧ Kd K H v0 ∧ Kd K H v1 ∧ Kd K H v2)
theorem TieK.mono {K : PySem.W.Frag} {H H' : Hp} {x : V} (e : Ex H H') (h : TieK K H x) : TieK K H' x := by
  rcases h with ⟨ty, h, q⟩ | ⟨a, vs, rfl, h, q⟩ | ⟨a, v0, v1, v2, rfl, h, k0, k1, k2⟩
  · exact .inl ⟨ty, h.mono e, q⟩
  · exact .inr (.inl ⟨a, vs, rfl, e _ _ h, q⟩)
  · exact .inr (.inr ⟨a, v0, v1, v2, rfl, e _ _ h, k0.mono e, k1.mono e, k2.mono e⟩)
/-- good ties for a net of so many places -/
def GoodTies (H : Hp) (m : Nat) (xs : List V) : Prop := ∃ as ts, xs = as.map V.ref ∧ TiesAt H as ts ∧ ts.length ≤ 300 ∧ ∀ t ∈ ts, okTie m t
def sp_init (K : PySem.W.Frag) (A : Ads) : Sp := fun vs H Q E => ∃ (H0 : Hp) (p dx : Addr) (mv tv : V), vs = [.ref p, mv, tv] ∧ Ex H0 H ∧ H0 p = none ∧ H p = some (.ins A.C dx []) ∧ Kd K H0 mv ∧
  ((∃ (m l : Nat) (as : List Addr) (ts : List Tie), mv = vi m ∧ tv = .ref l ∧ H0 l = some (.lst (as.map V.ref)) ∧ TiesAt H0 as ts ∧ Net.Ok ⟨m, ts⟩ ∧
      ∀ H' s, Ex H0 H' → NetX A H' p ⟨m, ts⟩ s → s.as = as → H0 s.kl = none → H0 s.sd = none → H0 s.nl = none → (∀ a ∈ s.ns, H0 a = none) → Q .non H') ∨
   (((¬ ∃ m : Nat, mv = vi m ∧ 1 ≤ m ∧ m ≤ 24) ∨ (∃ m : Nat, mv = vi m ∧ 1 ≤ m ∧ m ≤ 24 ∧
      ((∃ ty, Vt K H0 tv ty ∧ kitB ty "list" = some false) ∨ ∃ l xs, tv = .ref l ∧ H0 l = some (.lst xs) ∧ xs.length ≤ 1000 ∧ (∀ x ∈ xs, TieK K H0 x) ∧ ¬ GoodTies H0 m xs))) ∧
      ∀ H', Ex H0 H' → E (.ref A.eNoNet) none H'))
theorem len_init (K : PySem.W.Frag) (A : Ads) : ∀ vs H Q E, sp_init K A vs H Q E → vs.length = (["self", "many", "ties"] : List Str).length := by
  rintro _ _ _ _ ⟨_, _, _, _, _, rfl, _⟩; rfl

/-! ### data compared -/
section
variable {K : PySem.W.Frag} {H H' : Hp}
mutual
theorem Dp.mono (e : Ex H H') : ∀ {v : V} {d : PyData}, Dp K H v d → Dp K H' v d
  | _, _, .non => .non
  | _, _, .bl b => .bl b
  | _, _, .int i => .int i
  | _, _, .str x => .str x
  | _, _, .lst h t => .lst (ex_l e h) (DpAll.mono e t)
  | _, _, .tup h t => .tup (ex_t e h) (DpAll.mono e t)
theorem DpAll.mono (e : Ex H H') : ∀ {vs : List V} {ds : List PyData}, DpAll K H vs ds → DpAll K H' vs ds
  | _, _, .nil => .nil
  | _, _, .cons h t => .cons (Dp.mono e h) (DpAll.mono e t)
end
theorem rv_eqD {x y : V} {d d' : PyData} (h1 : Dp K H x d) (h2 : Dp K H y d') (s1 : SeqAt.shaped d = true) (s2 : SeqAt.shaped d' = true) : RV (rEqD K) x y H (.bl (PyData.eqv d d')) := fun H1 e _ q =>
  ⟨d, d', Dp.mono e h1, Dp.mono e h2, s1, s2, q H1 (Ex.refl H1)⟩
theorem rv_neD {x y : V} {d d' : PyData} (h1 : Dp K H x d) (h2 : Dp K H y d') (s1 : SeqAt.shaped d = true) (s2 : SeqAt.shaped d' = true) : RV (rNeD K) x y H (.bl (!PyData.eqv d d')) := fun H1 e _ q =>
  ⟨d, d', Dp.mono e h1, Dp.mono e h2, s1, s2, q H1 (Ex.refl H1)⟩
def intD (ns : List Int) : PyData := .list (ns.map PyData.int)
def tieD (t : Tie) : PyData := .tuple [.int (t.1 : Int), .int (t.2.1 : Int), .int t.2.2]
def tiesD (ts : List Tie) : PyData := .list (ts.map tieD)
theorem dpAll_ints : ∀ ns : List Int, DpAll K H (ns.map V.int) (ns.map PyData.int)
  | [] => .nil
  | n :: r => .cons (.int n) (dpAll_ints r)
theorem dp_ints {a : Addr} {ns : List Int} (h : SqL K H a (ns.map V.int)) : Dp K H (.ref a) (intD ns) := .lst h (dpAll_ints ns)
theorem dp_tie {a : Addr} {t : Tie} (h : H a = some (.tup (tieV t))) : Dp K H (.ref a) (tieD t) := .tup (st_of h) (.cons (.int _) (.cons (.int _) (.cons (.int _) .nil)))
theorem dpAll_ties : ∀ {as : List Addr} {ts : List Tie}, TiesAt H as ts → DpAll K H (as.map V.ref) (ts.map tieD)
  | _, _, .nil => .nil
  | _, _, .cons h t => .cons (dp_tie h) (dpAll_ties t)
theorem dp_ties {a : Addr} {as : List Addr} {ts : List Tie} (h : SqL K H a (as.map V.ref)) (t : TiesAt H as ts) : Dp K H (.ref a) (tiesD ts) := .lst h (dpAll_ties t)
end
theorem lay_ints : ∀ ns : List Int, PyData.canLayAll0 (ns.map PyData.int) = true
  | [] => rfl
  | n :: r => by
    show (true && PyData.canLayAll0 (r.map PyData.int)) = true
    rw [lay_ints r]; rfl
theorem depth_ints : ∀ ns : List Int, PyData.depthAll (ns.map PyData.int) = 0
  | [] => rfl
  | n :: r => by
    show max 0 (PyData.depthAll (r.map PyData.int)) = 0
    rw [depth_ints r]; rfl
theorem shaped_ints (ns : List Int) : SeqAt.shaped (intD ns) = true := by
  show (PyData.canLayAll0 (ns.map PyData.int) && decide (PyData.depthAll (ns.map PyData.int) + 1 ≤ 64)) = true
  rw [lay_ints, depth_ints]; rfl
theorem lay_tie (t : Tie) : PyData.canLay0 (tieD t) = true := rfl
theorem depth_tie (t : Tie) : PyData.depth (tieD t) = 1 := rfl
theorem shaped_tie (t : Tie) : SeqAt.shaped (tieD t) = true := rfl
theorem lay_ties : ∀ ts : List Tie, PyData.canLayAll0 (ts.map tieD) = true
  | [] => rfl
  | t :: r => by
    show (PyData.canLay0 (tieD t) && PyData.canLayAll0 (r.map tieD)) = true
    rw [lay_ties r]; rfl
theorem depth_ties : ∀ ts : List Tie, PyData.depthAll (ts.map tieD) ≤ 1
  | [] => Nat.zero_le _
  | t :: r => by
    show max 1 (PyData.depthAll (r.map tieD)) ≤ 1
    have := depth_ties r
    omega
theorem shaped_ties (ts : List Tie) : SeqAt.shaped (tiesD ts) = true := by
  show (PyData.canLayAll0 (ts.map tieD) && decide (PyData.depthAll (ts.map tieD) + 1 ≤ 64)) = true
  have := depth_ties ts
  rw [lay_ties, decide_eq_true (by omega)]; rfl
theorem eqv_ints : ∀ a b : List Int, PyData.eqv (intD a) (intD b) = decide (a = b) := by
  have key : ∀ a b : List Int, PyData.eqvAll (a.map PyData.int) (b.map PyData.int) = decide (a = b) := by
    intro a
    induction a with
    | nil => intro b; cases b <;> simp [PyData.eqvAll]
    | cons x r ih =>
      intro b
      cases b with
      | nil => simp [PyData.eqvAll]
      | cons y s =>
        show (PyData.eqv (.int x) (.int y) && PyData.eqvAll (r.map PyData.int) (s.map PyData.int)) = _
        rw [ih]
        show ((x == y) && decide (r = s)) = _
        rw [show (x == y) = decide (x = y) from rfl]
        by_cases h1 : x = y <;> by_cases h2 : r = s <;> simp [h1, h2]
  intro a b
  exact key a b
theorem eqv_self (d : PyData) (h : SeqAt.shaped d = true) : PyData.eqv d d = true := SeqAt.eqv_refl d (SeqAt.canLay_of_shaped h)

def t_is_whole (K : PySem.W.Frag) (A : Ads) : TS :=
  (tRet (tAndV (tCB (rIsi K) (tCons (tVar 0) (tCons (tC (.ty "int")) tNil))) (tNotV (tCB (rIsi K) (tCons (tVar 0) (tCons (tC (.ty "bool")) tNil))))))

def t_has (K : PySem.W.Frag) (A : Ads) : TS :=
  (tRet (tAndV (tCall (sp_is_whole K A) [] E0 (tCons (tVar 1) tNil)) (tChain rLe rLt (tC (.int 0)) (tVar 1) (tFld K (tVar 0) "many"))))

def t_need (K : PySem.W.Frag) (A : Ads) (E : XK) : TS :=
  (tIfS (tNot (tB (tMeth A.C "has" (sp_has K A) [] E0 (tVar 0) (tCons (tVar 1) tNil)))) (tRaiseE E A.eNoPlace) tNext)

def t_need_two (K : PySem.W.Frag) (A : Ads) (E : XK) : TS :=
  (tSeq (tDrop (tMeth A.C "need" (sp_need K A) [] E (tVar 0) (tCons (tVar 1) tNil)))
    (tSeq (tDrop (tMeth A.C "need" (sp_need K A) [] E (tVar 0) (tCons (tVar 2) tNil)))
    (tIfS (tTest (tOp rEq (tVar 1) (tVar 2))) (tRaiseE E A.eNoPlace) tNext)))

def t_cost (K : PySem.W.Frag) (A : Ads) : TS :=
  (tRet (tDGet2 (tFld K (tVar 0) "summed") (tTup (tCons (tCB rMin2 (tCons (tVar 1) (tCons (tVar 2) tNil))) (tCons (tCB rMax2 (tCons (tVar 1) (tCons (tVar 2) tNil))) tNil))) (tC (.int 0))))

def t_ties (K : PySem.W.Frag) (A : Ads) : TS :=
  (tRet (tCB (rListS K) (tCons (tFld K (tVar 0) "kept") tNil)))

def t_between (K : PySem.W.Frag) (A : Ads) (E : XK) : TS :=
  (tSeq (tDrop (tMeth A.C "need_two" (sp_need_two K A) [] E (tVar 0) (tCons (tVar 1) (tCons (tVar 2) tNil))))
    (tRet (tMeth A.C "cost" (sp_cost K A) [] E0 (tVar 0) (tCons (tVar 1) (tCons (tVar 2) tNil)))))

def t_beside (K : PySem.W.Frag) (A : Ads) (E : XK) : TS :=
  (tSeq (tDrop (tMeth A.C "need" (sp_need K A) [] E (tVar 0) (tCons (tVar 1) tNil)))
    (tRet (tCB (rSortedI K) (tCons (tOp (rIxL K) (tFld K (tVar 0) "near") (tVar 1)) tNil))))

def t_price (K : PySem.W.Frag) (A : Ads) (E : XK) : TS :=
  (tSeq (tIfS (tNot (tB (tCB (rIsi K) (tCons (tVar 1) (tCons (tC (.ty "list")) tNil))))) (tRaiseE E A.eNoSide) tNext)
    (tSeq (tFor (iRng1 (tCons (tCB (rLenS K) (tCons (tVar 1) tNil)) tNil)) (gName 2) (tIfS (tOr (tNot (tB (tMeth A.C "has" (sp_has K A) [] E0 (tVar 0) (tCons (tOp (rIxL K) (tVar 1) (tVar 2)) tNil)))) (tTest (tOp (rIn K false) (tOp (rIxL K) (tVar 1) (tVar 2)) (tSl (rSlL K) (tVar 1) tNoPart (tPart (tVar 2)))))) (tRaiseE E A.eNoSide) tNext))
    (tRet (tCB (rSum K) (tCons (tLc (iList K (tFld K (tVar 0) "kept")) (gName 3) (tTest (tOp rNe (tOp (rIn K false) (tOp (rIxT K) (tVar 3) (tC (.int 0))) (tVar 1)) (tOp (rIn K false) (tOp (rIxT K) (tVar 3) (tC (.int 1))) (tVar 1)))) (tOp (rIxT K) (tVar 3) (tC (.int 2))) [3]) tNil)))))

def t_init (K : PySem.W.Frag) (A : Ads) (E : XK) : TS :=
  (tSeq (tIfS (tOr (tNot (tB (tCall (sp_is_whole K A) [] E0 (tCons (tVar 1) tNil)))) (tNot (tTest (tChain rLe rLe (tC (.int 1)) (tVar 1) (tC (.int 24)))))) (tRaiseE E A.eNoNet) tNext)
    (tSeq (tIfS (tOr (tNot (tB (tCB (rIsi K) (tCons (tVar 2) (tCons (tC (.ty "list")) tNil))))) (tTest (tOp rGt1 (tCB (rLenS K) (tCons (tVar 2) tNil)) (tC (.int 300))))) (tRaiseE E A.eNoNet) tNext)
    (tSeq (sFld K (tVar 0) (tVar 1) "many")
    (tSeq (sFld K (tVar 0) (tLst tNil) "kept")
    (tSeq (sFld K (tVar 0) tDNewT "summed")
    (tSeq (sFld K (tVar 0) (tLc (iRng1 (tCons (tVar 1) tNil)) (gName 5) tYes (tLst tNil) [5]) "near")
    (tFor (iList K (tVar 2)) (gName 3) (tSeq (tIfS (tOr (tNot (tB (tCB (rIsi K) (tCons (tVar 3) (tCons (tC (.ty "tuple")) tNil))))) (tOr (tTest (tOp rNe (tCB (rLenS K) (tCons (tVar 3) tNil)) (tC (.int 3)))) (tOr (tNot (tB (tMeth A.C "has" (sp_has K A) [] E0 (tVar 0) (tCons (tOp (rIxT K) (tVar 3) (tC (.int 0))) tNil)))) (tNot (tB (tMeth A.C "has" (sp_has K A) [] E0 (tVar 0) (tCons (tOp (rIxT K) (tVar 3) (tC (.int 1))) tNil))))))) (tRaiseE E A.eNoNet) tNext)
    (tSeq (tIfS (tOr (tTest (tOp rEq (tOp (rIxT K) (tVar 3) (tC (.int 0))) (tOp (rIxT K) (tVar 3) (tC (.int 1))))) (tOr (tNot (tB (tCall (sp_is_whole K A) [] E0 (tCons (tOp (rIxT K) (tVar 3) (tC (.int 2))) tNil)))) (tNot (tTest (tChain rLe rLe (tC (.int 1)) (tOp (rIxT K) (tVar 3) (tC (.int 2))) (tC (.int 1000000000))))))) (tRaiseE E A.eNoNet) tNext)
    (tSeq (tAsg (tTup (tCons (tCB rMin2 (tCons (tOp (rIxT K) (tVar 3) (tC (.int 0))) (tCons (tOp (rIxT K) (tVar 3) (tC (.int 1))) tNil))) (tCons (tCB rMax2 (tCons (tOp (rIxT K) (tVar 3) (tC (.int 0))) (tCons (tOp (rIxT K) (tVar 3) (tC (.int 1))) tNil))) tNil))) (gName 4))
    (tSeq (tDrop (tBM K "list" rAppend (tFld K (tVar 0) "kept") (tCons (tVar 3) tNil)))
    (tSeq (tIfS (tB (tDNotIn (tVar 4) (tFld K (tVar 0) "summed"))) (tSeq (tDrop (tBM K "list" rAppend (tOp (rIxL K) (tFld K (tVar 0) "near") (tOp (rIxT K) (tVar 4) (tC (.int 0)))) (tCons (tOp (rIxT K) (tVar 4) (tC (.int 1))) tNil)))
    (tDrop (tBM K "list" rAppend (tOp (rIxL K) (tFld K (tVar 0) "near") (tOp (rIxT K) (tVar 4) (tC (.int 1)))) (tCons (tOp (rIxT K) (tVar 4) (tC (.int 0))) tNil)))) tNext)
    (sDPut (tFld K (tVar 0) "summed") (tVar 4) (tOp rPlus (tMeth A.C "cost" (sp_cost K A) [] E0 (tVar 0) (tCons (tOp (rIxT K) (tVar 4) (tC (.int 0))) (tCons (tOp (rIxT K) (tVar 4) (tC (.int 1))) tNil))) (tOp (rIxT K) (tVar 3) (tC (.int 2)))))))))))))))))

/-! our tactics, under the words of the library's own syntax -/
local macro_rules | `(tactic| walk_at "ar") => `(tactic| first | assumption | omega | decide | (refine ⟨?_, ?_⟩ <;> omega) | exact .inl ⟨by omega, by omega⟩ | exact .inr ⟨by omega, by omega⟩)
local macro_rules | `(tactic| walk_at "hp") => `(tactic| first | assumption | exact upd_same | ((with_reducible apply Eq.trans (upd_ne (by first | assumption | exact Ne.symm (by assumption)))); walk_at "hp") | ((with_reducible apply Ex.get (by assumption)); walk_at "hp"))
local macro_rules | `(tactic| walk_at "lk") => `(tactic| first | with_reducible exact lk_many | with_reducible exact lk_kept | with_reducible exact lk_summed | with_reducible exact lk_near | ((with_reducible apply lk_no); decide +kernel) | assumption)
local macro_rules | `(tactic| walk_at "na") => `(tactic| first | with_reducible exact NetC.nM (by assumption) | with_reducible exact NetC.nK (by assumption) | with_reducible exact NetC.nS (by assumption) | with_reducible exact NetC.nN (by assumption))
local macro_rules | `(tactic| walk_at "sq") => `(tactic| first | assumption | with_reducible exact sq_of (by assumption) | with_reducible exact st_of (by assumption) | ((with_reducible apply sq_of); walk_at "hp") | ((with_reducible apply st_of); walk_at "hp"))
local macro_rules | `(tactic| walk_at "at") => `(tactic| first | rfl | assumption)
local macro_rules | `(tactic| walk_at "vt") => `(tactic| first | assumption | with_reducible exact vt_int | with_reducible exact vt_bl | with_reducible exact vt_str | with_reducible exact vt_non | with_reducible exact vt_lst (by walk_at "hp") | with_reducible exact vt_tup (by walk_at "hp"))
local macro_rules | `(tactic| walk_at "rv") => `(tactic| first
  | with_reducible exact rv_plus | with_reducible exact rv_minus | with_reducible exact rv_lt | with_reducible exact rv_le | with_reducible exact rv_gt | with_reducible exact rv_ge
  | with_reducible exact rv_eqI | with_reducible exact rv_neI | with_reducible exact rv_eqB | with_reducible exact rv_neB | with_reducible exact rv_eqS | with_reducible exact rv_neS
  | ((with_reducible apply rv_times); walk_at "ar") | ((with_reducible apply rv_fdiv); walk_at "ar") | ((with_reducible apply rv_mod); walk_at "ar")
  | ((with_reducible apply rv_ixT); walk_at "sq"; walk_at "at") | ((with_reducible apply rv_ixL); walk_at "sq"; walk_at "at"))
local macro_rules | `(tactic| walk_at "rc") => `(tactic| first
  | with_reducible exact rc_min2 | with_reducible exact rc_max2
  | ((with_reducible apply rc_isi); walk_at "vt"; first | assumption | with_reducible exact kitB_self _ | decide +kernel)
  | ((with_reducible apply rc_lenL); walk_at "sq") | ((with_reducible apply rc_lenT); walk_at "sq") | ((with_reducible apply rc_sum); walk_at "sq"))
local macro_rules | `(tactic| walk_at "rcl") => `(tactic| first
  | ((with_reducible apply rcl_sorted); walk_at "sq") | ((with_reducible apply rcl_list); first | exact .inl (by walk_at "sq") | exact .inr (by walk_at "sq")))
local macro_rules | `(tactic| walk_at "sp") => `(tactic| assumption)
local macro_rules | `(tactic| walk_at "ev") => `(tactic| first
  | ((with_reducible apply ev_var); rfl)
  | with_reducible exact ev_c
  | ((with_reducible apply ev_fld); walk_at "ev"; walk_at "hp"; exact NetC.cl (by assumption); walk_at "na"; walk_at "lk")
  | ((with_reducible apply ev_op); walk_at "ev"; walk_at "ev"; walk_at "rv")
  | ((with_reducible apply ev_chain); walk_at "ev"; walk_at "ev"; walk_at "rv"; (intro; walk_at "ev"); (intro; walk_at "rv"))
  | ((with_reducible apply ev_andV); walk_at "ev"; (intro; walk_at "ev"))
  | ((with_reducible apply ev_orV); walk_at "ev"; (intro; walk_at "ev"))
  | ((with_reducible apply ev_notV); walk_at "ev")
  | ((with_reducible apply ev_un); walk_at "ev"; with_reducible exact ru_neg)
  | ((with_reducible apply ev_call); walk_at "ev"; walk_at "sp")
  | ((with_reducible apply ev_meth); walk_at "ev"; walk_at "hp"; walk_at "lk"; walk_at "ev"; walk_at "sp")
  | ((with_reducible apply ev_get2); walk_at "ev"; walk_at "hp"; walk_at "ev"; walk_at "ev")
  | ((with_reducible apply ev_cb); walk_at "ev"; walk_at "rc")
  | with_reducible exact ea_nil
  | ((with_reducible apply ea_cons); walk_at "ev"; walk_at "ev")
  | ((with_reducible apply et_test); walk_at "ev")
  | ((with_reducible apply et_B); walk_at "ev")
  | ((with_reducible apply et_and); walk_at "ev"; (intro; walk_at "ev"))
  | ((with_reducible apply et_or); walk_at "ev"; (intro; walk_at "ev"))
  | ((with_reducible apply et_not); walk_at "ev")
  | ((with_reducible apply eu_tup); walk_at "ev"; (simp only [List.length]; decide))
  | ((with_reducible apply el_lst); walk_at "ev"; (simp only [List.length]; decide))
  | ((with_reducible apply el_cb); walk_at "ev"; walk_at "rcl")
  | ((with_reducible apply el_meth); walk_at "ev"; walk_at "hp"; walk_at "lk"; walk_at "ev"; walk_at "sp")
  | ((with_reducible apply el_call); walk_at "ev"; walk_at "sp")
  | with_reducible exact eo_none
  | ((with_reducible apply eo_some); walk_at "ev")
  | ((with_reducible apply el_sl); walk_at "ev"; walk_at "ev"; walk_at "ev"; walk_at "sq"))

section
variable {K : PySem.W.Frag} {A : Ads}
abbrev toEnds (Q : VK) : Ends := { nx := fun _ H' => Q .non H', rt := Q }
theorem pure_is_whole (nc : NetC K A) (vs : List V) (H : Hp) (Q : VK) (E : XK) (h : sp_is_whole K A vs H Q E) : t_is_whole K A { nx := fun _ H' => Q .non H', rt := Q } (start ["thing"] vs) H := by
  obtain ⟨v, rfl, ⟨ty, b1, b2, hv, h1, h2, h3⟩, k⟩ := h
  unfold t_is_whole
  refine s_ret (v := .bl (b1 && !b2)) (by walk_at "ev") fun H1 e1 => ?_
  rw [h3]
  exact k H1 e1
theorem pure_has (nc : NetC K A) (vs : List V) (H : Hp) (Q : VK) (E : XK) (h : sp_has K A vs H Q E) : t_has K A { nx := fun _ H' => Q .non H', rt := Q } (start ["self", "place"] vs) H := by
  obtain ⟨p, m, kl, sd, nl, v, rfl, ⟨dx, ho⟩, hv, k⟩ := h
  unfold t_has
  have h1 : SpV (sp_is_whole K A) [v] H (.bl (isI v)) := spv_is_whole hv
  cases v with
  | int i =>
    refine s_ret (by walk_at "ev") fun H1 e1 => ?_
    exact k H1 e1
  | _ =>
    refine s_ret (v := .bl (false && false)) (ev_andV (by walk_at "ev") (fun q => nomatch q)) fun H1 e1 => ?_
    exact k H1 e1
end

section
variable {K : PySem.W.Frag} {A : Ads}
theorem pure_need (nc : NetC K A) (vs : List V) (H : Hp) (Q : VK) (E : XK) (h : sp_need K A vs H Q E) : t_need K A E { nx := fun _ H' => Q .non H', rt := Q } (start ["self", "place"] vs) H := by
  obtain ⟨p, m, kl, sd, nl, v, rfl, ho, hv, k1, k2⟩ := h
  have h1 := spv_has (K := K) ho hv
  obtain ⟨dx, ho⟩ := ho
  unfold t_need
  refine s_if (b := !isPl m v) (by walk_at "ev") (fun hb H1 e1 => ?_) (fun hb H1 e1 => ?_)
  · exact k2 (by simpa using hb) H1 e1
  · exact k1 (by simpa using hb) H1 e1
theorem pure_cost (nc : NetC K A) (vs : List V) (H : Hp) (Q : VK) (E : XK) (h : sp_cost K A vs H Q E) : t_cost K A { nx := fun _ H' => Q .non H', rt := Q } (start ["self", "one", "other"] vs) H := by
  obtain ⟨p, m, kl, sd, nl, kvs, i, j, rfl, ⟨dx, ho⟩, hd, k⟩ := h
  unfold t_cost
  refine s_ret (v := (valV kvs (keyT i j)).getD (.int 0)) ?_ k
  refine ev_get2 (by walk_at "ev") hd ?_ ev_c
  show EvU _ _ _ [V.int (min i j), V.int (max i j)]
  walk_at "ev"
theorem isPl_int {m : Int} {v : V} (h : isPl m v = true) : ∃ i : Int, v = .int i ∧ 0 ≤ i ∧ i < m := by
  cases v <;> simp [isPl] at h ⊢
  exact h
theorem isPl_nat {m : Nat} {v : V} (h : isPl (m : Int) v = true) : ∃ i : Nat, v = vi i ∧ i < m := by
  obtain ⟨i, rfl, h0, h1⟩ := isPl_int h
  exact ⟨i.toNat, by unfold vi; congr 1; omega, by omega⟩
theorem isPl_vi {m i : Nat} (h : i < m) : isPl (m : Int) (vi i) = true := by
  simp [isPl, vi, h]
theorem pure_need_two (nc : NetC K A) (vs : List V) (H : Hp) (Q : VK) (E : XK) (h : sp_need_two K A vs H Q E) : t_need_two K A E { nx := fun _ H' => Q .non H', rt := Q } (start ["self", "one", "other"] vs) H := by
  obtain ⟨p, m, kl, sd, nl, v, u, rfl, ho, hv, hu, k1, k2⟩ := h
  obtain ⟨dx, ho⟩ := id ho
  have ho1 : ObjAt A H p m kl sd nl := ⟨dx, ho⟩
  unfold t_need_two
  refine q_drop0 (c_meth (by walk_at "ev") ho (by walk_at "lk") (by walk_at "ev") fun H1 e1 => ⟨p, m, kl, sd, nl, v, rfl, ho1.mono e1, hv.mono e1, fun b1 H2 e2 => ?_, fun b1 H2 e2 => ?_⟩)
  · have ho2 := ho1.mono (e1.trans e2)
    have hu2 := hu.mono (e1.trans e2)
    have ho' := (e1.trans e2) _ _ ho
    refine q_drop0 (c_meth (by walk_at "ev") ho' (by walk_at "lk") (by walk_at "ev") fun H3 e3 => ⟨p, m, kl, sd, nl, u, rfl, ho2.mono e3, hu2.mono e3, fun b2 H4 e4 => ?_, fun b2 H4 e4 => ?_⟩)
    · obtain ⟨i, rfl, _⟩ := isPl_int b1
      obtain ⟨j, rfl, _⟩ := isPl_int b2
      refine s_if (by walk_at "ev") (fun hb H5 e5 => ?_) (fun hb H5 e5 => ?_)
      · refine k2 ?_ _ ((((e1.trans e2).trans e3).trans e4).trans e5)
        have hb : i = j := of_decide_eq_true hb
        subst hb
        simp [isTwo]
      · refine k1 ?_ _ ((((e1.trans e2).trans e3).trans e4).trans e5)
        have hb : ¬ i = j := of_decide_eq_false hb
        unfold isTwo
        rw [b1, b2, deq_int, decide_eq_false hb]
        rfl
    · exact k2 (by simp [isTwo, b2]) _ (((e1.trans e2).trans e3).trans e4)
  · exact k2 (by simp [isTwo, b1]) _ (e1.trans e2)
theorem joins_comm (i j : Nat) : joins i j = joins j i := by
  funext t
  unfold joins
  rw [Bool.or_comm]
theorem costOf_comm (ts : List Tie) (i j : Nat) : costOf ts i j = costOf ts j i := by
  unfold costOf
  rw [joins_comm]
/-- what the dict tells of two places -/
theorem SumOk.get {kvs : List (List Key × V)} {ts : List Tie} (h : SumOk kvs ts) {i j : Nat} (hij : i ≠ j) : (valV kvs (keyT (i : Int) (j : Int))).getD (.int 0) = .int (costOf ts i j) := by
  have key : ∀ i j : Nat, i < j → (valV kvs (keyN i j)).getD (.int 0) = .int (costOf ts i j) := fun i j hij => by
    rw [h.val i j hij]
    by_cases ha : ts.any (joins i j) = true
    · rw [if_pos ha]; rfl
    · rw [if_neg ha]
      have : ts.filter (joins i j) = [] := by
        rw [List.filter_eq_nil_iff]
        intro t ht hj
        exact ha (List.any_eq_true.mpr ⟨t, ht, hj⟩)
      unfold costOf
      rw [this]; rfl
  by_cases hlt : i < j
  · have e : keyT (i : Int) (j : Int) = keyN i j := by
      unfold keyT keyN
      rw [Int.min_eq_left (by omega), Int.max_eq_right (by omega)]
    rw [e]; exact key i j hlt
  · have e : keyT (i : Int) (j : Int) = keyN j i := by
      unfold keyT keyN
      rw [Int.min_eq_right (by omega), Int.max_eq_left (by omega)]
    rw [e, costOf_comm]; exact key j i (by omega)
theorem pure_ties (nc : NetC K A) (vs : List V) (H : Hp) (Q : VK) (E : XK) (h : sp_ties K A vs H Q E) : t_ties K A { nx := fun _ H' => Q .non H', rt := Q } (start ["self"] vs) H := by
  obtain ⟨p, n, s, rfl, N, k⟩ := h
  have ho := N.ob
  have hk := N.hk
  unfold t_ties
  exact s_retL (by walk_at "ev") k
theorem pure_between (nc : NetC K A) (vs : List V) (H : Hp) (Q : VK) (E : XK) (h : sp_between K A vs H Q E) : t_between K A E { nx := fun _ H' => Q .non H', rt := Q } (start ["self", "one", "other"] vs) H := by
  obtain ⟨p, n, s, v, u, rfl, N, hv, hu, k1, k2⟩ := h
  have ho := N.ob
  unfold t_between
  refine q_drop0 (c_meth (by walk_at "ev") ho (by walk_at "lk") (by walk_at "ev") fun H1 e1 => ⟨p, _, _, _, _, v, u, rfl, N.obj.mono e1, hv.mono e1, hu.mono e1, fun b H2 e2 => ?_, fun b H2 e2 => k2 b _ (e1.trans e2)⟩)
  have N2 := N.mono (e1.trans e2)
  unfold isTwo at b
  simp only [Bool.and_eq_true, Bool.not_eq_true', decide_eq_false_iff_not] at b
  obtain ⟨⟨b1, b2⟩, b3⟩ := b
  obtain ⟨i, rfl, hi⟩ := isPl_nat b1
  obtain ⟨j, rfl, hj⟩ := isPl_nat b2
  have hij : i ≠ j := fun q => b3 (by rw [q])
  have hc := spv_cost (K := K) (i := (i : Int)) (j := (j : Int)) N2.obj N2.hs
  rw [N2.so.get hij] at hc
  have ho2 := N2.ob
  refine s_ret (v := .int (costOf n.ties i j)) ?_ fun H3 e3 => k1 i j rfl rfl hi hj hij _ ((e1.trans e2).trans e3)
  exact ev_meth (by walk_at "ev") ho2 (by walk_at "lk") (vs := [.int (i : Int), .int (j : Int)]) (by walk_at "ev") hc
theorem pure_beside (nc : NetC K A) (vs : List V) (H : Hp) (Q : VK) (E : XK) (h : sp_beside K A vs H Q E) : t_beside K A E { nx := fun _ H' => Q .non H', rt := Q } (start ["self", "place"] vs) H := by
  obtain ⟨p, n, s, v, rfl, N, hv, k1, k2⟩ := h
  have ho := N.ob
  unfold t_beside
  refine q_drop0 (c_meth (by walk_at "ev") ho (by walk_at "lk") (by walk_at "ev") fun H1 e1 => ⟨p, _, _, _, _, v, rfl, N.obj.mono e1, hv.mono e1, fun b H2 e2 => ?_, fun b H2 e2 => k2 b _ (e1.trans e2)⟩)
  have N2 := N.mono (e1.trans e2)
  obtain ⟨i, rfl, hi⟩ := isPl_nat b
  have ho2 := N2.ob
  have hn2 := N2.hn
  have hlen := N2.na.len
  obtain ⟨a, ha⟩ : ∃ a, s.ns[i]? = some a := ⟨s.ns[i]'(by omega), List.getElem?_eq_getElem _⟩
  have hl := N2.na.at_ i a ha
  have hat : atI (s.ns.map V.ref) (i : Int) = some (.ref a) := atI_nat (by rw [List.getElem?_map, ha]; rfl)
  have e0 : (nearOf n.ties i).map vi = (List.map (fun j : Nat => (j : Int)) (nearOf n.ties i)).map V.int := by
    rw [List.map_map]; rfl
  rw [e0] at hl
  refine s_retL ?_ fun q H3 hq e3 h3 => k1 i rfl hi q H3 (fresh_back (e1.trans e2) hq) ((e1.trans e2).trans e3) h3
  refine el_cb (vs := [.ref a]) ?_ (rcl_sorted (sq_of hl))
  refine ea_cons (ev_op (x := .ref s.nl) (y := .int (i : Int)) (by walk_at "ev") (by walk_at "ev") (rv_ixL (sq_of hn2) hat)) ea_nil
end

section
variable {K : PySem.W.Frag} {A : Ads}
theorem flat_vi (l : List Nat) : (l.map vi).all flatV = true := by
  rw [List.all_map]
  exact List.all_eq_true.mpr fun x _ => rfl
theorem eqV_vi (i j : Nat) : eqV (vi i) (vi j) = decide (i = j) := by
  show decide ((i : Int) = (j : Int)) = decide (i = j)
  by_cases h : i = j
  · subst h; simp
  · rw [decide_eq_false h, decide_eq_false (by omega)]
theorem inV_vi (i : Nat) (l : List Nat) : inV (vi i) (l.map vi) = decide (i ∈ l) := by
  unfold inV
  rw [List.any_map]
  by_cases h : i ∈ l
  · rw [decide_eq_true h]
    exact List.any_eq_true.mpr ⟨i, h, by show eqV (vi i) (vi i) = true; rw [eqV_vi]; simp⟩
  · rw [decide_eq_false h]
    rw [Bool.eq_false_iff]
    intro q
    obtain ⟨x, hx, e⟩ := List.any_eq_true.mp q
    have e : eqV (vi x) (vi i) = true := e
    rw [eqV_vi] at e
    exact h (of_decide_eq_true e ▸ hx)
theorem cutV_take (xs : List V) (i : Nat) : cutV xs none (some (i : Int)) = xs.take i := by
  unfold cutV
  rw [HT.sIx_none, HT.sIx_nat]
  simp
theorem GoodSide.take {m : Nat} {xs : List V} (h : GoodSide m xs) (i : Nat) : GoodSide m (xs.take i) := by
  obtain ⟨side, rfl, nd, hl⟩ := h
  exact ⟨side.take i, by rw [List.map_take], nd.sublist (List.take_sublist i side), fun j hj => hl j (List.mem_of_mem_take hj)⟩
theorem take_succ_of {α : Type} {xs : List α} {i : Nat} {x : α} (h : xs[i]? = some x) : xs.take (i + 1) = xs.take i ++ [x] := by
  rw [List.take_add_one, h]; rfl
theorem GoodSide.more {m : Nat} {xs : List V} {i j : Nat} (h : GoodSide m (xs.take i)) (hx : xs[i]? = some (vi j)) (hj : j < m) (hn : inV (vi j) (xs.take i) = false) : GoodSide m (xs.take (i + 1)) := by
  obtain ⟨side, e, nd, hl⟩ := h
  rw [e, inV_vi] at hn
  have hn : j ∉ side := of_decide_eq_false hn
  refine ⟨side ++ [j], by rw [take_succ_of hx, e]; simp, ?_, fun k hk => ?_⟩
  · rw [List.nodup_append]
    exact ⟨nd, by simp, fun a ha b hb q => hn (by rw [List.mem_singleton] at hb; rw [← hb, ← q]; exact ha)⟩
  · rcases List.mem_append.mp hk with q | q
    · exact hl k q
    · rw [List.mem_singleton] at q
      rw [q]; exact hj
theorem GoodSide.no_place {m : Nat} {xs : List V} {i : Nat} {x : V} (hx : xs[i]? = some x) (h : isPl (m : Int) x = false) : ¬ GoodSide m xs := by
  rintro ⟨side, rfl, nd, hl⟩
  rw [List.getElem?_map] at hx
  cases e : side[i]? with
  | none => rw [e] at hx; cases hx
  | some k =>
    rw [e] at hx
    have e2 : vi k = x := Option.some.inj hx
    rw [← e2, isPl_vi (hl k (List.mem_of_getElem? e))] at h
    cases h
theorem GoodSide.no_twice {m : Nat} {xs : List V} {i j : Nat} (hx : xs[i]? = some (vi j)) (g : GoodSide m (xs.take i)) (h : inV (vi j) (xs.take i) = true) : ¬ GoodSide m xs := by
  rintro ⟨side, rfl, nd, hl⟩
  rw [← List.map_take, inV_vi] at h
  have h : j ∈ side.take i := of_decide_eq_true h
  rw [List.getElem?_map] at hx
  cases e : side[i]? with
  | none => rw [e] at hx; cases hx
  | some k =>
    rw [e] at hx
    have e2 : k = j := vi_inj (Option.some.inj hx)
    subst e2
    obtain ⟨q, hq⟩ := List.getElem?_of_mem h
    have hqi : q < i := by
      have := (List.getElem?_eq_some_iff.mp hq).1
      rw [List.length_take] at this
      omega
    rw [List.getElem?_take_of_lt hqi] at hq
    exact absurd (nd_ix nd hq e) (by omega)
end
section
variable {K : PySem.W.Frag} {A : Ads}
theorem GoodSide.nil {m : Nat} : GoodSide m [] := ⟨[], rfl, List.nodup_nil, fun _ h => nomatch h⟩
theorem pure_price (nc : NetC K A) (vs : List V) (H : Hp) (Q : VK) (E : XK) (h : sp_price K A vs H Q E) : t_price K A E { nx := fun _ H' => Q .non H', rt := Q } (start ["self", "side", "at", "tie"] vs) H := by
  obtain ⟨p, n, s, v, rfl, N, h⟩ := h
  unfold t_price
  rcases h with ⟨l, xs, rfl, hl, hz, hk, k1, k2⟩ | ⟨ty, hv, hb, k⟩
  · refine q_skip (et_not (a := true) (by walk_at "ev")) fun H1 e1 => ?_
    have hl1 := e1 _ _ hl
    refine q_forR1 (n := (xs.length : Int)) (by walk_at "ev") (by omega) (fun i σ H' => ∃ w, σ = [some (.ref p), some (.ref l), w, none] ∧ Ex H H' ∧ GoodSide n.many (xs.take i)) (fun H2 e2 => ⟨none, rfl, e1.trans e2, by rw [List.take_zero]; exact GoodSide.nil⟩) ?_ ?_
    · rintro i σ H' hi ⟨w, rfl, e, g⟩
      have hi : i < xs.length := by omega
      have hx : xs[i]? = some xs[i] := List.getElem?_eq_getElem hi
      generalize xs[i] = x at hx
      have hkx := (hk x (List.mem_of_getElem? hx)).mono e
      have N' := N.mono e
      have ho := N'.ob
      have hl' := e _ _ hl
      have hat : atI xs (i : Int) = some x := atI_nat hx
      have hh := spv_has (K := K) N'.obj hkx
      have et : EvT (tNot (tB (tMeth A.C "has" (sp_has K A) [] E0 (tVar 0) (tCons (tOp (rIxL K) (tVar 1) (tVar 2)) tNil)))) [some (.ref p), some (.ref l), some (.int (i : Int)), none] H' (!isPl (n.many : Int) x) := by
        walk_at "ev"
      show tIfS _ _ _ _ [some (.ref p), some (.ref l), some (.int (i : Int)), none] H'
      cases b : isPl (n.many : Int) x with
      | false =>
        rw [b] at et
        refine s_yes (et_or et (b := false) (fun q => nomatch q)) fun H2 e2 => ?_
        exact k2 (GoodSide.no_place hx b) _ (e.trans e2)
      | true =>
        obtain ⟨j, rfl, hj⟩ := isPl_nat b
        rw [b] at et
        obtain ⟨side, es, nd, hsl⟩ := id g
        have ein : EvT (tTest (tOp (rIn K false) (tOp (rIxL K) (tVar 1) (tVar 2)) (tSl (rSlL K) (tVar 1) tNoPart (tPart (tVar 2))))) [some (.ref p), some (.ref l), some (.int (i : Int)), none] H' (inV (vi j) (xs.take i)) := by
          refine et_test (ev_opL (x := vi j) (xs := xs.take i) (by walk_at "ev") ?_ fun q H3 h3 e3 => rv_isL (sq_of h3) rfl (by rw [es]; exact flat_vi _))
          rw [← cutV_take]
          walk_at "ev"
        refine s_if (et_or et fun _ => ein) (fun hb H2 e2 => ?_) (fun hb H2 e2 => ?_)
        · exact k2 (GoodSide.no_twice hx g (by simpa using hb)) _ (e.trans e2)
        · exact ⟨some (.int (i : Int)), rfl, e.trans e2, g.more hx hj (by simpa using hb)⟩
    · rintro σ H' ⟨w, rfl, e, g⟩
      rw [show (xs.length : Int).toNat = xs.length from by omega, List.take_length] at g
      obtain ⟨side, rfl, nd, hsl⟩ := g
      have N' := N.mono e
      have ho := N'.ob
      have hl' := e _ _ hl
      refine s_ret (v := .int (priceOf n.ties side)) ?_ fun H2 e2 => k1 side rfl nd hsl _ (e.trans e2)
      have hlen : (s.as.map V.ref).length = n.ties.length := by rw [List.length_map]; exact Paired.length N'.ta
      refine ev_cbL (xs := ((n.ties.filter fun t => decide (t.1 ∈ side) != decide (t.2.1 ∈ side)).map (·.2.2)).map V.int) ?_ fun q H2 h2 e2 => rc_sum (sq_of h2)
      rw [List.map_map]
      refine el_lcF (α := Tie) n.ties _ _ (a := s.kl) (by walk_at "ev") (sq_of N'.hk) (by rw [hlen]; have := n.ties; have := N'.ok.few; omega) hlen (fun _ => rfl) ?_ ?_
      · intro i x t H2 e2 hx ht
        rw [List.getElem?_map] at hx
        cases ea : s.as[i]? with
        | none => rw [ea] at hx; cases hx
        | some a =>
          rw [ea] at hx
          have ex : V.ref a = x := Option.some.inj hx
          subst ex
          have hta := (N'.ta.mono e2)
          have hta := paired_get hta ea ht
          have hl2 := e2 _ _ hl'
          show EvT _ [some (.ref p), some (.ref l), w, some (.ref a)] H2 _
          refine et_test (ev_is (v := .bl (!decide (decide (t.1 ∈ side) = decide (t.2.1 ∈ side)))) ?_ (by congr 1))
          refine ev_op (x := .bl (decide (t.1 ∈ side))) (y := .bl (decide (t.2.1 ∈ side))) ?_ ?_ rv_neB
          · rw [← inV_vi]
            exact ev_op (x := vi t.1) (y := .ref l) (ev_op (x := .ref a) (y := .int 0) (by walk_at "ev") ev_c (rv_ixT (st_of hta) rfl)) (by walk_at "ev") (rv_isL (sq_of hl2) rfl (flat_vi _))
          · rw [← inV_vi]
            exact ev_op (x := vi t.2.1) (y := .ref l) (ev_op (x := .ref a) (y := .int 1) (by walk_at "ev") ev_c (rv_ixT (st_of hta) rfl)) (by walk_at "ev") (rv_isL (sq_of hl2) rfl (flat_vi _))
      · intro i x t H2 e2 hx ht _
        rw [List.getElem?_map] at hx
        cases ea : s.as[i]? with
        | none => rw [ea] at hx; cases hx
        | some a =>
          rw [ea] at hx
          have ex : V.ref a = x := Option.some.inj hx
          subst ex
          have hta := (N'.ta.mono e2)
          have hta := paired_get hta ea ht
          exact ev_op (x := .ref a) (y := .int 2) (ev_var rfl) ev_c (rv_ixT (st_of hta) rfl)
  · refine q_yes (et_not (a := false) (by walk_at "ev")) fun H1 e1 => k H1 e1
end

section
variable {K : PySem.W.Frag} {A : Ads}
theorem ty_go {σ : L2.St} {H : Hp} {Q : Bool → Hp → Prop} (h : Q true H) : tYes σ H Q := h
theorem c_news {σ : L2.St} {H : Hp} {Q : VK} {j m : Nat} {ta : TA} (hm : EvA ta σ H [.int (m : Int)]) (hz : m ≤ 1000) (hw : ∀ x, wipe ((wipe σ [j]).set j (some x)) [j] = wipe σ [j])
    (k : ∀ (D : Addr) (ns : List Addr) (H' : Hp), H D = none → Ex H H' → H' D = some (.lst (ns.map V.ref)) → ns.length = m → ns.Nodup → D ∉ ns → (∀ a ∈ ns, H a = none ∧ H' a = some (.lst [])) → Q (.ref D) H') : tLc (iRng1 ta) (gName j) tYes (tLst tNil) [j] σ H Q := by
  refine hm H (Ex.refl H) _ fun H1 e1 => ⟨(m : Int), rfl, by omega, by omega, fun D hD => ?_⟩
  refine lc_range (lo := 0) (n := (m : Int).toNat) (fun i H' => ∃ ns : List Addr, Ex H1 H' ∧ H' D = some (.lst (ns.map V.ref)) ∧ ns.length = i ∧ ns.Nodup ∧ D ∉ ns ∧ ∀ a ∈ ns, H1 a = none ∧ H' a = some (.lst [])) ⟨[], Ex.new hD, upd_same, rfl, List.nodup_nil, by simp, fun a h => nomatch h⟩ ?_ ?_
  · rintro i H' hi ⟨ns, e, hd, hl, nd, hn, ha⟩
    refine ⟨hw _, ?_⟩
    refine ty_go ?_
    rw [if_pos rfl]
    refine ⟨Nat.zero_le _, fun a fa => ?_⟩
    have hDa : D ≠ a := ne_of_none hd fa
    have han : a ∉ ns := fun q => by
      have := (ha a q).2
      rw [fa] at this; cases this
    refine ⟨ns.map V.ref, by rw [upd_ne hDa]; exact hd, ?_, ns ++ [a], ?_, ?_, ?_, ?_, ?_, ?_⟩
    · rw [List.length_map]; exact sz_lt (by omega)
    · exact Ex.mut (Ex.trans e (Ex.new fa)) hD
    · rw [upd_same]; simp
    · simp [hl]
    · rw [List.nodup_append]
      exact ⟨nd, by simp, fun x hx y hy q => han (by rw [List.mem_singleton] at hy; rw [← hy, ← q]; exact hx)⟩
    · rw [List.mem_append, not_or]
      exact ⟨hn, by simp [hDa]⟩
    · intro b hb
      rcases List.mem_append.mp hb with q | q
      · have hbD : b ≠ D := fun z => hn (by rw [← z]; exact q)
        have hba : b ≠ a := fun z => han (by rw [← z]; exact q)
        rw [upd_ne hbD, upd_ne hba]
        exact ha b q
      · rw [List.mem_singleton] at q
        subst q
        rw [upd_ne hDa.symm, upd_same]
        exact ⟨fresh_back e fa, rfl⟩
  · rintro H' ⟨ns, e, hd, hl, nd, hn, ha⟩
    exact k D ns H' (fresh_back e1 hD) (e1.trans e) hd (by omega) nd hn fun a q => ⟨fresh_back e1 (ha a q).1, (ha a q).2⟩
end

section
variable {K : PySem.W.Frag} {A : Ads}
theorem GoodTies.at_ {H : Hp} {m : Nat} {xs : List V} {i : Nat} {x : V} (g : GoodTies H m xs) (hx : xs[i]? = some x) : ∃ a t, x = .ref a ∧ H a = some (.tup (tieV t)) ∧ okTie m t := by
  obtain ⟨as, ts, rfl, ta, _, ok⟩ := g
  rw [List.getElem?_map] at hx
  cases ea : as[i]? with
  | none => rw [ea] at hx; cases hx
  | some a =>
    rw [ea] at hx
    have hl : as.length = ts.length := Paired.length ta
    have hi := (List.getElem?_eq_some_iff.mp ea).1
    have et : ts[i]? = some (ts[i]'(by omega)) := List.getElem?_eq_getElem _
    exact ⟨a, _, (Option.some.inj hx).symm, paired_get (R := fun a t => H a = some (.tup (tieV t))) ta ea et, ok _ (List.mem_of_getElem? et)⟩
theorem put_past {f g : Str} {v x : V} {r : List (Str × V)} (h : ¬ g = f) : putF f v ((g, x) :: r) = (g, x) :: putF f v r := if_neg h
theorem paired_snoc {α β : Type} {R : α → β → Prop} : ∀ {as : List α} {bs : List β} {a : α} {b : β}, Paired R as bs → R a b → Paired R (as ++ [a]) (bs ++ [b])
  | _, _, _, _, .nil, h => .cons h .nil
  | _, _, _, _, .cons r t, h => .cons r (paired_snoc t h)
theorem SumOk.nil : SumOk [] [] := ⟨fun i j _ => rfl, Nat.le_refl _⟩
theorem putK_len_le {κ : Type} [DecidableEq κ] (kvs : List (κ × V)) (k : κ) (v : V) : (putK kvs k v).length ≤ kvs.length + 1 := by
  unfold putK
  split
  · rw [List.length_map]; omega
  · simp
theorem any_append (ts : List Tie) (t : Tie) (i j : Nat) : (ts ++ [t]).any (joins i j) = (ts.any (joins i j) || joins i j t) := by
  rw [List.any_append]; simp
theorem joins_self {i j : Nat} {t : Tie} (h1 : t.1 = i) (h2 : t.2.1 = j) : joins i j t = true := by simp [joins, h1, h2]
/-- one tie more -/
theorem SumOk.more {kvs : List (List Key × V)} {ts : List Tie} {t : Tie} (h : SumOk kvs ts) (ht : t.1 ≠ t.2.1) : SumOk (putK kvs (keyN (min t.1 t.2.1) (max t.1 t.2.1)) (.int (costOf ts (min t.1 t.2.1) (max t.1 t.2.1) + t.2.2))) (ts ++ [t]) := by
  refine ⟨fun i j hij => ?_, ?_⟩
  · rw [valV_put, costOf_append, any_append]
    by_cases e : i = min t.1 t.2.1 ∧ j = max t.1 t.2.1
    · obtain ⟨rfl, rfl⟩ := e
      have hj : joins (min t.1 t.2.1) (max t.1 t.2.1) t = true := by
        by_cases q : t.1 < t.2.1
        · exact joins_self (by omega) (by omega)
        · rw [joins_comm]; exact joins_self (by omega) (by omega)
      rw [if_pos rfl, hj, Bool.or_true, if_pos rfl, if_pos rfl]
    · have ne : ¬ keyN (min t.1 t.2.1) (max t.1 t.2.1) = keyN i j := by
        intro q
        unfold keyN at q
        simp only [List.cons.injEq, Sum.inl.injEq, and_true] at q
        exact e ⟨by omega, by omega⟩
      have ne' : ¬ keyN i j = keyN (min t.1 t.2.1) (max t.1 t.2.1) := fun q => ne q.symm
      have hj : joins i j t = false := by
        rw [Bool.eq_false_iff]
        intro q
        simp only [joins, Bool.or_eq_true, Bool.and_eq_true, decide_eq_true_eq] at q
        exact e (by omega)
      rw [hj, Bool.or_false, h.val i j hij]
      first | rw [if_neg ne] | rw [if_neg ne']
      simp
  · have := putK_len_le kvs (keyN (min t.1 t.2.1) (max t.1 t.2.1)) (.int (costOf ts (min t.1 t.2.1) (max t.1 t.2.1) + t.2.2))
    have := h.len
    rw [List.length_append, List.length_singleton]
    omega
end

section
theorem near_len (ts : List Tie) (i : Nat) : (nearOf ts i).length ≤ ts.length := by
  have key : ∀ (ts : List Tie) (acc : List Nat), (ts.foldl (fun l t => addNew l (over i t)) acc).length ≤ acc.length + ts.length := by
    intro ts
    induction ts with
    | nil => intro acc; simp
    | cons t r ih =>
      intro acc
      rw [List.foldl_cons]
      have h1 := ih (addNew acc (over i t))
      have h2 : ∀ o : Option Nat, (addNew acc o).length ≤ acc.length + 1 := fun o => by
        cases o with
        | none => exact Nat.le_succ _
        | some k =>
          show (if k ∈ acc then acc else acc ++ [k]).length ≤ _
          by_cases hk : k ∈ acc
          · rw [if_pos hk]; exact Nat.le_succ _
          · rw [if_neg hk, List.length_append]; exact Nat.le_refl _
      have h2 := h2 (over i t)
      rw [List.length_cons]
      omega
  have := key ts []
  rw [List.length_nil, Nat.zero_add] at this
  exact this
/-- the places of a tie, the smaller one first -/
theorem sortTie (i j : Nat) (h : i ≠ j) : ∃ lo hi : Nat, min (i : Int) (j : Int) = (lo : Int) ∧ max (i : Int) (j : Int) = (hi : Int) ∧ lo < hi ∧ min i j = lo ∧ max i j = hi ∧ ((lo = i ∧ hi = j) ∨ (lo = j ∧ hi = i)) := by
  by_cases q : i < j
  · exact ⟨i, j, by omega, by omega, q, by omega, by omega, .inl ⟨rfl, rfl⟩⟩
  · exact ⟨j, i, by omega, by omega, by omega, by omega, by omega, .inr ⟨rfl, rfl⟩⟩
theorem near_more {ts : List Tie} {t : Tie} {lo hi : Nat} (hlt : lo < hi) (hc : (lo = t.1 ∧ hi = t.2.1) ∨ (lo = t.2.1 ∧ hi = t.1)) (hall : ∀ t ∈ ts, t.1 ≠ t.2.1) :
    (fun j => (nearOf (ts ++ [t]) j).map vi) = if ts.any (joins lo hi) then (fun j => (nearOf ts j).map vi) else fun i => if i = hi then (if hi = lo then (nearOf ts lo).map vi ++ [vi hi] else (nearOf ts hi).map vi) ++ [vi lo] else if i = lo then (nearOf ts lo).map vi ++ [vi hi] else (nearOf ts i).map vi := by
  have o1 : over lo t = some hi := by
    unfold over
    rcases hc with ⟨h1, h2⟩ | ⟨h1, h2⟩
    · rw [if_pos h1.symm, h2]
    · rw [if_neg (by omega), if_pos h1.symm, h2]
  have o2 : over hi t = some lo := by
    unfold over
    rcases hc with ⟨h1, h2⟩ | ⟨h1, h2⟩
    · rw [if_neg (by omega), if_pos h2.symm, h1]
    · rw [if_pos h2.symm, h1]
  have o3 : ∀ i, i ≠ lo → i ≠ hi → over i t = none := fun i h1 h2 => by
    unfold over
    rw [if_neg (by omega), if_neg (by omega)]
  have m1 : hi ∈ nearOf ts lo ↔ ts.any (joins lo hi) = true := by
    rw [mem_nearOf ts lo hi hall, List.any_eq_true]
    constructor
    · rintro ⟨u, hu, h⟩; exact ⟨u, hu, (over_joins (by omega) (hall u hu)).mp h⟩
    · rintro ⟨u, hu, h⟩; exact ⟨u, hu, (over_joins (by omega) (hall u hu)).mpr h⟩
  have m2 : lo ∈ nearOf ts hi ↔ ts.any (joins lo hi) = true := by
    rw [mem_nearOf ts hi lo hall, List.any_eq_true, joins_comm]
    constructor
    · rintro ⟨u, hu, h⟩; exact ⟨u, hu, (over_joins (by omega) (hall u hu)).mp h⟩
    · rintro ⟨u, hu, h⟩; exact ⟨u, hu, (over_joins (by omega) (hall u hu)).mpr h⟩
  by_cases ha : ts.any (joins lo hi) = true
  · rw [if_pos ha]
    funext i
    rw [nearOf_append]
    by_cases e1 : i = lo
    · rw [e1, o1]; simp only [addNew, if_pos (m1.mpr ha)]
    · by_cases e2 : i = hi
      · rw [e2, o2]; simp only [addNew, if_pos (m2.mpr ha)]
      · rw [o3 i e1 e2]; rfl
  · rw [if_neg ha]
    funext i
    rw [nearOf_append]
    by_cases e2 : i = hi
    · rw [if_pos e2, if_neg (by omega), e2, o2]
      simp only [addNew, if_neg (fun q => ha (m2.mp q)), List.map_append, List.map_cons, List.map_nil]
    · rw [if_neg e2]
      by_cases e1 : i = lo
      · rw [if_pos e1, e1, o1]
        simp only [addNew, if_neg (fun q => ha (m1.mp q)), List.map_append, List.map_cons, List.map_nil]
      · rw [if_neg e1, o3 i e1 e2]; rfl
end

section
variable {K : PySem.W.Frag} {A : Ads}
theorem init_core (nc : NetC K A) {H0 H : Hp} {p dx l : Addr} {m : Nat} {xs : List V} {Q : VK} {E : XK} (e0 : Ex H0 H) (p0 : H0 p = none) (hp : H p = some (.ins A.C dx [])) (m1 : 1 ≤ m) (m2 : m ≤ 24) (hl : H0 l = some (.lst xs)) (hz : xs.length ≤ 1000) (hx : ∀ x ∈ xs, TieK K H0 x)
    (kg : ∀ as ts, xs = as.map V.ref → TiesAt H0 as ts → Net.Ok ⟨m, ts⟩ → ∀ H' s, Ex H0 H' → NetX A H' p ⟨m, ts⟩ s → s.as = as → H0 s.kl = none → H0 s.sd = none → H0 s.nl = none → (∀ a ∈ s.ns, H0 a = none) → Q .non H')
    (kb : ¬ GoodTies H0 m xs → ∀ H', Ex H0 H' → E (.ref A.eNoNet) none H') :
    t_init K A E { nx := fun _ H' => Q .non H', rt := Q } (start ["self", "many", "ties", "tie", "pair", "place"] [.ref p, vi m, .ref l]) H := by
  unfold t_init
  have hw : ∀ H, SpV (sp_is_whole K A) [vi m] H (.bl true) := fun H => spv_is_whole kd_int
  have hw0 := hw H
  refine q_skip (et_is (b := false) (et_or (et_not (et_B (ev_call (ea_cons (ev_var rfl) ea_nil) hw0))) fun _ => et_not (et_test (ev_chain (y := .int (m : Int)) ev_c (ev_var rfl) rv_le (fun _ => ev_c) (fun _ => rv_le)))) ?_) fun H1 e1 => ?_
  · simp; omega
  have hl1 := (e0.trans e1) _ _ hl
  by_cases hlen : xs.length ≤ 300
  case neg =>
    refine q_yes (et_is (b := true) (et_or (a := false) (et_not (a := true) (by walk_at "ev")) fun _ => by walk_at "ev") ?_) fun H2 e2 => kb ?_ H2 ((e0.trans e1).trans e2)
    · simp; omega
    · rintro ⟨as, ts, rfl, ta, h3, _⟩
      rw [List.length_map, Paired.length ta] at hlen
      exact hlen h3
  refine q_skip (et_is (b := false) (et_or (a := false) (et_not (a := true) (by walk_at "ev")) fun _ => by walk_at "ev") ?_) fun H2 e2 => ?_
  · simp; omega
  -- the attributes
  have s2 := (e0.trans e1).trans e2
  have hp2 := (e1.trans e2) _ _ hp
  refine q_fld (v := vi m) (by walk_at "ev") (by walk_at "ev") hp2 nc.cl nc.nM (by decide) fun H3 e3 => ?_
  have hp3 : (upd H3 p (.ins A.C dx (putF "many" (vi m) []))) p = some (.ins A.C dx [("many", vi m)]) := upd_same
  have s3 : Ex H0 (upd H3 p (.ins A.C dx (putF "many" (vi m) []))) := Ex.mut (s2.trans e3) p0
  generalize upd H3 p (.ins A.C dx (putF "many" (vi m) [])) = G3 at hp3 s3 ⊢
  refine q_fldL (xs := []) (el_lst ea_nil (by decide)) (by walk_at "ev") hp3 nc.cl nc.nK (by simp) fun kl H4 k4 e4 h4 => ?_
  rw [put_past (by decide +kernel)]
  have npk : kl ≠ p := (ne_of_none hp3 k4).symm
  have hp4 : (upd H4 p (.ins A.C dx (("many", vi m) :: putF "kept" (.ref kl) []))) p = some (.ins A.C dx [("many", vi m), ("kept", .ref kl)]) := upd_same
  have hk4 : (upd H4 p (.ins A.C dx (("many", vi m) :: putF "kept" (.ref kl) []))) kl = some (.lst []) := by rw [upd_ne npk]; exact h4
  have s4 : Ex H0 (upd H4 p (.ins A.C dx (("many", vi m) :: putF "kept" (.ref kl) []))) := Ex.mut (s3.trans e4) p0
  have k0 : H0 kl = none := fresh_back s3 k4
  generalize upd H4 p (.ins A.C dx (("many", vi m) :: putF "kept" (.ref kl) [])) = G4 at hp4 hk4 s4 ⊢
  refine q_fld0 ?_
  intro sd hsd
  have nps : sd ≠ p := (ne_of_none hp4 hsd).symm
  have nks : kl ≠ sd := ne_of_none hk4 hsd
  refine ⟨_, rfl, p, A.C, dx, _, rfl, (by rw [upd_ne nps.symm]; exact hp4), nc.cl, nc.nS, by simp, ?_⟩
  rw [put_past (by decide +kernel), put_past (by decide +kernel)]
  have d0 : H0 sd = none := fresh_back s4 hsd
  have hp5 : upd (upd G4 sd (.dT [])) p (.ins A.C dx (("many", vi m) :: ("kept", .ref kl) :: putF "summed" (.ref sd) [])) p = some (.ins A.C dx [("many", vi m), ("kept", .ref kl), ("summed", .ref sd)]) := upd_same
  have hk5 : upd (upd G4 sd (.dT [])) p (.ins A.C dx (("many", vi m) :: ("kept", .ref kl) :: putF "summed" (.ref sd) [])) kl = some (.lst []) := by rw [upd_ne npk, upd_ne nks]; exact hk4
  have hs5 : upd (upd G4 sd (.dT [])) p (.ins A.C dx (("many", vi m) :: ("kept", .ref kl) :: putF "summed" (.ref sd) [])) sd = some (.dT []) := by rw [upd_ne nps, upd_same]
  have s5 : Ex H0 (upd (upd G4 sd (.dT [])) p (.ins A.C dx (("many", vi m) :: ("kept", .ref kl) :: putF "summed" (.ref sd) []))) := Ex.mut (s4.trans (Ex.new hsd)) p0
  generalize upd (upd G4 sd (.dT [])) p (.ins A.C dx (("many", vi m) :: ("kept", .ref kl) :: putF "summed" (.ref sd) [])) = G5 at hp5 hk5 hs5 s5 ⊢
  refine q_fld0 (c_news (m := m) (ea_cons (ev_var rfl) ea_nil) (by omega) (fun _ => rfl) fun nl ns G6 hnl e6 h6 hns nd hD ha => ?_)
  have hp6 := e6 _ _ hp5
  refine ⟨_, rfl, p, A.C, dx, _, rfl, hp6, nc.cl, nc.nN, by simp, ?_⟩
  rw [put_past (by decide +kernel), put_past (by decide +kernel), put_past (by decide +kernel)]
  have n0 : H0 nl = none := fresh_back s5 hnl
  have npn : nl ≠ p := (ne_of_none hp5 hnl).symm
  have b0 : Build A (upd G6 p (.ins A.C dx (("many", vi m) :: ("kept", .ref kl) :: ("summed", .ref sd) :: putF "near" (.ref nl) []))) p m dx kl sd nl ns [] [] (fun _ => []) := by
    refine ⟨upd_same, by rw [upd_ne npk]; exact e6 _ _ hk5, by rw [upd_ne nps]; exact e6 _ _ hs5, by rw [upd_ne npn]; exact h6, hns, fun i a hi => ?_, ne_of_none hk5 hnl, fun q => ?_, hD, nd⟩
    · have hm := ha a (List.mem_of_getElem? hi)
      rw [upd_ne (fun z => by rw [z, hp5] at hm; cases hm.1)]
      exact hm.2
    · have := (ha kl q).1
      rw [hk5] at this; cases this
  have s6 : Ex H0 (upd G6 p (.ins A.C dx (("many", vi m) :: ("kept", .ref kl) :: ("summed", .ref sd) :: putF "near" (.ref nl) []))) := Ex.mut (s5.trans e6) p0
  have a0 : ∀ a ∈ ns, H0 a = none := fun a q => fresh_back s5 (ha a q).1
  generalize upd G6 p (.ins A.C dx (("many", vi m) :: ("kept", .ref kl) :: ("summed", .ref sd) :: putF "near" (.ref nl) [])) = G7 at b0 s6 ⊢
  -- the ties
  refine s_forL (a := l) (xs := xs) (by walk_at "ev") (sq_of (s6 _ _ hl)) (fun i σ G => ∃ (as : List Addr) (ts : List Tie) (kvs : List (List Key × V)) (w3 w4 : Option V), σ = [some (.ref p), some (vi m), some (.ref l), w3, w4, none] ∧ Ex H0 G ∧ xs.take i = as.map V.ref ∧ TiesAt H0 as ts ∧ (∀ t ∈ ts, okTie m t) ∧
      Build A G p m dx kl sd nl ns (xs.take i) kvs (fun j => (nearOf ts j).map vi) ∧ SumOk kvs ts) (fun G8 e8 => ⟨[], [], [], none, none, rfl, s6.trans e8, by simp, .nil, by simp, by rw [List.take_zero]; exact b0.ext e8, SumOk.nil⟩) (fun i σ G _ ⟨_, _, _, _, _, _, e, _⟩ => sq_of (e _ _ hl)) ?_ ?_
  · rintro i x σ G hxi ⟨as, ts, kvs, w3, w4, rfl, e, ha, ta, ok, b, so⟩
    have hi : i < xs.length := (List.getElem?_eq_some_iff.mp hxi).1
    show tSeq _ _ _ [some (.ref p), some (vi m), some (.ref l), some x, w4, none] G
    have kbx : (∀ a t, x = .ref a → H0 a = some (.tup (tieV t)) → ¬ okTie m t) → ∀ H', Ex H0 H' → E (.ref A.eNoNet) none H' := fun q => kb fun g => by
      obtain ⟨a, t, h1, h2, h3⟩ := g.at_ hxi
      exact q a t h1 h2 h3
    rcases hx x (List.mem_of_getElem? hxi) with ⟨ty, hv, hb⟩ | ⟨a, vs, rfl, hA, hn⟩ | ⟨a, v0, v1, v2, rfl, hA, hk0, hk1, hk2⟩
    · have hvG := hv.mono e
      refine q_yes (et_is (b := true) (et_or (a := true) (b := true) (et_not (a := false) (by walk_at "ev")) (fun q => nomatch q)) rfl) fun H2 e2 => kbx (fun a t h1 h2 _ => ?_) _ (e.trans e2)
      subst h1
      rw [vt_is_tup h2 hv] at hb
      exact absurd hb (by decide +kernel)
    · have hAG := e _ _ hA
      refine q_yes (et_is (b := true) (et_or (a := false) (et_not (a := true) (by walk_at "ev")) fun _ => et_or (a := true) (b := true) (et_is (by walk_at "ev") ?_) (fun q => nomatch q)) rfl) fun H2 e2 => kbx (fun a' t h1 h2 _ => ?_) _ (e.trans e2)
      · simp; omega
      · have := V.ref.inj h1
        subst this
        rw [hA] at h2
        injection h2 with h2
        injection h2 with h2
        exact hn (by rw [h2]; rfl)
    · have hAG := e _ _ hA
      have ob : ObjAt A G p (m : Int) kl sd nl := ⟨dx, b.ob⟩
      have hob := b.ob
      have g0 := spv_has (K := K) ob (hk0.mono e)
      have g1 := spv_has (K := K) ob (hk1.mono e)
      have kbt : (∀ t, [v0, v1, v2] = tieV t → ¬ okTie m t) → ∀ H', Ex H0 H' → E (.ref A.eNoNet) none H' := fun q => kbx fun a' t h1 h2 => by
        have := V.ref.inj h1
        subst this
        rw [hA] at h2
        injection h2 with h2
        injection h2 with h2
        exact q t h2
      by_cases hpl : (isPl (m : Int) v0 && isPl (m : Int) v1) = true
      case neg =>
        refine q_yes (et_is (b := true) (by walk_at "ev") ?_) fun H2 e2 => kbt (fun t h1 h2 => ?_) _ (e.trans e2)
        · revert hpl
          cases isPl (m : Int) v0 <;> cases isPl (m : Int) v1 <;> simp
        · unfold tieV at h1
          injection h1 with h3 h1
          injection h1 with h4 h1
          subst h3 h4
          exact hpl (by rw [isPl_vi h2.1, isPl_vi h2.2.1]; rfl)
      refine q_skip (et_is (b := false) (by walk_at "ev") ?_) fun G1 e1 => ?_
      · revert hpl
        cases isPl (m : Int) v0 <;> cases isPl (m : Int) v1 <;> simp
      rw [Bool.and_eq_true] at hpl
      obtain ⟨j0, rfl, hj0⟩ := isPl_nat hpl.1
      obtain ⟨j1, rfl, hj1⟩ := isPl_nat hpl.2
      have hA1 := e1 _ _ hAG
      have gw := spv_is_whole (A := A) ((hk2.mono e).mono e1)
      by_cases hI : isI v2 = true
      case neg =>
        refine q_yes (et_is (et_or (b := true) (et_test (ev_op (x := .int (j0 : Int)) (y := .int (j1 : Int)) (by walk_at "ev") (by walk_at "ev") rv_eqI)) fun _ => et_or (a := true) (b := true) (et_is (et_not (et_B (ev_call (ea_cons (ev_op (x := .ref a) (y := .int 2) (ev_var rfl) ev_c (rv_ixT (st_of hA1) rfl)) ea_nil) gw))) ?_) (fun q => nomatch q)) ?_) fun H2 e2 => kbt (fun t h1 h2 => ?_) _ ((e.trans e1).trans e2)
        · simpa using hI
        · simp
        · unfold tieV at h1
          injection h1 with _ h1
          injection h1 with _ h1
          injection h1 with h3 _
          rw [h3] at hI
          exact hI rfl
      obtain ⟨c, rfl⟩ : ∃ c, v2 = .int c := by
        cases v2 <;> first | exact ⟨_, rfl⟩ | cases hI
      by_cases hgood : j0 ≠ j1 ∧ 1 ≤ c ∧ c ≤ 1000000000
      case neg =>
        refine q_yes (et_is (b := true) (et_or (et_test (ev_op (x := .int (j0 : Int)) (y := .int (j1 : Int)) (by walk_at "ev") (by walk_at "ev") rv_eqI)) fun _ => et_or (et_not (et_B (ev_call (ea_cons (ev_op (x := .ref a) (y := .int 2) (ev_var rfl) ev_c (rv_ixT (st_of hA1) rfl)) ea_nil) gw))) fun _ => et_not (et_test (by walk_at "ev"))) ?_) fun H2 e2 => kbt (fun t h1 h2 => ?_) _ ((e.trans e1).trans e2)
        · simp [isI]; omega
        · unfold tieV at h1
          injection h1 with h3 h1
          injection h1 with h4 h1
          injection h1 with h5 _
          have h3 := vi_inj h3
          have h4 := vi_inj h4
          have h5 := V.int.inj h5
          obtain ⟨_, _, q1, q2, q3⟩ := h2
          omega
      refine q_skip (et_is (b := false) (et_or (et_test (ev_op (x := .int (j0 : Int)) (y := .int (j1 : Int)) (by walk_at "ev") (by walk_at "ev") rv_eqI)) fun _ => et_or (et_not (et_B (ev_call (ea_cons (ev_op (x := .ref a) (y := .int 2) (ev_var rfl) ev_c (rv_ixT (st_of hA1) rfl)) ea_nil) gw))) fun _ => et_not (et_test (by walk_at "ev"))) ?_) fun G2 e2 => ?_
      · simp [isI]; omega
      have e2' := (e.trans e1).trans e2
      have hA2 := e2' _ _ hA
      have b2 := b.ext (e1.trans e2)
      obtain ⟨lo, hi', hlo, hhi, hlt, hmin, hmax, hcase⟩ := sortTie j0 j1 hgood.1
      refine q_asgU (xs := [.int (lo : Int), .int (hi' : Int)]) (eu_tup (ea_cons (ev_cb (ea_cons (ev_op (x := .ref a) (y := .int 0) (ev_var rfl) ev_c (rv_ixT (st_of hA2) rfl)) (ea_cons (ev_op (x := .ref a) (y := .int 1) (ev_var rfl) ev_c (rv_ixT (st_of hA2) rfl)) ea_nil)) (by rw [← hlo]; exact rc_min2))
        (ea_cons (ev_cb (ea_cons (ev_op (x := .ref a) (y := .int 0) (ev_var rfl) ev_c (rv_ixT (st_of hA2) rfl)) (ea_cons (ev_op (x := .ref a) (y := .int 1) (ev_var rfl) ev_c (rv_ixT (st_of hA2) rfl)) ea_nil)) (by rw [← hhi]; exact rc_max2)) ea_nil)) (by simp)) fun q G3 hq e3 h3 => ?_
      show tSeq _ _ _ [some (.ref p), some (vi m), some (.ref l), some (.ref a), some (.ref q), none] G3
      have b3 := b2.ext e3
      have hob3 := b3.ob
      refine q_app (l := kl) (xs := xs.take i) b3.hk (by walk_at "ev") (v := .ref a) (by walk_at "ev") (by rw [List.length_take]; omega) fun G4 e4 => ?_
      have hq4 := e4 _ _ h3
      have nqk : q ≠ kl := ne_of hq4 (b3.ext e4).hk (by intro z; cases z)
      have b5 := (b3.ext e4).kept (xs.take i ++ [.ref a])
      have hq5 : (upd G4 kl (.lst (xs.take i ++ [.ref a]))) q = some (.tup [.int (lo : Int), .int (hi' : Int)]) := by rw [upd_ne nqk]; exact hq4
      have e5 : Ex H0 (upd G4 kl (.lst (xs.take i ++ [.ref a]))) := Ex.mut ((e2'.trans e3).trans e4) k0
      generalize upd G4 kl (.lst (xs.take i ++ [.ref a])) = G5 at b5 hq5 e5 ⊢
      have hall : ∀ t ∈ ts, t.1 ≠ t.2.1 := fun t ht => (ok t ht).2.2.1
      have htie : (lo = ((j0, j1, c) : Tie).1 ∧ hi' = ((j0, j1, c) : Tie).2.1) ∨ (lo = ((j0, j1, c) : Tie).2.1 ∧ hi' = ((j0, j1, c) : Tie).1) := hcase
      have hkl := so.len
      have hal : ts.length ≤ 300 := by
        have := Paired.length ta
        have h1 : (xs.take i).length = as.length := by rw [ha, List.length_map]
        rw [List.length_take] at h1
        omega
      -- the last store, from either way
      have rest : ∀ (D : Ends) G, Build A G p m dx kl sd nl ns (xs.take i ++ [.ref a]) kvs (fun j => (nearOf (ts ++ [((j0, j1, c) : Tie)]) j).map vi) → G q = some (.tup [.int (lo : Int), .int (hi' : Int)]) → Ex H0 G →
          (∀ G6, Ex H0 G6 → Build A G6 p m dx kl sd nl ns (xs.take i ++ [.ref a]) (putK kvs (keyN lo hi') (.int (costOf ts lo hi' + c))) (fun j => (nearOf (ts ++ [((j0, j1, c) : Tie)]) j).map vi) → D.nx [some (.ref p), some (vi m), some (.ref l), some (.ref a), some (.ref q), none] G6) →
          sDPut (tFld K (tVar 0) "summed") (tVar 4) (tOp rPlus (tMeth A.C "cost" (sp_cost K A) [] E0 (tVar 0) (tCons (tOp (rIxT K) (tVar 4) (tC (.int 0))) (tCons (tOp (rIxT K) (tVar 4) (tC (.int 1))) tNil))) (tOp (rIxT K) (tVar 3) (tC (.int 2)))) D [some (.ref p), some (vi m), some (.ref l), some (.ref a), some (.ref q), none] G := by
        intro D G bG hqG eG fin
        have hob := bG.ob
        have hsd := bG.hs
        have hAG := eG _ _ hA
        have ob : ObjAt A G p (m : Int) kl sd nl := ⟨dx, bG.ob⟩
        have hc := spv_cost (K := K) (i := (lo : Int)) (j := (hi' : Int)) ob bG.hs
        rw [so.get (by omega)] at hc
        refine s_dputT (d := sd) (q := q) (kvs := kvs) (k := keyN lo hi') (v := .int (costOf ts lo hi' + c)) ?_ (by walk_at "ev") (ev_var rfl) hsd hqG (by omega) fun G6 e6 => ?_
        · refine ev_op (x := .int (costOf ts lo hi')) (y := .int c) (ev_meth (p := p) (vs := [.int (lo : Int), .int (hi' : Int)]) (ev_var rfl) hob (by walk_at "lk") ?_ hc) (ev_op (x := .ref a) (y := .int 2) (ev_var rfl) ev_c (rv_ixT (st_of hAG) rfl)) rv_plus
          exact ea_cons (ev_op (x := .ref q) (y := .int 0) (ev_var rfl) ev_c (rv_ixT (st_of hqG) rfl)) (ea_cons (ev_op (x := .ref q) (y := .int 1) (ev_var rfl) ev_c (rv_ixT (st_of hqG) rfl)) ea_nil)
        · exact fin _ (Ex.mut (eG.trans e6) d0) ((bG.ext e6).summed _)
      have fin : ∀ G6, Ex H0 G6 → Build A G6 p m dx kl sd nl ns (xs.take i ++ [.ref a]) (putK kvs (keyN lo hi') (.int (costOf ts lo hi' + c))) (fun j => (nearOf (ts ++ [((j0, j1, c) : Tie)]) j).map vi) →
          ∃ (as : List Addr) (ts : List Tie) (kvs : List (List Key × V)) (w3 w4 : Option V), [some (.ref p), some (vi m), some (.ref l), some (.ref a), some (.ref q), none] = [some (.ref p), some (vi m), some (.ref l), w3, w4, none] ∧ Ex H0 G6 ∧ xs.take (i + 1) = as.map V.ref ∧ TiesAt H0 as ts ∧ (∀ t ∈ ts, okTie m t) ∧ Build A G6 p m dx kl sd nl ns (xs.take (i + 1)) kvs (fun j => (nearOf ts j).map vi) ∧ SumOk kvs ts := by
        intro G6 e6 b6
        refine ⟨as ++ [a], ts ++ [(j0, j1, c)], _, _, _, rfl, e6, by rw [take_succ_of hxi, ha]; simp, paired_snoc ta hA, fun t ht => ?_, by rw [take_succ_of hxi]; exact b6, ?_⟩
        · rcases List.mem_append.mp ht with h | h
          · exact ok t h
          · rw [List.mem_singleton] at h
            rw [h]
            exact ⟨hj0, hj1, hgood.1, hgood.2.1, hgood.2.2⟩
        · have := so.more (t := (j0, j1, c)) hgood.1
          rw [hmin, hmax] at this
          exact this
      have hob5 := b5.ob
      have hs5' := b5.hs
      have hv := so.val lo hi' hlt
      have etest : EvT (tB (tDNotIn (tVar 4) (tFld K (tVar 0) "summed"))) [some (.ref p), some (vi m), some (.ref l), some (.ref a), some (.ref q), none] G5 (!ts.any (joins lo hi')) := by
        refine et_B (ev_is (ev_notInT (d := sd) (a := q) (kvs := kvs) (k := keyN lo hi') (by walk_at "ev") (rd_of hs5') (ev_var rfl) hq5) ?_)
        rw [hv]
        cases ts.any (joins lo hi') <;> rfl
      refine q_if etest (fun hb G6 e6 => ?_) (fun hb G6 e6 => ?_)
      · have hany : ts.any (joins lo hi') = false := by simpa using hb
        have b6 := b5.ext e6
        have hq6 := e6 _ _ hq5
        obtain ⟨c0, hc0⟩ : ∃ c0, ns[lo]? = some c0 := ⟨ns[lo]'(by have := b6.len; omega), List.getElem?_eq_getElem _⟩
        obtain ⟨c1, hc1⟩ : ∃ c1, ns[hi']? = some c1 := ⟨ns[hi']'(by have := b6.len; omega), List.getElem?_eq_getElem _⟩
        have nl0 := b6.at_ lo c0 hc0
        have hob6 := b6.ob
        have hn6 := b6.hn
        have at0 : atI (ns.map V.ref) (lo : Int) = some (.ref c0) := atI_nat (by rw [List.getElem?_map, hc0]; rfl)
        have at1 : atI (ns.map V.ref) (hi' : Int) = some (.ref c1) := atI_nat (by rw [List.getElem?_map, hc1]; rfl)
        have hlen0 : ∀ j, (nearOf ts j).length ≤ ts.length := fun j => near_len ts j
        refine q_app (l := c0) (xs := (nearOf ts lo).map vi) nl0 (ev_op (x := .ref nl) (y := .int (lo : Int)) (by walk_at "ev") (ev_op (x := .ref q) (y := .int 0) (ev_var rfl) ev_c (rv_ixT (st_of hq6) rfl)) (rv_ixL (sq_of hn6) at0)) (v := vi hi') (ev_op (x := .ref q) (y := .int 1) (ev_var rfl) ev_c (rv_ixT (st_of hq6) rfl)) (by rw [List.length_map]; have := hlen0 lo; omega) fun G7 e7 => ?_
        have b7 := (b6.ext e7).near hc0 ((nearOf ts lo).map vi ++ [vi hi'])
        have hq7 : (upd G7 c0 (.lst ((nearOf ts lo).map vi ++ [vi hi']))) q = some (.tup [.int (lo : Int), .int (hi' : Int)]) := by
          rw [upd_ne (ne_of (e7 _ _ hq6) (e7 _ _ nl0) (by intro z; cases z))]
          exact e7 _ _ hq6
        have e7' : Ex H0 (upd G7 c0 (.lst ((nearOf ts lo).map vi ++ [vi hi']))) := Ex.mut ((e5.trans e6).trans e7) (a0 c0 (List.mem_of_getElem? hc0))
        generalize upd G7 c0 (.lst ((nearOf ts lo).map vi ++ [vi hi'])) = G8 at b7 hq7 e7' ⊢
        have nl1 := b7.at_ hi' c1 hc1
        have hob7 := b7.ob
        have hn7 := b7.hn
        rw [if_neg (by omega)] at nl1
        refine s_app (l := c1) (xs := (nearOf ts hi').map vi) nl1 (ev_op (x := .ref nl) (y := .int (hi' : Int)) (by walk_at "ev") (ev_op (x := .ref q) (y := .int 1) (ev_var rfl) ev_c (rv_ixT (st_of hq7) rfl)) (rv_ixL (sq_of hn7) at1)) (v := vi lo) (ev_op (x := .ref q) (y := .int 0) (ev_var rfl) ev_c (rv_ixT (st_of hq7) rfl)) (by rw [List.length_map]; have := hlen0 hi'; omega) fun G9 e9 => ?_
        have b9 := (b7.ext e9).near hc1 ((nearOf ts hi').map vi ++ [vi lo])
        have hq9 : (upd G9 c1 (.lst ((nearOf ts hi').map vi ++ [vi lo]))) q = some (.tup [.int (lo : Int), .int (hi' : Int)]) := by
          rw [upd_ne (ne_of (e9 _ _ hq7) (e9 _ _ nl1) (by intro z; cases z))]
          exact e9 _ _ hq7
        have e9' : Ex H0 (upd G9 c1 (.lst ((nearOf ts hi').map vi ++ [vi lo]))) := Ex.mut (e7'.trans e9) (a0 c1 (List.mem_of_getElem? hc1))
        refine rest _ _ ?_ hq9 e9' fin
        have hnm := near_more hlt htie hall
        rw [if_neg (by rw [hany]; exact Bool.false_ne_true)] at hnm
        rw [hnm, if_neg (by omega)]
        exact b9
      · have hany : ts.any (joins lo hi') = true := by simpa using hb
        refine rest _ _ ?_ (e6 _ _ hq5) (e5.trans e6) fin
        have hnm := near_more hlt htie hall
        rw [if_pos hany] at hnm
        rw [hnm]
        exact b5.ext e6
  · rintro σ G ⟨as, ts, kvs, w3, w4, rfl, e, ha, ta, ok, b, so⟩
    rw [List.take_length] at ha b
    have hle : ts.length = xs.length := by rw [ha, List.length_map]; exact (Paired.length ta).symm
    exact kg as ts ha ta ⟨m1, m2, by show ts.length ≤ 300; omega, ok⟩ G ⟨dx, kl, sd, nl, as, ns, kvs⟩ e ⟨⟨m1, m2, by show ts.length ≤ 300; omega, ok⟩, b.ob, by rw [← ha]; exact b.hk, ta.mono e, b.hs, so, b.hn, b.len, b.at_⟩ rfl k0 d0 n0 a0
end

section
variable {K : PySem.W.Frag} {A : Ads}
theorem map_ref_inj : ∀ {as bs : List Addr}, as.map V.ref = bs.map V.ref → as = bs
  | [], [], _ => rfl
  | [], _ :: _, h => by simp at h
  | _ :: _, [], h => by simp at h
  | a :: r, b :: s, h => by
    simp only [List.map_cons, List.cons.injEq, V.ref.injEq] at h
    rw [h.1, map_ref_inj h.2]
theorem tieV_inj {t u : Tie} (h : tieV t = tieV u) : t = u := by
  unfold tieV at h
  injection h with h1 h
  injection h with h2 h
  injection h with h3 _
  obtain ⟨a, b, c⟩ := t
  obtain ⟨a', b', c'⟩ := u
  have h1 := vi_inj h1
  have h2 := vi_inj h2
  have h3 := V.int.inj h3
  simp only at h1 h2 h3
  rw [h1, h2, h3]
theorem TiesAt.inj {H : Hp} : ∀ {as : List Addr} {ts us : List Tie}, TiesAt H as ts → TiesAt H as us → ts = us
  | _, _, _, .nil, .nil => rfl
  | _, _, _, .cons h t, .cons h' t' => by
    rw [h] at h'
    injection h' with h'
    injection h' with h'
    rw [tieV_inj h', TiesAt.inj t t']
theorem TiesAt.kinds {H : Hp} : ∀ {as : List Addr} {ts : List Tie}, TiesAt H as ts → ∀ x ∈ as.map V.ref, TieK K H x
  | _, _, .nil, x, h => by simp at h
  | _, _, .cons h t, x, hx => by
    simp only [List.map_cons, List.mem_cons] at hx
    rcases hx with rfl | hx
    · exact .inr (.inr ⟨_, _, _, _, rfl, h, kd_int, kd_int, kd_int⟩)
    · exact TiesAt.kinds t x hx
theorem pure_init (nc : NetC K A) (vs : List V) (H : Hp) (Q : VK) (E : XK) (h : sp_init K A vs H Q E) : t_init K A E { nx := fun _ H' => Q .non H', rt := Q } (start ["self", "many", "ties", "tie", "pair", "place"] vs) H := by
  obtain ⟨H0, p, dx, mv, tv, rfl, e0, p0, hp, hk, h⟩ := h
  rcases h with ⟨m, l, as, ts, rfl, rfl, hl, ta, ok, k⟩ | ⟨h, k⟩
  · refine init_core nc e0 p0 hp ok.lo ok.hi hl ?_ ta.kinds ?_ (fun g => absurd ⟨as, ts, rfl, ta, ok.few, ok.all⟩ g)
    · rw [List.length_map, Paired.length ta]
      have := ok.few
      have : ts.length ≤ 300 := this
      omega
    · intro as' ts' ea ta' ok' H' s e N hs
      have ea := map_ref_inj ea
      subst ea
      have et := ta.inj ta'
      subst et
      exact k H' s e N hs
  · rcases h with hm | ⟨m, rfl, m1, m2, h⟩
    · unfold t_init
      have hkH := hk.mono e0
      have gw := spv_is_whole (A := A) hkH
      by_cases hI : isI mv = true
      · obtain ⟨i, rfl⟩ : ∃ i, mv = .int i := by
          cases mv <;> first | exact ⟨_, rfl⟩ | cases hI
        refine q_yes (et_is (b := true) (et_or (et_not (et_B (ev_call (ea_cons (ev_var rfl) ea_nil) gw))) fun _ => et_not (et_test (ev_chain (y := .int i) ev_c (ev_var rfl) rv_le (fun _ => ev_c) (fun _ => rv_le)))) ?_) fun H1 e1 => k _ (e0.trans e1)
        have : ¬ (1 ≤ i ∧ i ≤ 24) := fun q => hm ⟨i.toNat, by unfold vi; congr 1; omega, by omega, by omega⟩
        simp [isI]; omega
      · refine q_yes (et_is (b := true) (et_or (a := true) (b := true) (et_is (et_not (et_B (ev_call (ea_cons (ev_var rfl) ea_nil) gw))) ?_) (fun q => nomatch q)) rfl) fun H1 e1 => k _ (e0.trans e1)
        simpa using hI
    · rcases h with ⟨ty, hv, hb⟩ | ⟨l, xs, rfl, hl, hz, hx, hg⟩
      · unfold t_init
        have hw : ∀ H, SpV (sp_is_whole K A) [vi m] H (.bl true) := fun H => spv_is_whole kd_int
        have hw0 := hw H
        refine q_skip (et_is (b := false) (et_or (et_not (et_B (ev_call (ea_cons (ev_var rfl) ea_nil) hw0))) fun _ => et_not (et_test (ev_chain (y := .int (m : Int)) ev_c (ev_var rfl) rv_le (fun _ => ev_c) (fun _ => rv_le)))) ?_) fun H1 e1 => ?_
        · simp; omega
        have hv1 := (hv.mono e0).mono e1
        exact q_yes (et_is (b := true) (et_or (a := true) (b := true) (et_not (a := false) (by walk_at "ev")) (fun q => nomatch q)) rfl) fun H2 e2 => k _ ((e0.trans e1).trans e2)
      · exact init_core nc e0 p0 hp m1 m2 hl hz hx (fun as ts ea ta ok => absurd ⟨as, ts, ea, ta, ok.few, ok.all⟩ hg) (fun _ H' e' => k H' e')
end
abbrev spLaw (K : PySem.W.Frag) : Sp := fun vs H Q _ => ∃ (a : Addr) (ns : List Int), vs = [.ref a] ∧ SqL K H a (ns.map V.int) ∧ ns.length ≤ 63 ∧ ∀ H', Q (.bl true) H'

/-! ### facts about nets as data -/
theorem nearOf_nodup (ts : List Tie) (i : Nat) : (nearOf ts i).Nodup := by
  have key : ∀ (ts : List Tie) (acc : List Nat), acc.Nodup → (ts.foldl (fun l t => addNew l (over i t)) acc).Nodup := by
    intro ts
    induction ts with
    | nil => intro acc h; exact h
    | cons t r ih =>
      intro acc h
      rw [List.foldl_cons]
      refine ih _ ?_
      show (addNew acc (over i t)).Nodup
      cases over i t with
      | none => exact h
      | some k =>
        show (if k ∈ acc then acc else acc ++ [k]).Nodup
        by_cases hk : k ∈ acc
        · rw [if_pos hk]; exact h
        · rw [if_neg hk, List.nodup_append]
          exact ⟨h, by simp, fun a ha b hb q => hk (by rw [List.mem_singleton] at hb; rw [← hb, ← q]; exact ha)⟩
  exact key ts [] List.nodup_nil
theorem sum_pos_of : ∀ {l : List Int}, (∀ x ∈ l, 0 < x) → 0 ≤ l.sum ∧ (l ≠ [] → 0 < l.sum)
  | [], _ => ⟨Int.le_refl _, fun h => absurd rfl h⟩
  | x :: r, h => by
    have h1 := h x (by simp)
    have h2 := (sum_pos_of (l := r) fun y hy => h y (by simp [hy])).1
    rw [List.sum_cons]
    exact ⟨by omega, fun _ => by omega⟩
theorem costOf_nonneg {m : Nat} {ts : List Tie} (ok : ∀ t ∈ ts, okTie m t) (i j : Nat) : 0 ≤ costOf ts i j := by
  unfold costOf
  refine (sum_pos_of fun x hx => ?_).1
  obtain ⟨t, ht, rfl⟩ := List.mem_map.mp hx
  have := (ok t (List.mem_filter.mp ht).1).2.2.2.1
  omega
theorem costOf_pos {m : Nat} {ts : List Tie} (ok : ∀ t ∈ ts, okTie m t) (i j : Nat) : 0 < costOf ts i j ↔ ∃ t ∈ ts, joins i j t = true := by
  have hp : ∀ x ∈ (ts.filter (joins i j)).map (·.2.2), 0 < x := fun x hx => by
    obtain ⟨t, ht, rfl⟩ := List.mem_map.mp hx
    have := (ok t (List.mem_filter.mp ht).1).2.2.2.1
    omega
  constructor
  · intro h
    have hne : ts.filter (joins i j) ≠ [] := by
      intro q
      unfold costOf at h
      rw [q] at h
      exact absurd h (by simp)
    obtain ⟨t, ht⟩ := List.exists_mem_of_ne_nil _ hne
    exact ⟨t, List.mem_filter.mp ht⟩
  · rintro ⟨t, ht, hj⟩
    refine (sum_pos_of hp).2 fun q => ?_
    have : t.2.2 ∈ (ts.filter (joins i j)).map (·.2.2) := List.mem_map.mpr ⟨t, List.mem_filter.mpr ⟨ht, hj⟩, rfl⟩
    rw [q] at this
    exact nomatch this
theorem mem_near_cost {m : Nat} {ts : List Tie} (ok : ∀ t ∈ ts, okTie m t) {i j : Nat} (hij : i ≠ j) : j ∈ nearOf ts i ↔ 0 < costOf ts i j := by
  rw [costOf_pos ok, mem_nearOf ts i j fun t ht => (ok t ht).2.2.1]
  constructor
  · rintro ⟨t, ht, h⟩; exact ⟨t, ht, (over_joins hij (ok t ht).2.2.1).mp h⟩
  · rintro ⟨t, ht, h⟩; exact ⟨t, ht, (over_joins hij (ok t ht).2.2.1).mpr h⟩
theorem near_lt {m : Nat} {ts : List Tie} (ok : ∀ t ∈ ts, okTie m t) {i j : Nat} (h : j ∈ nearOf ts i) : j < m ∧ j ≠ i := by
  obtain ⟨t, ht, h⟩ := (mem_nearOf ts i j fun t ht => (ok t ht).2.2.1).mp h
  obtain ⟨h1, h2, h3, _⟩ := ok t ht
  unfold over at h
  by_cases q1 : t.1 = i
  · rw [if_pos q1] at h
    have := Option.some.inj h
    omega
  · rw [if_neg q1] at h
    by_cases q2 : t.2.1 = i
    · rw [if_pos q2] at h
      have := Option.some.inj h
      omega
    · rw [if_neg q2] at h; cases h
/-- the places beside, told by prices -/
def dueOf (n : Nat) (ts : List Tie) (i : Nat) : List Int := List.map (fun j : Nat => (j : Int)) ((List.range n).filter fun j => decide (j ≠ i) && decide (0 < costOf ts i j))
theorem besideOf_eq {n : Nat} {ts : List Tie} (ok : ∀ t ∈ ts, okTie n t) (i : Nat) : besideOf ts i = dueOf n ts i := by
  refine (srt_one ?_ ?_).symm
  · refine List.Perm.map _ ((List.perm_ext_iff_of_nodup ?_ (nearOf_nodup ts i)).mpr fun j => ?_)
    · exact List.Pairwise.filter _ List.nodup_range
    · rw [List.mem_filter, List.mem_range, Bool.and_eq_true, decide_eq_true_eq, decide_eq_true_eq]
      constructor
      · rintro ⟨_, h1, h2⟩
        exact (mem_near_cost ok (Ne.symm h1)).mpr h2
      · intro h
        have := near_lt ok h
        exact ⟨this.1, this.2, (mem_near_cost ok (Ne.symm this.2)).mp h⟩
  · exact List.Pairwise.map (R := (· < ·)) _ (fun a b h => by omega) (List.Pairwise.filter _ List.pairwise_lt_range)

/-! ### the law's own small defs: promises -/
def cellAt (ns : List Int) (k : Nat) : Int := ns.getD k 0
def sp_l_cell_at (K : PySem.W.Frag) (_ : Ads) : Sp := fun vs H Q _ => ∃ (a : Addr) (ns : List Int) (k : Nat), vs = [.ref a, vi k] ∧ SqL K H a (ns.map V.int) ∧ ∀ H', Ex H H' → Q (.int (cellAt ns k)) H'
def sp_l_whole (K : PySem.W.Frag) (_ : Ads) : Sp := fun vs H Q _ => ∃ v, vs = [v] ∧ Kd K H v ∧ ∀ H', Ex H H' → Q (.bl (isI v)) H'
/-- so many places: which is left open -/
def spMany (lo : Nat) (K : PySem.W.Frag) (_ : Ads) : Sp := fun vs H Q _ => ∃ (a : Addr) (ns : List Int), vs = [.ref a] ∧ SqL K H a (ns.map V.int) ∧ ∀ m : Nat, lo ≤ m → m ≤ 24 → ∀ H', Ex H H' → Q (vi m) H'
def sp_l_tie (_ : PySem.W.Frag) (_ : Ads) : Sp := fun vs H Q _ => ∃ (c : Int) (m : Nat) (top : Int), vs = [.int c, vi m, .int top] ∧ 2 ≤ m ∧ m ≤ 24 ∧ 1 ≤ top ∧ top ≤ 1000000000 ∧
  ∀ t : Tie, okTie m t → ∀ q H', H q = none → Ex H H' → H' q = some (.tup (tieV t)) → Q (.ref q) H'
/-- a new list of good ties -/
def spTies (K : PySem.W.Frag) (_ : Ads) : Sp := fun vs H Q _ => ∃ (a : Addr) (ns : List Int) (m : Nat), vs = [.ref a, vi m] ∧ SqL K H a (ns.map V.int) ∧ ns.length ≤ 63 ∧ 1 ≤ m ∧ m ≤ 24 ∧
  ∀ l as ts H', H l = none → Ex H H' → H' l = some (.lst (as.map V.ref)) → TiesAt H' as ts → (∀ t ∈ ts, okTie m t) → ts.length ≤ 300 → Q (.ref l) H'
def sp_l_due (_ : PySem.W.Frag) (_ : Ads) : Sp := fun vs H Q _ => ∃ (l : Addr) (as : List Addr) (ts : List Tie) (i j : Nat), vs = [.ref l, vi i, vi j] ∧ H l = some (.lst (as.map V.ref)) ∧ TiesAt H as ts ∧ i ≠ j ∧
  ∀ H', Ex H H' → Q (.int (costOf ts i j)) H'
section
variable (K : PySem.W.Frag) (A : Ads)
theorem len_l_cell_at : ∀ vs H Q E, sp_l_cell_at K A vs H Q E → vs.length = (["_law_script", "_law_k"] : List Str).length := by
  rintro _ _ _ _ ⟨_, _, _, rfl, _⟩; rfl
theorem len_l_whole : ∀ vs H Q E, sp_l_whole K A vs H Q E → vs.length = (["_law_found"] : List Str).length := by
  rintro _ _ _ _ ⟨_, rfl, _⟩; rfl
theorem len_l_tie : ∀ vs H Q E, sp_l_tie K A vs H Q E → vs.length = (["_law_cell", "_law_many_here", "_law_top"] : List Str).length := by
  rintro _ _ _ _ ⟨_, _, _, rfl, _⟩; rfl
theorem len_l_due : ∀ vs H Q E, sp_l_due K A vs H Q E → vs.length = (["_law_ties_here", "_law_one", "_law_other"] : List Str).length := by
  rintro _ _ _ _ ⟨_, _, _, _, _, rfl, _⟩; rfl
end
section
variable {K : PySem.W.Frag} {A : Ads} {H : Hp}
theorem spv_l_cell_at {a : Addr} {ns : List Int} {k : Nat} (h : SqL K H a (ns.map V.int)) : SpV (sp_l_cell_at K A) [.ref a, vi k] H (.int (cellAt ns k)) := fun _ e _ q _ => ⟨a, ns, k, rfl, ex_l e h, fun H2 e2 => q H2 e2⟩
theorem spv_l_whole {v : V} (h : Kd K H v) : SpV (sp_l_whole K A) [v] H (.bl (isI v)) := fun _ e _ q _ => ⟨v, rfl, h.mono e, fun H2 e2 => q H2 e2⟩
theorem spv_l_due {l : Addr} {as : List Addr} {ts : List Tie} {i j : Nat} (h : H l = some (.lst (as.map V.ref))) (t : TiesAt H as ts) (hij : i ≠ j) : SpV (sp_l_due K A) [.ref l, vi i, vi j] H (.int (costOf ts i j)) := fun _ e _ q _ =>
  ⟨l, as, ts, i, j, rfl, e _ _ h, t.mono e, hij, fun H2 e2 => q H2 e2⟩
end

def t_l_cell_at (K : PySem.W.Frag) (A : Ads) : TS :=
  (tSeq (tIfS (tTest (tOp rLt (tVar 1) (tCB (rLenS K) (tCons (tVar 0) tNil)))) (tRet (tOp (rIxL K) (tVar 0) (tVar 1))) tNext)
    (tRet (tC (.int 0))))

def t_l_whole (K : PySem.W.Frag) (A : Ads) : TS :=
  (tRet (tAndV (tCB (rIsi K) (tCons (tVar 0) (tCons (tC (.ty "int")) tNil))) (tNotV (tCB (rIsi K) (tCons (tVar 0) (tCons (tC (.ty "bool")) tNil))))))

def t_l_tie (K : PySem.W.Frag) (A : Ads) : TS :=
  (tSeq (tAsg (tOp rMod (tVar 0) (tVar 1)) (gName 3))
    (tSeq (tAsg (tOp rMod (tOp rPlus (tOp rPlus (tVar 3) (tC (.int 1))) (tOp rMod (tOp rFdiv (tVar 0) (tVar 1)) (tOp rMinus (tVar 1) (tC (.int 1))))) (tVar 1)) (gName 4))
    (tRet (tTup (tCons (tVar 3) (tCons (tVar 4) (tCons (tOp rPlus (tC (.int 1)) (tOp rMod (tOp rFdiv (tVar 0) (tOp rTimes (tVar 1) (tOp rMinus (tVar 1) (tC (.int 1))))) (tVar 2))) tNil)))))))

def t_l_due (K : PySem.W.Frag) (A : Ads) : TS :=
  (tSeq (tAsg (tC (.int 0)) (gName 3))
    (tSeq (tFor (iList K (tVar 0)) (gName 4) (tIfS (tOr (tAnd (tTest (tOp rEq (tOp (rIxT K) (tVar 4) (tC (.int 0))) (tVar 1))) (tTest (tOp rEq (tOp (rIxT K) (tVar 4) (tC (.int 1))) (tVar 2)))) (tAnd (tTest (tOp rEq (tOp (rIxT K) (tVar 4) (tC (.int 0))) (tVar 2))) (tTest (tOp rEq (tOp (rIxT K) (tVar 4) (tC (.int 1))) (tVar 1))))) (tAsg (tOp rPlus (tVar 3) (tOp (rIxT K) (tVar 4) (tC (.int 2)))) (gName 3)) tNext))
    (tRet (tVar 3))))

section
variable {K : PySem.W.Frag} {A : Ads}
theorem atI_ints {ns : List Int} {k : Nat} (h : k < ns.length) : atI (ns.map V.int) (k : Int) = some (.int (cellAt ns k)) := by
  refine atI_nat ?_
  rw [List.getElem?_map, List.getElem?_eq_getElem h]
  unfold cellAt
  rw [List.getD, List.getElem?_eq_getElem h]
  rfl
theorem pure_l_cell_at (vs : List V) (H : Hp) (Q : VK) (E : XK) (h : sp_l_cell_at K A vs H Q E) : t_l_cell_at K A { nx := fun _ H' => Q .non H', rt := Q } (start ["_law_script", "_law_k"] vs) H := by
  obtain ⟨a, ns, k, rfl, hs, q⟩ := h
  unfold t_l_cell_at
  have hlen : (ns.map V.int).length = ns.length := List.length_map ..
  refine q_when (et_test (ev_op (x := .int (k : Int)) (y := .int ((ns.map V.int).length : Int)) (ev_var rfl) (by walk_at "ev") rv_lt)) (fun hb H1 e1 => ?_) (fun hb H1 e1 => ?_)
  · have hb : (k : Int) < (ns.map V.int).length := of_decide_eq_true hb
    rw [hlen] at hb
    refine s_ret (v := .int (cellAt ns k)) ?_ fun H2 e2 => ?_
    case refine_2 => exact q _ (e1.trans e2)
    exact ev_op (x := .ref a) (y := .int (k : Int)) (ev_var rfl) (ev_var rfl) (rv_ixL (ex_l e1 hs) (atI_ints (by omega)))
  · have hb : ¬ (k : Int) < (ns.map V.int).length := of_decide_eq_false hb
    rw [hlen] at hb
    refine s_ret (v := .int (cellAt ns k)) ?_ fun H2 e2 => ?_
    case refine_2 => exact q _ (e1.trans e2)
    have : cellAt ns k = 0 := by
      unfold cellAt
      rw [List.getD, List.getElem?_eq_none (by omega)]; rfl
    rw [this]
    exact ev_c
theorem pure_l_whole (vs : List V) (H : Hp) (Q : VK) (E : XK) (h : sp_l_whole K A vs H Q E) : t_l_whole K A { nx := fun _ H' => Q .non H', rt := Q } (start ["_law_found"] vs) H := by
  obtain ⟨v, rfl, ⟨ty, b1, b2, hv, h1, h2, h3⟩, k⟩ := h
  unfold t_l_whole
  refine s_ret (v := .bl (b1 && !b2)) (by walk_at "ev") fun H1 e1 => ?_
  rw [h3]
  exact k H1 e1
theorem pure_l_tie (vs : List V) (H : Hp) (Q : VK) (E : XK) (h : sp_l_tie K A vs H Q E) : t_l_tie K A { nx := fun _ H' => Q .non H', rt := Q } (start ["_law_cell", "_law_many_here", "_law_top", "_law_one", "_law_other"] vs) H := by
  obtain ⟨c, m, top, rfl, m1, m2, t1, t2, k⟩ := h
  unfold t_l_tie
  show tSeq _ _ _ [some (.int c), some (.int (m : Int)), some (.int top), none, none] H
  have hone := Int.emod_nonneg c (show (m : Int) ≠ 0 by omega)
  have hone' := Int.emod_lt_of_pos c (show (0 : Int) < m by omega)
  refine q_asg (v := .int (c % (m : Int))) (by walk_at "ev") fun H1 e1 => ?_
  show tSeq _ _ _ [some (.int c), some (.int (m : Int)), some (.int top), some (.int (c % (m : Int))), none] H1
  generalize c % (m : Int) = one at hone hone'
  refine q_asg (v := .int ((one + 1 + c / (m : Int) % ((m : Int) - 1)) % (m : Int))) (by walk_at "ev") fun H2 e2 => ?_
  have hr := Int.emod_nonneg (c / (m : Int)) (show (m : Int) - 1 ≠ 0 by omega)
  have hr' := Int.emod_lt_of_pos (c / (m : Int)) (show (0 : Int) < (m : Int) - 1 by omega)
  show tRet _ _ [some (.int c), some (.int (m : Int)), some (.int top), some (.int one), some (.int ((one + 1 + c / (m : Int) % ((m : Int) - 1)) % (m : Int)))] H2
  generalize c / (m : Int) % ((m : Int) - 1) = r at hr hr'
  have ho := Int.emod_nonneg (one + 1 + r) (show (m : Int) ≠ 0 by omega)
  have ho' := Int.emod_lt_of_pos (one + 1 + r) (show (0 : Int) < m by omega)
  have hne : (one + 1 + r) % (m : Int) ≠ one := by
    have hd := Int.emod_add_mul_ediv (one + 1 + r) (m : Int)
    intro q
    rw [q] at hd
    have h3 : (m : Int) * ((one + 1 + r) / (m : Int)) = 1 + r := by omega
    have h4 : 0 < (one + 1 + r) / (m : Int) := by
      by_cases hp : 0 < (one + 1 + r) / (m : Int)
      · exact hp
      · exfalso
        have : (m : Int) * ((one + 1 + r) / (m : Int)) ≤ 0 := Int.mul_nonpos_of_nonneg_of_nonpos (by omega) (by omega)
        omega
    have h5 : (m : Int) * 1 ≤ (m : Int) * ((one + 1 + r) / (m : Int)) := Int.mul_le_mul_of_nonneg_left (by omega) (by omega)
    omega
  generalize (one + 1 + r) % (m : Int) = other at ho ho' hne
  have hprod : (m : Int) * ((m : Int) - 1) ≤ 24 * 23 := Int.mul_le_mul (by omega) (by omega) (by omega) (by omega)
  have hprod' : 2 * 1 ≤ (m : Int) * ((m : Int) - 1) := Int.mul_le_mul (by omega) (by omega) (by omega) (by omega)
  have hp := Int.emod_nonneg (c / ((m : Int) * ((m : Int) - 1))) (show top ≠ 0 by omega)
  have hp' := Int.emod_lt_of_pos (c / ((m : Int) * ((m : Int) - 1))) (show 0 < top by omega)
  refine s_retU (xs := tieV (one.toNat, other.toNat, 1 + c / ((m : Int) * ((m : Int) - 1)) % top)) ?_ fun q H3 hq e3 h3 => k _ ⟨by show one.toNat < m; omega, by show other.toNat < m; omega, by show one.toNat ≠ other.toNat; omega, by show 1 ≤ 1 + c / ((m : Int) * ((m : Int) - 1)) % top; omega, by show 1 + c / ((m : Int) * ((m : Int) - 1)) % top ≤ 1000000000; omega⟩ q H3 (fresh_back (e1.trans e2) hq) ((e1.trans e2).trans e3) h3
  have q1 : ((one.toNat : Nat) : Int) = one := by omega
  have q2 : ((other.toNat : Nat) : Int) = other := by omega
  unfold tieV vi
  rw [q1, q2]
  refine eu_tup (ea_cons (ev_var rfl) (ea_cons (ev_var rfl) (ea_cons (ev_op ev_c (ev_op (x := .int (c / ((m : Int) * ((m : Int) - 1)))) (y := .int top) (ev_op (x := .int c) (y := .int ((m : Int) * ((m : Int) - 1))) (ev_var rfl) (by walk_at "ev") (rv_fdiv ⟨by omega, by omega⟩)) (ev_var rfl) (rv_mod (by omega))) rv_plus) ea_nil))) (by simp)
theorem joins_test (t : Tie) (i j : Nat) : ((decide ((t.1 : Int) = (i : Int)) && decide ((t.2.1 : Int) = (j : Int))) || (decide ((t.1 : Int) = (j : Int)) && decide ((t.2.1 : Int) = (i : Int)))) = joins i j t := by
  unfold joins
  have e : ∀ a b : Nat, decide ((a : Int) = (b : Int)) = decide (a = b) := fun a b => by
    by_cases h : a = b
    · rw [decide_eq_true h, decide_eq_true (by omega)]
    · rw [decide_eq_false h, decide_eq_false (by omega)]
  rw [e, e, e, e]
theorem pure_l_due (vs : List V) (H : Hp) (Q : VK) (E : XK) (h : sp_l_due K A vs H Q E) : t_l_due K A { nx := fun _ H' => Q .non H', rt := Q } (start ["_law_ties_here", "_law_one", "_law_other", "_law_total", "_law_tie_here"] vs) H := by
  obtain ⟨l, as, ts, i, j, rfl, hl, ta, hij, k⟩ := h
  unfold t_l_due
  refine q_asg (v := .int 0) ev_c fun H1 e1 => ?_
  show tSeq _ _ _ [some (.ref l), some (vi i), some (vi j), some (.int 0), none] H1
  have hl1 := e1 _ _ hl
  refine q_forLn (a := l) (xs := as.map V.ref) (by walk_at "ev") (sq_of hl1) (fun n σ G => ∃ w, σ = [some (.ref l), some (vi i), some (vi j), some (.int (costOf (ts.take n) i j)), w] ∧ Ex H G) (fun H2 e2 => ⟨none, rfl, e1.trans e2⟩) (fun _ _ _ _ ⟨_, _, e⟩ => sq_of (e _ _ hl)) ?_ ?_
  · rintro n x σ G hx ⟨w, rfl, e⟩
    rw [List.getElem?_map] at hx
    cases ea : as[n]? with
    | none => rw [ea] at hx; cases hx
    | some a =>
      rw [ea] at hx
      have ex := Option.some.inj hx
      subst ex
      have hlen := Paired.length ta
      have hn := (List.getElem?_eq_some_iff.mp ea).1
      have et : ts[n]? = some (ts[n]'(by omega)) := List.getElem?_eq_getElem _
      generalize ts[n]'(by omega) = t at et
      have hA := paired_get (R := fun a t => H a = some (.tup (tieV t))) ta ea et
      have hA := e _ _ hA
      have etk := take_succ_of et
      show tIfS _ _ _ _ [some (.ref l), some (vi i), some (vi j), some (.int (costOf (ts.take n) i j)), some (.ref a)] G
      have at0 : Ev (tOp (rIxT K) (tVar 4) (tC (.int 0))) [some (.ref l), some (vi i), some (vi j), some (.int (costOf (ts.take n) i j)), some (.ref a)] G (.int (t.1 : Int)) := ev_op (x := .ref a) (y := .int 0) (ev_var rfl) ev_c (rv_ixT (st_of hA) rfl)
      have at1 : Ev (tOp (rIxT K) (tVar 4) (tC (.int 1))) [some (.ref l), some (vi i), some (vi j), some (.int (costOf (ts.take n) i j)), some (.ref a)] G (.int (t.2.1 : Int)) := ev_op (x := .ref a) (y := .int 1) (ev_var rfl) ev_c (rv_ixT (st_of hA) rfl)
      refine s_if (et_is (et_or (et_and (et_test (ev_op (y := .int (i : Int)) at0 (ev_var rfl) rv_eqI)) fun _ => et_test (ev_op (y := .int (j : Int)) at1 (ev_var rfl) rv_eqI)) fun _ => et_and (et_test (ev_op (y := .int (j : Int)) at0 (ev_var rfl) rv_eqI)) fun _ => et_test (ev_op (y := .int (i : Int)) at1 (ev_var rfl) rv_eqI)) (joins_test t i j)) (fun hb G1 e1 => ?_) (fun hb G1 e1 => ?_)
      · have hA1 := e1 _ _ hA
        refine s_asg (v := .int (costOf (ts.take n) i j + t.2.2)) (ev_op (x := .int (costOf (ts.take n) i j)) (y := .int t.2.2) (ev_var rfl) (ev_op (x := .ref a) (y := .int 2) (ev_var rfl) ev_c (rv_ixT (st_of hA1) rfl)) rv_plus) fun G2 e2 => ⟨some (.ref a), ?_, (e.trans e1).trans e2⟩
        rw [etk, costOf_append, hb]; rfl
      · refine ⟨some (.ref a), ?_, e.trans e1⟩
        rw [etk, costOf_append, hb]
        simp
  · rintro σ G ⟨w, rfl, e⟩
    rw [List.length_map, Paired.length ta, List.take_length]
    exact s_ret (ev_var rfl) fun H2 e2 => k _ (e.trans e2)
end

/-! ### lists of ties as they grow -/
section
variable {K : PySem.W.Frag} {A : Ads}
/-- from H0 on: at l a new list of good ties -/
structure TL (H0 H : Hp) (l : Addr) (m : Nat) (as : List Addr) (ts : List Tie) : Prop where
  new : H0 l = none
  ex : Ex H0 H
  at_ : H l = some (.lst (as.map V.ref))
  ta : TiesAt H as ts
  ok : ∀ t ∈ ts, okTie m t
theorem TL.len {H0 H : Hp} {l : Addr} {m : Nat} {as : List Addr} {ts : List Tie} (h : TL H0 H l m as ts) : as.length = ts.length := Paired.length h.ta
theorem TL.mono {H0 H H' : Hp} {l : Addr} {m : Nat} {as : List Addr} {ts : List Tie} (h : TL H0 H l m as ts) (e : Ex H H') : TL H0 H' l m as ts := ⟨h.new, h.ex.trans e, e _ _ h.at_, h.ta.mono e, h.ok⟩
/-- a list that stands may be changed: the tuples stay -/
theorem TiesAt.upd {H : Hp} {l : Addr} {xs : List V} {o : HO} : ∀ {as : List Addr} {ts : List Tie}, TiesAt H as ts → H l = some (.lst xs) → TiesAt (upd H l o) as ts
  | _, _, .nil, _ => .nil
  | _, _, .cons h t, hl => .cons (by rw [upd_ne (ne_of h hl (by intro z; cases z))]; exact h) (TiesAt.upd t hl)
theorem TL.add {H0 H : Hp} {l q : Addr} {m : Nat} {as : List Addr} {ts : List Tie} {t : Tie} (h : TL H0 H l m as ts) (hq : H q = some (.tup (tieV t))) (ht : okTie m t) : TL H0 (upd H l (.lst (as.map V.ref ++ [.ref q]))) l m (as ++ [q]) (ts ++ [t]) := by
  refine ⟨h.new, Ex.mut h.ex h.new, by rw [upd_same]; simp, paired_snoc (h.ta.upd h.at_) (by rw [upd_ne (ne_of hq h.at_ (by intro z; cases z))]; exact hq), fun u hu => ?_⟩
  rcases List.mem_append.mp hu with q | q
  · exact h.ok u q
  · rw [List.mem_singleton] at q; rw [q]; exact ht
/-- ties made in a comprehension over cells -/
theorem c_tiesL {σ : L2.St} {H : Hp} {Q : VK} {j m : Nat} {tl te : TE} {vs : List Nat} {cells : List Int} (hl : EvL tl σ H (cells.map V.int)) (hz : cells.length ≤ 1000) (hw : ∀ x, wipe ((wipe σ vs).set j (some x)) vs = wipe σ vs)
    (he : ∀ (c : Int) H1 (Q' : VK), Ex H H1 → (∀ t, okTie m t → ∀ q H2, H1 q = none → Ex H1 H2 → H2 q = some (.tup (tieV t)) → Q' (.ref q) H2) → te ((wipe σ vs).set j (some (.int c))) H1 Q')
    (k : ∀ D as ts H', H D = none → TL H H' D m as ts → ts.length = cells.length → Q (.ref D) H') : tLc (iList K tl) (gName j) tYes te vs σ H Q := by
  refine hl H (Ex.refl H) _ fun p H1 hp e1 h1 => ⟨p, rfl, ⟨_, sq_of h1⟩, fun D hD => ?_⟩
  refine lc_list (K := K) (a := p) (xs := cells.map V.int) (fun i H' => ∃ as ts, TL H1 H' D m as ts ∧ ts.length = i) ⟨[], [], ⟨hD, Ex.new hD, upd_same, .nil, fun _ h => nomatch h⟩, rfl⟩ (fun i H' _ ⟨_, _, t, _⟩ => sq_of (t.ex _ _ h1)) ?_ ?_
  · rintro i x H' hx ⟨as, ts, t, hn⟩
    rw [List.getElem?_map] at hx
    cases ec : cells[i]? with
    | none => rw [ec] at hx; cases hx
    | some c =>
      rw [ec] at hx
      have ex := Option.some.inj hx
      subst ex
      have hi := (List.getElem?_eq_some_iff.mp ec).1
      refine ⟨hw _, ty_go ?_⟩
      rw [if_pos rfl]
      refine he c H' _ (e1.trans t.ex) fun u hu q H2 hq e2 h2 => ⟨as.map V.ref, (t.mono e2).at_, ?_, as ++ [q], ts ++ [u], (t.mono e2).add h2 hu, by simp [hn]⟩
      rw [List.length_map, t.len]
      exact sz_lt (by omega)
  · rintro H' ⟨as, ts, t, hn⟩
    rw [List.length_map] at hn
    exact k D as ts H' (fresh_back e1 hD) ⟨fresh_back e1 hD, e1.trans t.ex, t.at_, t.ta, t.ok⟩ hn
/-- the prices' top -/
theorem ev_top {σ : L2.St} {H : Hp} {tb : TE} {c : Int} (hc : Ev tb σ H (.int c)) : ∃ top : Int, 1 ≤ top ∧ top ≤ 1000000000 ∧
    Ev (tOp (rIxL K) (tLst (tCons (tC (.int 3)) (tCons (tC (.int 20)) (tCons (tC (.int 1000000000)) tNil)))) (tOp rMod tb (tC (.int 3)))) σ H (.int top) := by
  have h1 := Int.emod_nonneg c (show (3 : Int) ≠ 0 by omega)
  have h2 := Int.emod_lt_of_pos c (show (0 : Int) < 3 by omega)
  have key : ∀ (k : Nat) (top : Int), c % 3 = (k : Int) → ([.int 3, .int 20, .int 1000000000] : List V)[k]? = some (.int top) →
      Ev (tOp (rIxL K) (tLst (tCons (tC (.int 3)) (tCons (tC (.int 20)) (tCons (tC (.int 1000000000)) tNil)))) (tOp rMod tb (tC (.int 3)))) σ H (.int top) := fun k top hk hv =>
    ev_opL1 (xs := [.int 3, .int 20, .int 1000000000]) (el_lst (ea_cons ev_c (ea_cons ev_c (ea_cons ev_c ea_nil))) (by simp)) (fun H1 e1 => ev_op (hc.mono e1) ev_c (rv_mod (by omega))) fun p H1 hp e => rv_ixL (sq_of hp) (by rw [hk]; exact atI_nat hv)
  by_cases q0 : c % 3 = 0
  · exact ⟨3, by omega, by omega, key 0 3 q0 rfl⟩
  · by_cases q1 : c % 3 = 1
    · exact ⟨20, by omega, by omega, key 1 20 q1 rfl⟩
    · exact ⟨1000000000, by omega, by omega, key 2 1000000000 (by omega) rfl⟩
/-- a call of the law's own tie -/
theorem c_l_tie {σ : L2.St} {H : Hp} {Q : VK} {c top : Int} {m : Nat} {t : TA} (ha : EvA t σ H [.int c, vi m, .int top]) (m1 : 2 ≤ m) (m2 : m ≤ 24) (t1 : 1 ≤ top) (t2 : top ≤ 1000000000)
    (k : ∀ u, okTie m u → ∀ q H2, H q = none → Ex H H2 → H2 q = some (.tup (tieV u)) → Q (.ref q) H2) : tCall (sp_l_tie K A) [] E0 t σ H Q :=
  c_call ha fun H1 e1 => ⟨c, m, top, rfl, m1, m2, t1, t2, fun u hu q H2 hq e2 h2 => k u hu q H2 (fresh_back e1 hq) (e1.trans e2) h2⟩
theorem cutV_ints (ns : List Int) (a b : Nat) : ∃ cs : List Int, cutV (ns.map V.int) (some (a : Int)) (some (b : Int)) = cs.map V.int ∧ cs.length ≤ ns.length ∧ cs.length ≤ b - a := by
  unfold cutV
  rw [← List.map_drop, ← List.map_take]
  refine ⟨_, rfl, ?_, ?_⟩
  · rw [List.length_take, List.length_drop]; omega
  · rw [List.length_take, HT.sIx_nat, HT.sIx_nat, List.length_map, List.length_drop]
    omega
end

section
variable {K : PySem.W.Frag} {A : Ads} {σ : L2.St} {H H' : Hp} {D : Ends} {tz : TS} {v : V} {ta te : TE}
theorem q_appN {xs : List V} (ha : EvL ta σ H xs) (h : Ev te σ H v) (hz : xs.length < 100000) (k : ∀ H1, Ex H H1 → tz D σ H1) : tSeq (tDrop (tBM K "list" rAppend ta (tCons te tNil))) tz D σ H :=
  ha H (Ex.refl H) _ fun p H1 hp e1 h1 => ⟨Or.inl ⟨rfl, xs, sq_of h1⟩, h H1 e1 _ fun H2 e2 => ⟨p, xs, v, rfl, rfl, e2 p _ h1, sz_lt hz, k _ ((e1.trans e2).mut hp)⟩⟩
variable {p : Addr} {n : Net} {s : NetS}
theorem list_at_ref {as : List Addr} {i : Nat} {x : V} (h : (as.map V.ref)[i]? = some x) : ∃ a, as[i]? = some a ∧ x = .ref a := by
  rw [List.getElem?_map] at h
  cases ea : as[i]? with
  | none => rw [ea] at h; cases h
  | some a => rw [ea] at h; exact ⟨a, rfl, (Option.some.inj h).symm⟩
theorem TiesAt.at_ {H : Hp} {as : List Addr} {ts : List Tie} {i : Nat} {a : Addr} (h : TiesAt H as ts) (ha : as[i]? = some a) : ∃ t, ts[i]? = some t ∧ H a = some (.tup (tieV t)) := by
  have hl := Paired.length h
  have hi := (List.getElem?_eq_some_iff.mp ha).1
  have et : ts[i]? = some (ts[i]'(by omega)) := List.getElem?_eq_getElem _
  exact ⟨_, et, paired_get (R := fun a t => H a = some (.tup (tieV t))) h ha et⟩
theorem isTwo_vi {m i j : Nat} (h : i < m) (h' : j < m) (hij : i ≠ j) : isTwo (m : Int) (vi i) (vi j) = true := by
  unfold isTwo
  rw [isPl_vi h, isPl_vi h', decide_eq_false fun q => hij (vi_inj q)]
  rfl
theorem spv_between {i j : Nat} (N : NetX A H p n s) (h : i < n.many) (h' : j < n.many) (hij : i ≠ j) : SpV (sp_between K A) [.ref p, vi i, vi j] H (.int (costOf n.ties i j)) := fun H1 e Q q E =>
  ⟨p, n, s, vi i, vi j, rfl, N.mono e, kd_int, kd_int, fun i' j' hi hj _ _ _ H2 e2 => by
    rw [← vi_inj hi, ← vi_inj hj]
    exact q H2 e2, fun hn => by
    rw [isTwo_vi h h' hij] at hn
    cases hn⟩
theorem spl_beside {i : Nat} (N : NetX A H p n s) (h : i < n.many) : SpL (sp_beside K A) [.ref p, vi i] H ((besideOf n.ties i).map V.int) := fun H1 e Q q E =>
  ⟨p, n, s, vi i, rfl, N.mono e, kd_int, fun i' hi _ l H2 hl e2 h2 => q l H2 hl e2 (by rw [vi_inj hi]; exact h2), fun hn => by
    rw [isPl_vi h] at hn
    cases hn⟩
theorem spl_ties (N : NetX A H p n s) : SpL (sp_ties K A) [.ref p] H (s.as.map V.ref) := fun H1 e Q q E => ⟨p, n, s, rfl, N.mono e, fun l H2 hl e2 h2 => q l H2 hl e2 h2⟩
theorem map_vi_inj : ∀ {a b : List Nat}, a.map vi = b.map vi → a = b
  | [], [], _ => rfl
  | [], _ :: _, h => nomatch h
  | _ :: _, [], h => nomatch h
  | x :: a, y :: b, h => by
    have h := List.cons.inj h
    rw [vi_inj h.1, map_vi_inj h.2]
theorem spv_price {l : Addr} {side : List Nat} (N : NetX A H p n s) (h : H l = some (.lst (side.map vi))) (hn : side.Nodup) (hs : ∀ i ∈ side, i < n.many) : SpV (sp_price K A) [.ref p, .ref l] H (.int (priceOf n.ties side)) := fun H1 e Q q E =>
  ⟨p, n, s, .ref l, rfl, N.mono e, .inl ⟨l, _, rfl, e _ _ h, by
    rw [List.length_map]
    have h1 := List.Nodup.length_le_of_subset hn (l₂ := List.range n.many) fun i hi => List.mem_range.mpr (hs i hi)
    rw [List.length_range] at h1
    have := N.ok.hi
    omega, fun x hx => by
    obtain ⟨i, _, rfl⟩ := List.mem_map.mp hx
    exact kd_int, fun side' hh _ _ H2 e2 => by
    have : side = side' := map_vi_inj hh
    rw [← this]
    exact q H2 e2, fun hb => absurd ⟨side, rfl, hn, hs⟩ hb⟩⟩
end

section
variable {K : PySem.W.Frag} {A : Ads} {σ : L2.St} {H H' : Hp} {D : Ends} {tz : TS} {v x y z : V} {ta tb te tl : TE}
/-- two ways that meet -/
theorem q_ifM {b : Bool} {t : TT} {tu tw : TS} (M : L2.St → Hp → Prop) (h : EvT t σ H b) (k : ∀ σ' H', M σ' H' → tz D σ' H') (h1 : b = true → ∀ H1, Ex H H1 → ∀ N : L2.St → Hp → Prop, (∀ σ' H', M σ' H' → N σ' H') → tu { D with nx := N } σ H1)
    (h2 : b = false → ∀ H1, Ex H H1 → ∀ N : L2.St → Hp → Prop, (∀ σ' H', M σ' H' → N σ' H') → tw { D with nx := N } σ H1) : tSeq (tIfS t tu tw) tz D σ H :=
  q_if h (fun hb H1 e1 => h1 hb H1 e1 _ k) (fun hb H1 e1 => h2 hb H1 e1 _ k)
/-- a list told again leaves a net, where it is none of the net's own -/
theorem NetX.told {p h : Addr} {n : Net} {s : NetS} {xs ys : List V} (N : NetX A H p n s) (hh : H h = some (.lst xs)) (nk : h ≠ s.kl) (nn : h ≠ s.nl) (nns : ∀ a ∈ s.ns, a ≠ h) : NetX A (upd H h (.lst ys)) p n s := by
  have ne : ∀ {b : Addr} {o : HO}, H b = some o → (∀ zs, o ≠ .lst zs) → upd H h (.lst ys) b = some o := fun {b o} hb ho => (upd_ne (fun q => by
    rw [q, hh] at hb
    exact ho _ (Option.some.inj hb).symm)).trans hb
  exact ⟨N.ok, ne N.ob (fun _ q => nomatch q), (upd_ne (Ne.symm nk)).trans N.hk, TiesAt.upd N.ta hh, ne N.hs (fun _ q => nomatch q), N.so, (upd_ne (Ne.symm nn)).trans N.hn, ⟨N.na.len, fun i a ha => (upd_ne (nns a (List.mem_of_getElem? ha))).trans (N.na.at_ i a ha)⟩⟩
/-- a method handed a new list -/
theorem ev_methL {C p dx : Addr} {fs : List (Str × V)} {m : Str} {sp : Sp} {xs : List V} {E : XK} (ha : Ev ta σ H (.ref p)) (h : H p = some (.ins C dx fs)) (l : fs.lookup m = none) (hv : EvL tl σ H xs) (hs : ∀ q H1, H1 q = some (.lst xs) → Ex H H1 → SpV sp [.ref p, .ref q] H1 z) :
    Ev (tMeth C m sp [] E ta (tCons tl tNil)) σ H z := fun H1 e Q q =>
  ha H1 e _ fun H2 e2 => ⟨p, dx, fs, rfl, e2 p _ (e p _ h), l, hv H2 (e.trans e2) _ fun r H3 _ e3 h3 => hs r H3 h3 ((e.trans e2).trans e3) H3 (Ex.refl H3) _ (fun H4 e4 => q H4 ((e2.trans e3).trans e4)) E⟩
/-- a call handed a new list first -/
theorem ev_callL {sp : Sp} {xs : List V} {E : XK} (hv : EvL tl σ H xs) (hb : Ev tb σ H y) (hs : ∀ q H1, H1 q = some (.lst xs) → Ex H H1 → SpV sp [.ref q, y] H1 z) : Ev (tCall sp [] E (tCons tl (tCons tb tNil))) σ H z := fun H1 e Q q =>
  hv H1 e _ fun r H3 _ e3 h3 => hb H3 (e.trans e3) _ fun H4 e4 => hs r H4 (e4 _ _ h3) ((e.trans e3).trans e4) H4 (Ex.refl H4) _ (fun H5 e5 => q H5 ((e3.trans e4).trans e5)) E
theorem q_rev {l : Addr} {xs : List V} (hl : H l = some (.lst xs)) (ha : Ev ta σ H (.ref l)) (k : ∀ H1, Ex H H1 → D.nx σ (upd H1 l (.lst xs.reverse))) : tDrop (tBM0 K "list" rReverse ta) D σ H := ha H (Ex.refl H) _ fun H1 e1 =>
  ⟨Or.inl ⟨rfl, xs, sq_of (e1 l _ hl)⟩, l, xs, rfl, rfl, e1 l _ hl, k H1 e1⟩
theorem el_range {n : Nat} (ha : Ev ta σ H (vi n)) (hn : n ≤ 100000) : EvL (tLstRg (tRg1 ta)) σ H ((List.range n).map vi) := fun H1 e Q q =>
  ha H1 e _ fun H2 e2 => ⟨(n : Int), rfl, RgOk.of_le (by omega) (by omega) (by omega) (by omega), fun r hr => q r _ (fresh_back e2 hr) (e2.mut (fresh_back e2 hr)) (by
    rw [show rgV 0 (n : Int) = (List.range n).map vi from by
      unfold rgV
      rw [show ((n : Int) - 0).toNat = n by omega]
      exact List.map_congr_left fun i _ => by rw [Int.zero_add]; rfl]
    exact upd_same)⟩
theorem vi_ints (l : List Nat) : l.map vi = (l.map fun j : Nat => (j : Int)).map V.int := by rw [List.map_map]; rfl
theorem dp_vis {a : Addr} {l : List Nat} (h : SqL K H a (l.map vi)) : Dp K H (.ref a) (intD (l.map fun j : Nat => (j : Int))) := dp_ints (by rw [← vi_ints]; exact h)
def twoD (a b : List Int) : PyData := .list [intD a, intD b]
theorem dp_two {a b c : Addr} {xs ys : List Int} (h : SqL K H a [.ref b, .ref c]) (hb : Dp K H (.ref b) (intD xs)) (hc : Dp K H (.ref c) (intD ys)) : Dp K H (.ref a) (twoD xs ys) := .lst h (.cons hb (.cons hc .nil))
theorem shaped_two (a b : List Int) : SeqAt.shaped (twoD a b) = true := by
  have h1 := shaped_ints a
  have h2 := shaped_ints b
  unfold SeqAt.shaped at *
  rw [Bool.and_eq_true] at *
  refine ⟨?_, decide_eq_true ?_⟩
  · show (PyData.canLay0 (intD a) && (PyData.canLay0 (intD b) && true)) = true
    rw [h1.1, h2.1]; rfl
  · show max (PyData.depth (intD a)) (max (PyData.depth (intD b)) 0) + 1 ≤ 64
    have ha : PyData.depth (intD a) = 1 := by show PyData.depthAll (a.map PyData.int) + 1 = 1; rw [depth_ints]
    have hb : PyData.depth (intD b) = 1 := by show PyData.depthAll (b.map PyData.int) + 1 = 1; rw [depth_ints]
    rw [ha, hb]; decide
theorem priceOf_other {m : Nat} {ts : List Tie} {a b : List Nat} (ok : ∀ t ∈ ts, okTie m t) (h : ∀ k, k < m → (k ∈ b ↔ k ∉ a)) : priceOf ts b = priceOf ts a := by
  unfold priceOf
  congr 2
  refine List.filter_congr fun t ht => ?_
  obtain ⟨h1, h2, _⟩ := ok t ht
  have e1 := h _ h1
  have e2 := h _ h2
  by_cases q1 : t.1 ∈ a <;> by_cases q2 : t.2.1 ∈ a <;> simp [e1, e2, q1, q2]
theorem priceOf_nil (ts : List Tie) : priceOf ts [] = 0 := by
  unfold priceOf
  rw [List.filter_eq_nil_iff.mpr fun t _ => by simp]
  rfl
theorem priceOf_all {m : Nat} {ts : List Tie} (ok : ∀ t ∈ ts, okTie m t) : priceOf ts (List.range m) = 0 := by
  rw [← priceOf_nil ts]
  exact priceOf_other ok fun k hk => by simp [hk]
end

/-! ### texts, and loops over more -/
section
variable {K : PySem.W.Frag} {A : Ads} {σ : L2.St} {H H' : Hp} {D : Ends} {tu tz : TS} {v : V} {ta tb te tl : TE}
theorem rv_plusS {a b : List Nat} (ha : a.length ≤ 50000) (hb : b.length ≤ 50000) : RV rPlusS (.str (SX.S a)) (.str (SX.S b)) H (.str (SX.S (a ++ b))) := fun H1 _ _ q => ⟨_, _, rfl, rfl, by rw [SX.S_len, SX.S_len]; exact sz_of (by omega), by rw [SX.S_cat]; exact q H1 (Ex.refl H1)⟩
theorem rc_strN {n : Nat} (h : n < 10 ^ 10) : RC rStrI [vi n] H (.str (SX.S (TL.numL n))) := fun H1 _ _ q => ⟨(n : Int), rfl, by
  show n.log2 < 1920
  by_cases h0 : n = 0
  · subst h0; decide
  · rw [Nat.log2_lt h0]
    exact Nat.lt_of_lt_of_le h (by decide +kernel), by
  rw [show ((toString (n : Int) : String) : Str) = SX.S (TL.numL n) from SX.num_S n]
  exact q H1 (Ex.refl H1)⟩
theorem rc_lenStr {a : List Nat} (h : a.length ≤ 100000) : RC rLenStr [.str (SX.S a)] H (.int (a.length : Int)) := fun H1 _ _ q => ⟨_, rfl, by rw [SX.S_len]; exact sz_of h, by rw [SX.S_len]; exact q H1 (Ex.refl H1)⟩
theorem rc_intStr {a : Str} {n : Int} (h : PySem.intText? a = some n) (hl : a.length ≤ 640) : RC rIntStr [.str a] H (.int n) := fun H1 _ _ q => ⟨a, n, rfl, h, hl, q H1 (Ex.refl H1)⟩
theorem rc_int1B {b : Bool} : RC rInt1 [.bl b] H (.int (if b then 1 else 0)) := fun H1 _ _ q => .inr ⟨b, rfl, q H1 (Ex.refl H1)⟩
theorem ev_join {a : List Nat} {p : Addr} {ys : List (List Nat)} (ha : Ev ta σ H (.str (SX.S a))) (hp : Ev tb σ H (.ref p)) (hl : SqL K H p ((ys.map SX.S).map V.str) ∨ SqT K H p ((ys.map SX.S).map V.str)) (hz : (ys.map (·.length)).sum + ys.length * a.length ≤ 16777216) :
    Ev (tM1 (rJoin K) ta tb) σ H (.str (SX.S (TL.joinL a ys))) := fun H1 e Q q =>
  ha H1 e _ fun H2 e2 => ⟨⟨_, rfl⟩, hp H2 (e.trans e2) _ fun H3 e3 => ⟨_, p, ys.map SX.S, rfl, rfl, hl.elim (fun h => .inl (ex_l ((e.trans e2).trans e3) h)) (fun h => .inr (ex_t ((e.trans e2).trans e3) h)), by rw [SX.lens, List.length_map, SX.S_len]; exact hz, by
    rw [SX.join_S]
    exact q H3 (e2.trans e3)⟩⟩
theorem ev_joinL {a : List Nat} {ys : List (List Nat)} (ha : Ev ta σ H (.str (SX.S a))) (hp : EvL tb σ H ((ys.map SX.S).map V.str)) (hz : (ys.map (·.length)).sum + ys.length * a.length ≤ 16777216) :
    Ev (tM1 (rJoin K) ta tb) σ H (.str (SX.S (TL.joinL a ys))) := fun H1 e Q q =>
  ha H1 e _ fun H2 e2 => ⟨⟨_, rfl⟩, hp H2 (e.trans e2) _ fun p H3 _ e3 h3 => ⟨_, p, ys.map SX.S, rfl, rfl, .inl (sq_of h3), by rw [SX.lens, List.length_map, SX.S_len]; exact hz, by
    rw [SX.join_S]
    exact q H3 (e2.trans e3)⟩⟩
theorem el_split {x y : Str} (ha : Ev ta σ H (.str x)) (hb : Ev tb σ H (.str y)) (hy : (y.length == 0) = false) (hx : x.length ≤ 99998) : EvL (tM1 rSplit ta tb) σ H ((Txt.split x y).map V.str) := fun H1 e Q q =>
  ha H1 e _ fun H2 e2 => ⟨⟨_, rfl⟩, hb H2 (e.trans e2) _ fun H3 e3 => ⟨x, y, rfl, rfl, hy, sz_of (by omega), fun p hp => q p _ (fresh_back (e2.trans e3) hp) ((e2.trans e3).trans (Ex.new hp)) upd_same⟩⟩
/-- a text, sign by sign -/
theorem q_forS {x : Str} {j : Nat} (h : Ev te σ H (.str x)) (Pv : Nat → L2.St → Hp → Prop) (h0 : ∀ H1, Ex H H1 → Pv 0 σ H1)
    (hs : ∀ i c σ' H', x.cps.toList[i]? = some c → Pv i σ' H' → tu { D with nx := Pv (i + 1), ct := Pv (i + 1), bk := tz D } (σ'.set j (some (.str ⟨#[c]⟩))) H') (hd : ∀ σ' H', Pv x.cps.toList.length σ' H' → tz D σ' H') : tSeq (tFor (iStr te) (gName j) tu) tz D σ H :=
  h H (Ex.refl H) _ fun H1 e => ⟨x, rfl, for_it walk_str Pv (h0 H1 e) (fun _ _ _ _ _ => trivial) (fun i v σ' H2 H3 _ p y => by
    obtain ⟨rfl, c, hc, rfl⟩ := y
    exact hs i c σ' _ (by rw [Array.getElem?_toList]; exact hc) p) hd⟩
/-- enumerate over a new list -/
theorem q_forE {xs : List V} {j j' : Nat} (h : EvL tl σ H xs) (Pv : Addr → Nat → L2.St → Hp → Prop) (h0 : ∀ p H1, H p = none → Ex H H1 → H1 p = some (.lst xs) → Pv p 0 σ H1) (hq : ∀ p i σ' H', Pv p i σ' H' → SqL K H' p xs)
    (hs : ∀ p i x σ' G G', xs[i]? = some x → Pv p i σ' G → Ex G G' → tu { D with nx := Pv p (i + 1), ct := Pv p (i + 1), bk := tz D } ((σ'.set j (some (vi i))).set j' (some x)) G') (hd : ∀ p σ' H', Pv p xs.length σ' H' → tz D σ' H') :
    tSeq (tFor (iEnum K (tCons tl tNil)) (gTup K 2 (gCons (gName j) (gCons (gName j') gNil))) tu) tz D σ H :=
  h H (Ex.refl H) _ fun p H1 hp e h1 => ⟨p, xs, rfl, sq_of h1, for_it walk_enum (Pv p) (h0 p H1 hp e h1) (fun i σ' H' _ q => hq p i σ' H' q) (fun i v σ' G G' _ q y => by
    obtain ⟨T, x, y', rfl, hT, rfl, hx, hy⟩ := y
    have := Option.some.inj hx
    subst this
    exact ⟨T, _, rfl, st_of upd_same, rfl, _, _, rfl, _, _, rfl, rfl, hs p i y' σ' G _ hy q (Ex.new hT)⟩) (hd p)⟩
end
section
variable {K : PySem.W.Frag} {A : Ads} {σ : L2.St} {H : Hp} {D : Ends} {tu tz : TS} {t1 t2 te : TE} {g : TG}
/-- ties made in a comprehension over a range -/
theorem c_tiesR {Q : VK} {j m n : Nat} {ta : TA} {vs : List Nat} (hl : EvA ta σ H [vi n]) (hz : n ≤ 1000) (hw : ∀ x, wipe ((wipe σ vs).set j (some x)) vs = wipe σ vs)
    (he : ∀ (c : Nat) H1 (Q' : VK), c < n → Ex H H1 → (∀ t, okTie m t → ∀ q H2, H1 q = none → Ex H1 H2 → H2 q = some (.tup (tieV t)) → Q' (.ref q) H2) → te ((wipe σ vs).set j (some (vi c))) H1 Q')
    (k : ∀ D as ts H', H D = none → TL H H' D m as ts → ts.length = n → Q (.ref D) H') : tLc (iRng1 ta) (gName j) tYes te vs σ H Q := by
  refine hl H (Ex.refl H) _ fun H1 e1 => ⟨(n : Int), rfl, by omega, by omega, fun D hD => ?_⟩
  rw [Int.toNat_natCast]
  refine lc_it (walk_range (lo := 0) (n := n)) (fun i H' => ∃ as ts, TL H1 H' D m as ts ∧ ts.length = i) ⟨[], [], ⟨hD, Ex.new hD, upd_same, .nil, fun _ h => nomatch h⟩, rfl⟩ (fun _ _ _ _ => trivial) ?_ ?_
  · rintro i x H' H2 hi ⟨as, ts, t, hn⟩ ⟨rfl, rfl⟩
    show gName j (V.int ((0 : Int) + (i : Int))) _ _ _
    rw [show V.int ((0 : Int) + (i : Int)) = vi i from congrArg V.int (Int.zero_add _)]
    refine ⟨hw _, ty_go ?_⟩
    rw [if_pos rfl]
    refine he i _ _ hi (e1.trans t.ex) fun u hu q H2 hq e2 h2 => ⟨as.map V.ref, (t.mono e2).at_, ?_, as ++ [q], ts ++ [u], (t.mono e2).add h2 hu, by simp [hn]⟩
    rw [List.length_map, t.len]
    exact sz_lt (by omega)
  · rintro H' ⟨as, ts, t, hn⟩
    exact k D as ts H' (fresh_back e1 hD) ⟨fresh_back e1 hD, e1.trans t.ex, t.at_, t.ta, t.ok⟩ hn
/-- [e for x in tuple] -/
theorem el_lcT {α : Type} {a : Addr} {xs : List V} {j : Nat} {vs : List Nat} (ts : List α) (h : α → V) (hl : Ev t1 σ H (.ref a)) (hx : SqT K H a xs) (hz : xs.length ≤ 40000) (hn : xs.length = ts.length) (hw : ∀ x, wipe ((wipe σ vs).set j (some x)) vs = wipe σ vs)
    (he : ∀ (i : Nat) (x : V) (b : α) H1, Ex H H1 → xs[i]? = some x → ts[i]? = some b → Ev te ((wipe σ vs).set j (some x)) H1 (h b)) : EvL (tLc (iTup K t1) (gName j) tYes te vs) σ H (ts.map h) := fun H0 e0 Q q =>
  hl H0 e0 _ fun H1 e1 => ⟨a, rfl, ⟨xs, ex_t (e0.trans e1) hx⟩, fun Dl hD => lc_it (walk_tup (K := K) (a := a) (xs := xs)) (fun i H' => Ex H1 H' ∧ H' Dl = some (.lst ((ts.map h).take i))) ⟨Ex.new hD, upd_same⟩ (fun i H' _ p => ex_t ((e0.trans e1).trans p.1) hx) (fun i x H' H2 hi p y => by
    obtain ⟨rfl, hx'⟩ := y
    refine ⟨hw _, ty_go ?_⟩
    rw [if_pos rfl]
    have hb : ts[i]? = some (ts[i]'(by omega)) := List.getElem?_eq_getElem _
    refine he i x _ H1 (e0.trans e1) hx' hb _ p.1 _ fun H3 e3 => ⟨_, e3 _ _ p.2, ?_, (p.1.trans e3).mut hD, ?_⟩
    · rw [List.length_take]; exact sz_lt (by omega)
    · rw [take_succ_of (xs := ts.map h) (x := h (ts[i]'(by omega))) (by rw [List.getElem?_map, hb]; rfl)]
      exact upd_same) (fun H' p => by
    have hp := p.2
    rw [List.take_of_length_le (by rw [List.length_map]; omega)] at hp
    exact q Dl H' (fresh_back e1 hD) (e1.trans p.1) hp)⟩
theorem q_forZN {b : Addr} {xs ys : List V} (h1 : EvL t1 σ H xs) (h2 : Ev t2 σ H (.ref b)) (hy : SqL K H b ys) (hl : xs.length = ys.length) (Pv : Addr → Nat → L2.St → Hp → Prop) (h0 : ∀ p H1, Ex H H1 → H1 p = some (.lst xs) → Pv p 0 σ H1) (hq : ∀ p i σ H, Pv p i σ H → SqL K H p xs ∧ SqL K H b ys)
    (hs : ∀ (p : Addr) (i : Nat) (x y : V) (T : Addr) (σ : L2.St) (H : Hp), xs[i]? = some x → ys[i]? = some y → Pv p i σ H → H T = none → g (.ref T) σ (upd H T (.tup [x, y])) fun σ2 H2 => tu { D with nx := Pv p (i + 1), ct := Pv p (i + 1), bk := tz D } σ2 H2) (hd : ∀ p σ H, Pv p xs.length σ H → tz D σ H) :
    tSeq (tFor (iZip K (tCons t1 (tCons t2 tNil))) g tu) tz D σ H :=
  h1 H (Ex.refl H) _ fun p H1 _ e1 hp => h2 H1 e1 _ fun H2 e2 => ⟨p, b, xs, ys, rfl, sq_of (e2 _ _ hp), ex_l (e1.trans e2) hy, RZ.for_zipL (D := { D with nx := tz D }) hl (Pv p) (h0 p H2 (e1.trans e2) (e2 _ _ hp)) (hq p) (hs p) (hd p)⟩
theorem rc_isC {C p dx : Addr} {fs : List (Str × V)} (h : H p = some (.ins C dx fs)) : RC (rIsC C) [.ref p, .ref C] H (.bl true) := fun H1 e _ q => ⟨p, dx, fs, rfl, e _ _ h, q H1 (Ex.refl H1)⟩
theorem c_makeL {C : Addr} {sp : Sp} {v : V} {xs : List V} {E : XK} {Q : VK} (h1 : Ev t1 σ H v) (h2 : EvL t2 σ H xs)
    (hs : ∀ q H1, H q = none → Ex H H1 → H1 q = some (.lst xs) → ∀ x dx, H1 x = none → H1 dx = none → dx ≠ x → sp [.ref x, v, .ref q] (upd (upd H1 dx (.own x)) x (.ins C dx [])) (fun v' H2 => v' = .non ∧ Q (.ref x) H2) E) : tMake C sp [] E (tCons t1 (tCons t2 tNil)) σ H Q :=
  h1 H (Ex.refl H) _ fun H1 e1 => h2 H1 e1 _ fun q H2 hq e2 h => hs q H2 (fresh_back e1 hq) (e1.trans e2) h
theorem c_cat {a : Addr} {xs : List V} {Q : VK} (ha : Ev t1 σ H (.ref a)) (hx : H a = some (.lst xs)) (hb : ∀ H1 (Q' : VK), Ex H H1 → (∀ b ys H2, H1 b = none → Ex H1 H2 → H2 b = some (.lst ys) → xs.length + ys.length ≤ 100000 → (∀ p, H2 p = none → Q (.ref p) (upd H2 p (.lst (xs ++ ys)))) → Q' (.ref b) H2) → t2 σ H1 Q') : tOp rCat t1 t2 σ H Q :=
  ha H (Ex.refl H) _ fun H1 e1 => hb H1 _ e1 fun b ys H2 _ e2 h2 hz kk => ⟨a, b, xs, ys, rfl, rfl, e2 _ _ (e1 _ _ hx), h2, sz_of hz, kk⟩
theorem paired_app {α β : Type} {R : α → β → Prop} : ∀ {as cs : List α} {bs ds : List β}, Paired R as bs → Paired R cs ds → Paired R (as ++ cs) (bs ++ ds)
  | _, _, _, _, .nil, h => h
  | _, _, _, _, .cons r t, h => .cons r (paired_app t h)
end

/-! ### errors caught -/
inductive Err
  | net | place | side | text
  deriving DecidableEq
def Ads.err (A : Ads) : Err → Addr
  | .net => A.eNoNet
  | .place => A.eNoPlace
  | .side => A.eNoSide
  | .text => A.eNoText
/-- what is asked of our error classes -/
structure ErrC (K : PySem.W.Frag) (A : Ads) : Prop where
  cc : ∀ x, ExcC K (A.err x)
  own : ∀ x, PySem.W.exmOne K (.ref (A.err x)) (.ref (A.err x)) = some true
  one : ∀ x y, PySem.W.kitOne K (.ref (A.err x)) (.ref (A.err y)) = some (decide (x = y))
  wall : ∀ x, PySem.W.kitOne K (.ref (A.err x)) (.ref A.eWallError) = some true
  val : ∀ x, PySem.W.kitOne K (.ref (A.err x)) (.type "ValueError") = some true
theorem kit_ref {K : PySem.W.Frag} {a b : Addr} {r : Bool} (hc : PySem.W.isClsIn K b = true) (ht : PySem.W.typeIn K (.ref b) = some (.type "type")) (hs : PySem.W.subIn K (.ref a) (.ref b) = some r) (hsf : PySem.W.subIn K (.ref b) (.ref b) = some true) : PySem.W.kitOne K (.ref a) (.ref b) = some r := by
  show (if ((Value.ref a) == (Value.ref b)) = true then some true else PySem.W.kitCls K (.ref a) (.ref b)) = some r
  by_cases q : ((Value.ref a) == (Value.ref b)) = true
  · rw [if_pos q]
    have e : a = b := Value.ref.inj (beq_iff_eq.mp q)
    rw [e, hsf] at hs
    exact hs
  · rw [if_neg q]
    have hc' : (PySem.W.clsIn K b).isSome = true := hc
    show (if ((PySem.W.clsIn K b).isSome && PySem.W.typeIn K (.ref b) == some (.type "type")) = true then PySem.W.subIn K (.ref a) (.ref b) else none) = some r
    have e : ((true && some (Value.type "type") == some (Value.type "type")) = true) := by simp
    rw [hc', ht, if_pos e]
    exact hs
theorem kit_val {K : PySem.W.Frag} {a : Addr} (hs : PySem.W.subIn K (.ref a) (.type "ValueError") = some true) : PySem.W.kitOne K (.ref a) (.type "ValueError") = some true := by
  show (if ((Value.ref a) == (Value.type "ValueError")) = true then some true else (if PySem.W.kitMeta "ValueError" = true then PySem.W.subIn K (.ref a) (.type "ValueError") else none)) = some true
  rw [show PySem.W.kitMeta "ValueError" = true by decide +kernel, if_pos rfl, hs]
  by_cases q : ((Value.ref a) == (Value.type "ValueError")) = true
  · rw [if_pos q]
  · rw [if_neg q]
theorem exm_own {K : PySem.W.Frag} {a : Addr} (hb : PySem.W.subIn K (.ref a) (.type "BaseException") = some true) (hc : PySem.W.isClsIn K a = true) (ht : PySem.W.typeIn K (.ref a) = some (.type "type")) (hsf : PySem.W.subIn K (.ref a) (.ref a) = some true) : PySem.W.exmOne K (.ref a) (.ref a) = some true := by
  have hc' : (PySem.W.clsIn K a).isSome = true := hc
  show (if (PySem.W.subIn K (.ref a) (.type "BaseException") == some true) = true then (if ((PySem.W.clsIn K a).isSome && PySem.W.typeIn K (.ref a) == some (.type "type")) = true then PySem.W.subIn K (.ref a) (.ref a) else none) else none) = some true
  have e : ((true && some (Value.type "type") == some (Value.type "type")) = true) := by simp
  have e2 : ((some true == some true) = true) := by simp
  rw [hb, hc', ht, if_pos e2, if_pos e, hsf]
def rIsET (K : PySem.W.Frag) (D a : Addr) : RCt := fun xs H Q => ∃ (tp : Addr) (cs : List V) (us : List Value) (b : Bool), xs = [V.ref a, V.ref tp] ∧ H tp = some (.tup cs) ∧ Paired ClsV cs us ∧ PySem.W.kitAny K (.ref D) us = some b ∧ Q (.bl b) H
section
variable {X : Cx}
/-- isinstance(e, (c, ..)), e the error that the suite holds -/
theorem call_isET {a D : Addr} {oe : Obj} {pn : List (Addr × Obj)} (C : ExcC X.K D) (hz : Zc (.ref D) none oe) (hf : ∃ vs, oe.data = .fields vs) : CallR (X.suite a ((a, oe) :: pn)) (.builtin "isinstance") (rIsET X.K D a) := fun pins s σ H xs us Q I r h => by
  obtain ⟨tp, cs, ws, b, hxs, hT, k, ek, q⟩ := h
  subst hxs
  obtain ⟨u1, u2, hu, r1, r2⟩ := vals2 r
  subst hu
  have h2 : u2 = Value.ref tp := r2
  have h1 : u1 = Value.ref a := r1
  subst h1 h2
  have got := (I.pin (a, oe) (List.mem_append_left _ (List.mem_cons_self ..))).1
  have J : PySem.W.InstAt s.heap a oe D none := by
    obtain ⟨fs, efs⟩ := hf
    rcases oe with ⟨c1, c2, c3, c4⟩
    have z1 : c1 = Value.ref D := hz.1
    have z2 : c2 = none := hz.2
    have z3 : c3 = .fields fs := efs
    subst z1 z2 z3
    exact ⟨got, rfl, rfl, trivial⟩
  have lay := I.hok tp _ hT
  obtain ⟨_, its, rv, ob, g1, g2, n, g3⟩ := (show ObjOk X.prog X.w H s.heap tp (.tup cs) from lay)
  have same := ClsV.all k rv
  subst same
  rcases ob with ⟨d1, d2, d3, d4⟩
  have y2 : d1 = _ := g2
  have y3 : d3 = _ := g3
  subst y2 y3
  exact PySem.W.kia_tup (PySem.W.handS_kitx_exc C.hg C.hk C.hs C.hd C.ha C.hn C.ht C.hm) I.kIn J g1 ek (fun z => nomatch z) fun tk => ⟨.bl b, H, I.tok tk, rfl, q⟩
/-- an error's wish that holds at any slots -/
def anyS (n : Nat) (W : WX) : XK := fun cls d H => ∀ σ : L2.St, σ.length = n → W cls d σ H
theorem passL {W : WX} (tk : L2N.Takes X W) : Passes (L2N.CX X.prog X.w) X (anyS X.N.length W) := fun _ _ _ _ e s' I c => tk e s' (L2N.XE.of_call I (fun _ _ _ h => h _ I.len) c)
/-- a suite for errors of one class alone -/
def tsOnly (c : Addr) (ts : Addr → TS) : Addr → Value → Option Addr → TS := fun a cls d D σ H => cls = .ref c ∧ d = none ∧ ts a D σ H
theorem pss_only {c a : Addr} {ts : Addr → TS} {cls : Value} {d : Option Addr} {oe : Obj} {l : List Stmt} (hz : L2N.Zn cls d oe) (h : Zc (.ref c) none oe → PSs X l (ts a)) : PSs X l (tsOnly c ts a cls d) := by
  refine ⟨fun pins s σ H D I hw => ?_⟩
  obtain ⟨e1, e2, hw⟩ := hw
  subst e1 e2
  exact (h hz.zc).run pins s σ H D I hw
end
/-- try: .. except C as e: .. -/
def tTryE (K : PySem.W.Frag) (c : Addr) (i n : Nat) (tb : XK → TS) (ts : Addr → TS) : TS := fun D σ H => tb (anyS n (wAs K (.ref c) i (tsOnly c ts) (fun _ _ _ _ => False) D)) D σ H
section
variable {K : PySem.W.Frag} {A : Ads} {σ : L2.St} {H : Hp} {D : Ends} {tz : TS}
/-- where the suite ends the def -/
theorem q_tryE {x : Err} {i n : Nat} {tb : XK → TS} {ts : Addr → TS} (ec : ErrC K A) (hs : ∀ (D' : Ends) (a : Addr) (σ' : L2.St) (H' : Hp), D'.rt = D.rt → σ'.length = n → H' a = none → Ex H H' → ts a D' (σ'.set i (some (.ref a))) H')
    (h : ∀ E : XK, (∀ H', Ex H H' → E (.ref (A.err x)) none H') → tb E { D with nx := tz D } σ H) : tSeq (tTryE K (A.err x) i n tb ts) tz D σ H :=
  h _ fun H' e σ' hn => ⟨true, ec.own x, fun _ a ha => ⟨rfl, rfl, hs _ a σ' H' rfl hn ha e⟩, fun q => nomatch q⟩
theorem rc_isE {x : Err} {a : Addr} {cv : Value} {c : V} {b : Bool} (hc : ∀ u, RelV c u → u = cv) (h : PySem.W.kitOne K (.ref (A.err x)) cv = some b) : RC (rIsE K (A.err x) a) [.ref a, c] H (.bl b) := fun H1 _ _ q => ⟨c, cv, b, rfl, hc, h, q H1 (Ex.refl H1)⟩
theorem rc_isET {x y1 y2 y3 : Err} {a tp : Addr} (ec : ErrC K A) (h : H tp = some (.tup [.ref (A.err y1), .ref (A.err y2), .ref (A.err y3)])) (n1 : x ≠ y1) (n2 : x ≠ y2) (n3 : x ≠ y3) : RC (rIsET K (A.err x) a) [.ref a, .ref tp] H (.bl false) := fun H1 e _ q =>
  ⟨tp, _, _, false, rfl, e _ _ h, .cons (.own _) (.cons (.own _) (.cons (.own _) .nil)), kitAny_cons (b := false) (by rw [ec.one, decide_eq_false n1]) (fun _ => kitAny_cons (b := false) (by rw [ec.one, decide_eq_false n2]) (fun _ => kitAny_cons (b := false) (by rw [ec.one, decide_eq_false n3]) (fun _ => kitAny_nil) (fun z => nomatch z)) (fun z => nomatch z)) (fun z => nomatch z), q H1 (Ex.refl H1)⟩
theorem ev_cbU {r : RCt} {ta tb : TE} {v z : V} {xs : List V} (ha : Ev ta σ H v) (hb : EvU tb σ H xs) (hr : ∀ p H1, H1 p = some (.tup xs) → Ex H H1 → RC r [v, .ref p] H1 z) : Ev (tCB r (tCons ta (tCons tb tNil))) σ H z := fun H1 e Q q =>
  ha H1 e _ fun H2 e2 => hb H2 (e.trans e2) _ fun p H3 _ e3 h3 => hr p H3 h3 ((e.trans e2).trans e3) H3 (Ex.refl H3) _ fun H4 e4 => q H4 ((e2.trans e3).trans e4)
end

/-! ### a list comprehension whose element may raise -/
section
variable {X : Cx} {E : XK} {C : Addr} {pins : List (Addr × Obj)} {σ : L2.St} {H : Hp} {s : Shared} {u : Value}
theorem note_same {e : Value} {e1 e2 : Env} (h : e1.frame = e2.frame) : noteFrame e e1 = noteFrame e e2 := by
  unfold noteFrame PySem.frameOf
  rw [h]
/-- an error that came out of a block whose names stand at C: in flight | held at our frame -/
def XB (fly : Bool) (X : Cx) (E : XK) (C : Addr) (u : Value) (s' : Shared) : Prop :=
  ∃ (a : Addr) (B : Heap) (sI : Shared) (pins : List (Addr × Obj)) (σ : L2.St) (H : Hp) (cls : Value) (d : Option Addr), u = .ref a ∧ Inv X pins σ H sI ∧ (∀ b o, sI.heap.get? b = some o → b ∉ frs X.stack → B.get? b = some o) ∧ sI.heap.UpToSlots s'.heap ∧
    (if fly = true then HandSPX.FlyingZ B X.stack a (Zc cls d) s'.heap else HandSPX.HeldZ B X.stack a (Zc cls d) X.env.locals s'.heap) ∧ H a = none ∧ s'.os = sI.os ∧ AllBare s'.gens ∧ E cls d H ∧ FpOk X pins H C ∧ ∃ m, sI.heap.Ns C m
theorem c_notFr (hs : X.stack = X.env :: X.outer) (hf : X.env.frame = some X.env.locals) (f : FpOk X pins H C) : C ∉ frs X.stack := by
  rw [hs]
  unfold frs
  rw [List.filterMap_cons, hf]
  intro h
  rcases List.mem_cons.mp h with q | q
  · exact f.2.1 q
  · exact f.2.2.1 q
theorem xb_call (hs : X.stack = X.env :: X.outer) (hf : X.env.frame = some X.env.locals) (I : Inv X pins σ H s) (c : L2.CX X.prog X.w X.stack H s E u s1) (f : FpOk X pins H C) {m : Str → Option Value} (hn : s.heap.Ns C m) : XB true X E C u s1 := by
  obtain ⟨a, B, H1, cls, d, hu, fl, hok, ub, na, os, ag, hE⟩ := c
  have hC := c_notFr hs hf f
  obtain ⟨o, es, ep, ho, hr⟩ := hn
  have hCB : B.get? C = some o := ub.keep C o ho f.1 hC
  have f1 : FpOk X pins H1 C := ⟨ub.free C o ho f.1, f.2⟩
  obtain ⟨G, y1, y2⟩ := L2.restrict s1.heap fun b => (B.get? b).isSome || decide (b ∈ frs X.stack)
  have inB : ∀ b q, B.get? b = some q → G.get? b = some q := fun b q z => (y1 b (by rw [z]; rfl)).trans (fl.1 b q z)
  have inF : ∀ b, b ∈ frs X.stack → G.get? b = s1.heap.get? b := fun b z => y1 b (by rw [decide_eq_true z, Bool.or_true])
  have ofG : ∀ b q, G.get? b = some q → s1.heap.get? b = some q ∧ ((B.get? b).isSome = true ∨ b ∈ frs X.stack) := fun b q z => by
    by_cases t : ((B.get? b).isSome || decide (b ∈ frs X.stack)) = true
    · rw [y1 b t] at z
      refine ⟨z, ?_⟩
      rcases Bool.or_eq_true_iff.mp t with t | t
      · exact .inl t
      · exact .inr (of_decide_eq_true t)
    · rw [y2 b (Bool.eq_false_iff.mpr t)] at z
      cases z
  have J : Inv X pins σ H1 { s with heap := G, gens := s1.gens, drawn := s1.drawn, toks := s1.toks } := by
    refine I.call (ch := []) ⟨fun b q z n hb _ => inB b q (ub.keep b q z n hb), fun b q z _ hb _ => ?_, fun b q z n _ => ub.free b q z n, fun b q z _ => ?_, ub.tups, ub.frzs, ub.tbls⟩ (hok.kept inB) ag (fun _ t => nomatch t)
    · obtain ⟨sl, z⟩ := ub.slot b q z hb
      refine ⟨sl, ?_⟩
      rw [inF b hb]; exact z
    · by_cases hb : b ∈ frs X.stack
      · obtain ⟨sl, t⟩ := ub.slot b q z hb
        refine ⟨{ q with slots := sl }, ?_⟩
        rw [inF b hb]; exact t
      · obtain ⟨q1, t⟩ := ub.there b q z hb
        exact ⟨q1, inB b q1 t⟩
  refine ⟨a, B, _, pins, σ, H1, cls, d, hu, J, fun b q z hb => ?_, Heap.UpToSlots.of_keeps fun b q z => (ofG b q z).1, ?_, na, os, ag, hE, f1, m, o, es, ep, inB C o hCB, hr⟩
  · obtain ⟨z1, z2⟩ := ofG b q z
    rcases z2 with t | t
    · obtain ⟨q1, t⟩ := Option.isSome_iff_exists.mp t
      have t2 := fl.1 b q1 t
      rw [z1] at t2
      cases t2
      exact t
    · exact absurd t hb
  · rw [if_pos rfl]; exact fl
/-- the block notes it -/
theorem xb_note {E1 : Value → Shared → Prop} {env1 : Env} (hs : X.stack = X.env :: X.outer) (hf : X.env.frame = some X.env.locals) (he : env1.frame = X.env.frame) (x : XB true X E C u s) :
    wpAny (model X.prog X.w) X.A (noteFrame u env1) (fun _ s2 => XB false X E C u s2) E1 s := by
  obtain ⟨a, B, sI, pins, σ, H, cls, d, hu, I, nb, up, fl, na, os, ag, hE, f, hn⟩ := x
  subst hu
  rw [if_pos rfl, hs] at fl
  rw [note_same he]
  have hfr : X.A.frames = some (X.env :: X.outer) := I.ok.frames.trans (by rw [hs])
  refine HandSPX.looks_onZ Zc.steady hfr hf fl fun h1 hh up1 => ⟨a, B, sI, pins, σ, H, cls, d, rfl, I, nb, up.trans up1, ?_, na, os, ag, hE, f, hn⟩
  rw [if_neg (by decide), hs]
  exact hh
/-- the block is let go, the error goes on -/
theorem xb_fails {cenv : Env} (hs : X.stack = X.env :: X.outer) (hf : X.env.frame = some X.env.locals) (tk : L2.Takes X fun cls d _ H => E cls d H) (hl : cenv.locals = C) (hcf : cenv.frame = X.env.frame) (x : XB false X E C u s) : CompFails (model X.prog X.w) X.A X.xe cenv u s := by
  obtain ⟨a, B, sI, pins, σ, H, cls, d, hu, I, nb, up, hh, na, os, ag, hE, f, m, o, es, ep, ho, hr⟩ := x
  subst hu hl
  rw [if_neg (by decide)] at hh
  obtain ⟨k1, k2, k3, k4⟩ := hh
  have hC := c_notFr hs hf f
  have hCB := nb _ o ho hC
  refine ⟨m, ⟨o, es, ep, k1 _ o hCB, hr⟩, fun h1 m1 _ sb => ?_⟩
  obtain ⟨B2, z1, z2⟩ := L2.restrict B fun b => decide (b ≠ cenv.locals)
  obtain ⟨G, g1, g2⟩ := L2.restrict sI.heap fun b => decide (b ≠ cenv.locals)
  have b2 : ∀ b q, B2.get? b = some q → B.get? b = some q ∧ b ≠ cenv.locals := fun b q t => by
    by_cases e : b = cenv.locals
    · rw [z2 b (by rw [e]; simp)] at t; cases t
    · rw [z1 b (decide_eq_true e)] at t; exact ⟨t, e⟩
  have gg : ∀ b q, G.get? b = some q → sI.heap.get? b = some q ∧ b ≠ cenv.locals := fun b q t => by
    by_cases e : b = cenv.locals
    · rw [g2 b (by rw [e]; simp)] at t; cases t
    · rw [g1 b (decide_eq_true e)] at t; exact ⟨t, e⟩
  have J : Inv X pins σ H { sI with heap := G, toks := sI.toks } := I.turned (it := cenv.locals) (fun b q e t => (g1 b (decide_eq_true e)).trans t) f.1 f.2.1 f.2.2.2.1 f.2.2.2.2.1 f.2.2.2.2.2
  have B2n : ∀ b, B.get? b = none → B2.get? b = none := fun b t => by
    cases q : B2.get? b with
    | none => rfl
    | some o1 => have := (b2 b o1 q).1; rw [t] at this; cases this
  have other : ∀ b, B.get? b = none → b ≠ cenv.locals := fun b t e => by rw [e, hCB] at t; cases t
  have frame : h1.FunFrames B2 X.stack := by
    have key : ∀ l : List Env, s.heap.FunFrames B l → h1.FunFrames B2 l := fun l => by
      induction l with
      | nil => intro _; trivial
      | cons e r ih =>
        rintro ⟨t1, ⟨L, q, t2, t3, t4, t5⟩, t6⟩
        exact ⟨t1, ⟨L, q, t2, B2n L t3, (sb.2 L (other L t3)).trans t4, t5⟩, ih t6⟩
    exact key X.stack k3
  obtain ⟨oe, vs, T, oT, ts, he, hz, hd, hv1, hnT, hTe, hT, hdT, h3⟩ := k4
  have he1 : h1.get? a = some oe := (sb.2 a (other a k2)).trans he
  have hT1 : h1.get? T = some oT := (sb.2 T (other T hnT)).trans hT
  have held : HandSPX.HeldZ B2 X.stack a (Zc cls d) X.env.locals h1 := ⟨fun b q t => (sb.2 b (b2 b q t).2).trans (k1 b q (b2 b q t).1), B2n a k2, frame, oe, vs, T, oT, ts, he1, hz, hd, hv1, B2n T hnT, hTe, hT1, hdT, h3⟩
  unfold PySem.passOn
  refine wpAny_bind (wpAny_field he1 hd hv1 ?_)
  have ne : ¬ ((Value.ref T == Value.none) = true) := by simp
  rw [if_neg ne, hcf, hf]
  have go : wpAny (model X.prog X.w) X.A (setFlight (.ref a) (some X.env.locals)) (fun _ s2 => wpAny (model X.prog X.w) X.A (throw (.ref a) : Sem Value) (fun _ _ => False) X.xe s2) X.xe { s with heap := h1 } :=
    HandSPX.setFlight_onZ (s := { s with heap := h1 }) held fun h2 hh2 up2 => wpAny_throw (tk _ _ ⟨a, B2, _, pins, σ, H, cls, d, rfl, J, fun b q t hb => ?_, fun b q t hnf => ?_, .inr (.inr hh2), na, os, ag, hE⟩)
  · first
      | exact wpAny_bind (wpAny_pure (wpAny_bind go))
      | exact wpAny_bind go
  · obtain ⟨t1, t2⟩ := gg b q t
    exact (z1 b (decide_eq_true t2)).trans (nb b q t1 hb)
  · obtain ⟨t1, t2⟩ := gg b q t
    obtain ⟨sl, t3⟩ := up b q t1 hnf
    have t4 : h1.get? b = some { q with slots := sl } := (sb.2 b t2).trans t3
    obtain ⟨sl2, t5⟩ := up2 b _ t4 hnf
    exact ⟨sl2, t5⟩
end
section
variable {X : Cx} {E : XK}
/-- the block's context, with a wish for its errors -/
abbrev blkE (X : Cx) (s : Shared) (H : Hp) (scope : Scope) (C : Addr) (cl : List (Str × Addr)) (fp : List Addr) (xe : Value → Shared → Prop) : Cx := (X.blk s H scope (compEnvC scope cl C X.env) fp).tr [] xe
theorem ps_setLcX {i : Nat} {y : Str} {py : Pos} {elt tg iter : Expr} {scope : Scope} {own : List (Str × Nat)} {pos spos : Pos} {wi : TI} {g : TG} {te : TE} (hs : X.stack = X.env :: X.outer) (hf : X.env.frame = some X.env.locals) (tk : L2.Takes X fun cls d _ H => E cls d H) (hc : X.calm = true) (hN : X.N.Nodup) (hy : X.N[i]? = some y)
    (hyl : X.env.scope.names.lookup y = some .local) (hsw : swapsWith (.ListComp elt [⟨tg, iter, [], 0⟩] scope pos) (some (.Name y py)) spos.line X.env = pure true) (hi : PI X tg iter wi) (ok : BlkOk X.N X.env.scope scope own)
    (hg : ∀ s H C cl fp xe, PG (blkE X s H scope C cl fp xe) tg g) (he : ∀ s H C cl fp xe, Passes (L2.CX X.prog X.w) (blkE X s H scope C cl fp xe) E → PE (blkE X s H scope C cl fp xe) elt te) (hfo : ∀ x, foldedSetIterable iter X.env x = pure x := by intro _; rfl) :
    PS X (.Assign [.Name y py] (.ListComp elt [⟨tg, iter, [], 0⟩] scope pos) spos) (tAsg (tLc wi g tYes te (own.map (·.2))) (gName i)) := by
  refine ⟨fun pins s σ H D I hw => ?_⟩
  have cellsOk : ∀ z ∈ scope.names, z.2 = .free → ∃ c, X.env.cells.lookup z.1 = some c := fun z hz e => I.ok.has _ ((ok.free z hz e).imp id id)
  rw [exec_Assign_Name_used _ _ _ _ hsw]
  refine wpAny_bind (wpAny_standAt (wpAny_bind ?_))
  have hw : tLc wi g tYes te (own.map (·.2)) σ H (fun x G => gName i x σ G D.nx) := hw
  show wpAny _ X.A (do let _ ← comprehension (.ListComp elt [⟨tg, iter, [], 0⟩] scope pos) scope X.env (firstIterPos [⟨tg, iter, [], 0⟩] pos) (newList []) false (eval iter X.env) (some (assign (.Name y py) X.env))) _ _ s
  refine wpAny_bind (wpAny_mono (comprehension_at (use := some (assign (.Name y py) X.env)) (Q := fun _ t => SP X pins D .next t) rfl hfo (closure_ok cellsOk) ok.kind (fun z hz e => (ok.uniq z hz).trans (congrArg some e)) (thn (hi.run pins s σ H _ I hw) fun xv s1 hx => thn hx fun itv s2 h2 => ?_)) (fun _ t q => wpAny_pure (wpAny_pure q)) fun _ _ q => q)
  obtain ⟨it, fp, tn, J, H2, rfl, I2, T, st2, f2, q⟩ := h2
  refine wpAny_newObj_type (newEnv_comp ?_) (by show 0 ≤ sizeLine; decide)
  generalize hL : s2.heap.objs.size = L
  have hLn : H2 L = none := I2.hok.fresh (Nat.le_of_eq hL)
  obtain ⟨W, ⟨m0, w0⟩, turn⟩ := q L hLn
  generalize hs3 : ({ s2 with heap := s2.heap.push { cls := .type "list", data := .seq ([] : List Value).toArray } } : Shared) = s3
  have e3 : s3.heap = s2.heap.push { cls := .type "list", data := .seq ([] : List Value).toArray } := hs3 ▸ rfl
  have I3 : Inv X pins σ (upd H2 L (.lst [])) s3 := by
    subst hs3
    refine I2.laid (t' := s2.toks) (fun b o z => Heap.get?_push_of_some _ z) (Nat.le_of_eq hL) ⟨Nat.zero_le _, [], 0, .nil, ?_⟩
    subst hL
    exact Heap.get?_push_size _ rfl
  have lt2 : ∀ b ∈ fp, b < s2.heap.objs.size := fun b hb => let ⟨_, z, _⟩ := T.obj _ _ st2 b hb; Heap.lt_size z
  have f3 : ∀ b ∈ fp, FpOk X pins (upd H2 L (.lst [])) b ∧ b < s3.heap.objs.size := fun b hb => by
    refine ⟨⟨(upd_ne (fun z => ?_)).trans (f2 b hb).1, (f2 b hb).2⟩, ?_⟩
    · have := lt2 b hb
      rw [hL, z] at this
      exact Nat.lt_irrefl _ this
    · rw [e3, Heap.size_push]
      exact Nat.lt_succ_of_lt (lt2 b hb)
  have st3 : tn 0 s3.heap := T.keep _ _ _ st2 fun b _ o z => by rw [e3]; exact Heap.get?_push_of_some _ z
  have I4 := block_start I3 ok hN f3
  generalize hcl : cellsFrom (s3.heap.objs.size + 1) scope.names (cloFrom X.env.cells scope.names []) = cl at I4
  generalize hH3 : upd H2 L (.lst []) = H3 at I3 I4 w0 f3
  show codeAny _ _ (.compStart (.ListComp elt [⟨tg, iter, [], 0⟩] scope pos) 0 (.ref it) (.ref L) (compEnvC scope cl s3.heap.objs.size X.env)) (compEnds (model X.prog X.w) X.A X.xe (some (assign (.Name y py) X.env)) (fun _ t => SP X pins D .next t) (.ref L) (compEnvC scope cl s3.heap.objs.size X.env)) { s3 with heap := pushCells (s3.heap.push { cls := .type "dict", data := .dict #[] }) scope.names }
  have cL : (compEnvC scope cl s3.heap.objs.size X.env).locals = s3.heap.objs.size := rfl
  have cF : (compEnvC scope cl s3.heap.objs.size X.env).frame = X.env.frame := rfl
  -- the wish for the block's errors
  let R : Result → Shared → Prop := compEnds (model X.prog X.w) X.A X.xe (some (assign (.Name y py) X.env)) (fun _ t => SP X pins D .next t) (.ref L) (compEnvC scope cl s3.heap.objs.size X.env)
  let xe1 : Value → Shared → Prop := notedBy (model X.prog X.w) X.A (compEnvC scope cl s3.heap.objs.size X.env) fun e t => R (.error e) t
  have I4' : Inv (blkE X s3 H3 scope s3.heap.objs.size cl fp xe1) [] (wipe σ (own.map (·.2))) H3 { s3 with heap := pushCells (s3.heap.push { cls := .type "dict", data := .dict #[] }) scope.names } := I4.toTry xe1
  have nfp : ∀ b ∈ fp, H3 b = none := fun b hb => (f3 b hb).1.1
  -- back in the def
  have back : ∀ {pins1 σ1 H1 t}, Inv (blkE X s3 H3 scope s3.heap.objs.size cl fp xe1) pins1 σ1 H1 t → Inv X pins σ H1 t ∧ FpOk X pins H1 s3.heap.objs.size ∧ ∃ m, t.heap.Ns s3.heap.objs.size m := fun {pins1 σ1 H1 t} I1 => by
    refine ⟨I3.call' (ch := fp) I1.os I1.base I1.hok I1.bare fun b hb => ⟨(f3 b hb).1.2.2.2.1, (f3 b hb).1.2.1, (f3 b hb).1.2.2.2.2.1, (f3 b hb).1.2.2.2.2.2⟩, I3.fpOk (Nat.le_refl _) I1.free, ?_⟩
    obtain ⟨m, hn, _⟩ := I1.loc
    exact ⟨m, hn⟩
  have pss : Passes (L2.CX X.prog X.w) (blkE X s3 H3 scope s3.heap.objs.size cl fp xe1) E := fun pins1 σ1 H1 t e t1 I1 c => by
    obtain ⟨J1, J2, m, J3⟩ := back I1
    exact wpAny_mono (xb_note hs hf cF (xb_call hs hf J1 c J2 J3)) (fun _ t2 x => xb_fails hs hf tk cL cF x) fun _ _ z => z
  have pg := hg s3 H3 s3.heap.objs.size cl fp xe1
  have pe := he s3 H3 s3.heap.objs.size cl fp xe1 pss
  generalize hs4 : ({ s3 with heap := pushCells (s3.heap.push { cls := .type "dict", data := .dict #[] }) scope.names } : Shared) = s4 at I4' ⊢
  have st4 : tn 0 s4.heap := T.keep _ _ _ st3 fun b _ o z => by subst hs4; exact pushCells_keeps _ _ _ _ (Heap.get?_push_of_some _ z)
  have stat : ∀ {σ1 : L2.St} {H1 : Hp} {t : Shared}, Inv (blkE X s3 H3 scope s3.heap.objs.size cl fp xe1) [] σ1 H1 t → (∀ b ∈ fp, H1 b = none) → ∀ b ∈ fp, FpOk (blkE X s3 H3 scope s3.heap.objs.size cl fp xe1) [] H1 b := fun {σ1 H1 t} I1 hn b hb =>
    ⟨hn b hb, (I1.ok.exf b hb).1, I1.ok.exfs b hb, .inl hb, fun z c e => (I1.ok.exf b hb).2 z c e, fun p hp => absurd (show p ∈ ([] : List (Addr × Obj)) ++ [] from hp) (by simp)⟩
  have loop : codeAny (model X.prog X.w) X.A (.compLoop (.ListComp elt [⟨tg, iter, [], 0⟩] scope pos) 0 (.ref it) (.ref L) (compEnvC scope cl s3.heap.objs.size X.env)) R s4 := by
    refine compLoop_any (fun n t => ∃ j H1, Inv (blkE X s3 H3 scope s3.heap.objs.size cl fp xe1) [] (wipe σ (own.map (·.2))) H1 t ∧ tn j t.heap ∧ (∀ b ∈ fp, H1 b = none) ∧ W j n H1) ?_ m0 ⟨0, H3, I4', st4, nfp, w0⟩
    rintro n s5 ⟨j, H5, I5, st5, n5, w5⟩
    rcases turn j n H5 w5 with ⟨stop, qq⟩ | ⟨go, Nx, hNx, step⟩
    · refine thnF (T.done (blkE X s3 H3 scope s3.heap.objs.size cl fp xe1) rfl rfl rfl hc j [] s5 _ H5 (fun _ _ => False) I5 (stat I5 n5) st5 stop) fun r s6 z => ?_
      obtain ⟨z, I6⟩ := z
      subst z
      obtain ⟨I7, f7, m, hn⟩ := back I6
      show wpAny _ _ (assign (.Name y py) X.env (.ref L)) _ _ _
      refine wpAny_assign_Name (store_ok2 (v := V.ref L) I7 hN hy (.inl hyl) rfl (fun s8 I8 hh => ?_) (.inr hyl))
      obtain ⟨b, sb, hb⟩ := hh
      have ne : s3.heap.objs.size ≠ b := by
        rcases hb with z | z
        · rw [z]; exact f7.2.1
        · exact fun e => f7.2.2.2.2.1 y b z e.symm
      refine ⟨m, hn.sameBut sb ne, fun h9 sb9 => ⟨_, H5, I8.turned (t' := s8.toks) (fun b o hb z => (sb9.2 b hb).trans z) f7.1 f7.2.1 f7.2.2.2.1 f7.2.2.2.2.1 f7.2.2.2.2.2, qq⟩⟩
    · refine thnF (T.item (blkE X s3 H3 scope s3.heap.objs.size cl fp xe1) rfl rfl rfl hc j [] s5 _ H5 (fun _ _ => False) I5 (stat I5 n5) st5 go) fun r s6 z => ?_
      obtain ⟨v, z, h6⟩ := z
      subst z
      refine thnF h6 fun _ s7 z7 => ?_
      obtain ⟨x, H7, I7, r7, y7, st7, n7⟩ := z7
      have P7 := I7.pinned (stat I7 n7) (T.obj _ _ st7)
      refine wpAny_mono (pg.run _ s7 _ H7 x v _ P7 r7 (step x H7 y7)) (fun _ s8 z8 => ?_) fun _ _ z => z
      obtain ⟨σ8, H8, I8, hw8, q8⟩ := z8
      refine wpAny_tests_nil ?_
      have q8 : te σ8 H8 fun y H4 => ∃ acc, H4 L = some (.lst acc) ∧ acc.length < sizeLine ∧ Nx (upd H4 L (.lst (acc ++ [y]))) := by
        have z : (if true = true then (te σ8 H8 fun y H4 => ∃ acc, H4 L = some (.lst acc) ∧ acc.length < sizeLine ∧ Nx (upd H4 L (.lst (acc ++ [y])))) else Nx H8) := q8
        rw [if_pos rfl] at z
        exact z
      rw [if_pos rfl]
      refine wpAny_mono (pe.run _ s8 σ8 H8 _ I8 q8) (fun zv s10 z10 => ?_) fun _ _ z => z
      obtain ⟨yv, H10, I10, r10, acc, hL10, hz10, nx⟩ := z10
      refine app_ok (X := blkE X s3 H3 scope s3.heap.objs.size cl fp xe1) I10 hL10 hz10 r10 fun s11 I11 => ?_
      obtain ⟨m1, hm1, w1⟩ := hNx _ nx
      have pin1 : ∀ b ∈ fp, ∀ o, s7.heap.get? b = some o → s11.heap.get? b = some o ∧ (upd H10 L (.lst (acc ++ [yv]))) b = none := fun b hb o z =>
        let t := I11.pin (b, o) (List.mem_append_right _ (List.mem_append_right _ (mem_pinsAt hb z)))
        ⟨t.1, t.2.1⟩
      have ln : (wipe σ (own.map (·.2))).length = σ8.length := by rw [← hw8, wipe_length]
      refine ⟨m1, hm1, j + 1, _, (I11.unpinned (pins := [])).weak ln (fun k v z => ?_), T.keep _ _ _ st7 fun b hb o z => (pin1 b hb o z).1, fun b hb => ?_, w1⟩
      · rw [← hw8] at z
        exact (wipe_some z).1
      · obtain ⟨o, z, _⟩ := T.obj _ _ st7 b hb
        exact (pin1 b hb o z).2
  exact codeAny_compStart_list loop (T.self X.A 0 _ _ _ st4 loop)
end

section
variable {P : Program} {w : World} {K : PySem.W.Frag} {mg : Str → Option Value} {base : Heap}
/-- a def that may raise -/
theorem fun_okX {x qual : Str} {st : Stmt} {f : Addr} {fd : FuncData} {N ps : List Str} {k : Nat} {sp : Sp} (F : Fun K x qual st f fd) (S : FnScope N ps (defScope st)) (len : ∀ vs H Q E, sp vs H Q E → vs.length = ps.length)
    (hb : ∀ (cdv : Value) (A : Around) (outer : List Env) (s : Shared) (H : Hp) (vs : List V) (Q : VK) (E : XK), Room k (A.deeper (envOfC qual (defScope st) s.heap.objs.size f cdv)) → sp vs H Q E →
      ∃ t, PSs (cxOf (L2.CX P w) P w K mg base N qual (defScope st) f cdv A outer s H E) (defBody st) t ∧ t { nx := fun _ H' => Q .non H', rt := Q } (start N vs) H) : FnOk P w K mg base (L2.CX P w) (k + 1) f fd ps sp := by
  obtain ⟨oc, od, kV, doc, pm, an, cdv, ct, osl, he, lk, hcd⟩ := F.ex
  subst he
  exact fn_of lk hcd S len fun A outer s H vs Q E hr hsp => hb cdv A outer s H vs Q E hr hsp
end
section
variable {X : Cx}
theorem cx_w {P : Program} {w : World} {outer : List Env} {H : Hp} {s s1 : Shared} {E : XK} {u : Value} (c : L2N.CX P w outer H s E u s1) : L2.CX P w outer H s E u s1 := by
  obtain ⟨a, B, H1, cls, d, hu, fl, r⟩ := c
  exact ⟨a, B, H1, cls, d, hu, L2H.flyingZ_imp (fun o z => z.zc) fl, r⟩
theorem passW {E : XK} (h : Passes (L2.CX X.prog X.w) X E) : Passes (L2N.CX X.prog X.w) X E := fun pins σ H s e s1 I c => h pins σ H s e s1 I (cx_w c)
theorem passX : Passes (L2.CX X.prog X.w) X E0 := fun _ _ _ _ _ _ _ h => by
  obtain ⟨_, _, _, _, _, _, _, _, _, _, _, _, z⟩ := h
  exact z.elim
theorem take0X : L2.Takes X (fun _ _ _ _ => False) := fun _ _ x => by
  obtain ⟨_, _, _, _, _, _, _, _, _, _, _, _, _, _, _, _, z⟩ := x
  exact z.elim
theorem passLX {W : WX} (tk : L2.Takes X W) : Passes (L2.CX X.prog X.w) X (anyS X.N.length W) := fun _ _ _ _ e s' I c => tk e s' (L2.XE.of_call I (fun _ _ _ h => h _ I.len) c)
theorem ExcT.pmk2 {x m : Str} {C : Addr} {j : Nat} {p p2 pos : Pos} (h : ExcT X.K X.mg x C) (hg : Gl X x) (hd : (x == ("__debug__" : Str)) = false := by decide) :
    L2.PMk X (.Call (.Name x p) [.Constant (.str m) j p2] [] pos) (fun _ H Q => Q (.ref C) none H) :=
  L2.pmk_own PySem.F.excBase_ValueError h.q h.gC h.kC (raises_own h.b h.t) hg hd
/-- X('m'), its record of six fields -/
theorem ExcT.pmk5 {x m : Str} {C : Addr} {j : Nat} {p p2 pos : Pos} (h : ExcT X.K X.mg x C) (hg : Gl X x) (hd : (x == ("__debug__" : Str)) = false := by decide) :
    L2H.PMk5 X (.Call (.Name x p) [.Constant (.str m) j p2] [] pos) (fun _ H Q => Q (.ref C) none H) := fun pins s σ H Q I hq => by
  refine wpAny_Call_Name_kw (ld_glob I hg h.gC ?_ hd)
  have arg : PA X [.Constant (.str m) j p2] (tCons (tC (.str m)) tNil) := pa_cons pe_str pa_nil
  refine PySem.W.callWith_K (h₀ := X.base) I.ok.mod.kin h.kC (thn (arg.run pos pins s σ H (fun vs H1 => vs = [V.str m] ∧ H = H1) I ⟨rfl, rfl⟩) fun us s1 got => ?_)
  obtain ⟨vs, H1, I1, r1, e1, e2⟩ := got
  subst e1 e2
  refine ⟨I1.kIn, ?_⟩
  cases r1 with
  | cons ru rn =>
    rename_i u us1
    cases rn
    show wpAny _ _ (call (.ref C) [u]) _ _ _
    have ob := exc_obj I1.kIn h.q
    obtain ⟨bm, N, nm, qn, bs, hdct, sn, sub, ab, col, dd, k0, k1, k2, k3, k5, mN, hC, hN, hni, T⟩ := ob
    refine wpAny_call_exc_subT PySem.F.excBase_ValueError T hC hN hni (fun h1 e hm => ?_) (by show 1 ≤ sizeLine; decide)
    exact L2H.mk_of5 I1 hm (raises_own h.b h.t) hq (I1.hok.gone hm.new)
theorem pss_onlyX {c a : Addr} {ts : Addr → TS} {cls : Value} {d : Option Addr} {oe : Obj} {l : List Stmt} (hz : Zc cls d oe) (h : Zc (.ref c) none oe → PSs X l (ts a)) : PSs X l (tsOnly c ts a cls d) := by
  refine ⟨fun pins s σ H D I hw => ?_⟩
  obtain ⟨e1, e2, hw⟩ := hw
  subst e1 e2
  exact (h hz).run pins s σ H D I hw
end
/-- try: return f(..) except C: raise C2(..) from None -/
def tTryN (K : PySem.W.Frag) (c c2 : Addr) (n : Nat) (E : XK) (tb : XK → TS) : TS := fun D σ H => tb (anyS n (wOnly K (.ref c) (fun _ _ _ _ _ H' => E (.ref c2) none H') (fun cls d _ H' => E cls d H') D)) D σ H

/-! ### values told by what holds of them -/
def PM (P : V → Hp → Prop) : Prop := ∀ v H H', Ex H H' → P v H → P v H'
def EvP (te : TE) (σ : L2.St) (H : Hp) (P : V → Hp → Prop) : Prop := ∀ H1, Ex H H1 → ∀ Q : VK, (∀ v H2, Ex H1 H2 → P v H2 → Q v H2) → te σ H1 Q
def EvPA (ta : TA) (σ : L2.St) (H : Hp) (n : Nat) (P : V → Hp → Prop) : Prop := ∀ H1, Ex H H1 → ∀ Q : List V → Hp → Prop, (∀ vs H2, Ex H1 H2 → vs.length = n → (∀ v ∈ vs, P v H2) → Q vs H2) → ta σ H1 Q
def EvPL (te : TE) (σ : L2.St) (H : Hp) (n : Nat) (P : V → Hp → Prop) : Prop := ∀ H1, Ex H H1 → ∀ Q : VK, (∀ p vs H2, H1 p = none → Ex H1 H2 → H2 p = some (.lst vs) → vs.length = n → (∀ v ∈ vs, P v H2) → Q (.ref p) H2) → te σ H1 Q
section
variable {K : PySem.W.Frag} {A : Ads} {σ : L2.St} {H H' : Hp} {D : Ends} {tz : TS} {v v0 v1 v2 : V} {te ti t0 t1 t2 : TE} {ta : TA} {P P0 : V → Hp → Prop} {n n' : Nat} {xs : List V}
theorem evp_v (h : Ev te σ H v) (hp : ∀ H1, Ex H H1 → P v H1) : EvP te σ H P := fun H1 e Q q => h H1 e Q fun H2 e2 => q v H2 e2 (hp H2 (e.trans e2))
theorem evp_U (h : EvU te σ H xs) (hp : ∀ p H1, H1 p = some (.tup xs) → Ex H H1 → P (.ref p) H1) : EvP te σ H P := fun H1 e Q q => h H1 e Q fun p H2 _ e2 h2 => q _ H2 e2 (hp p H2 h2 (e.trans e2))
theorem evp_L (h : EvL te σ H xs) (hp : ∀ p H1, H1 p = some (.lst xs) → Ex H H1 → P (.ref p) H1) : EvP te σ H P := fun H1 e Q q => h H1 e Q fun p H2 _ e2 h2 => q _ H2 e2 (hp p H2 h2 (e.trans e2))
theorem EvP.mono (e : Ex H H') (h : EvP te σ H P) : EvP te σ H' P := fun H1 e1 Q q => h H1 (e.trans e1) Q q
theorem evpa_nil : EvPA tNil σ H 0 P := fun H1 _ Q q => q [] H1 (Ex.refl H1) rfl fun _ h => nomatch h
theorem evpa_cons (pm : PM P) (h : EvP te σ H P) (hr : EvPA ta σ H n P) : EvPA (tCons te ta) σ H (n + 1) P := fun H1 e Q q =>
  h H1 e _ fun v H2 e2 hv => hr H2 (e.trans e2) _ fun vs H3 e3 hn hvs => q (v :: vs) H3 (e2.trans e3) (by rw [List.length_cons, hn]) fun x hx => by
    rcases List.mem_cons.mp hx with rfl | hx
    · exact pm _ _ _ e3 hv
    · exact hvs x hx
theorem evpl_lst (pm : PM P) (h : EvPA ta σ H n P) (hn : n ≤ 100000) : EvPL (tLst ta) σ H n P := fun H1 e Q q =>
  h H1 e _ fun vs H2 e2 hl hv => ⟨sz_of (by omega), fun p hp => q p vs _ (fresh_back e2 hp) (e2.mut (fresh_back e2 hp)) upd_same hl fun x hx => pm _ _ _ (Ex.new hp) (hv x hx)⟩
/-- an item of a list that was just put down -/
theorem evp_ix {i : Int} (h : EvPL te σ H n P) (hi : Ev ti σ H (.int i)) (h0 : 0 ≤ i) (h1 : i < n) (pm : PM P) : EvP (tOp (rIxL K) te ti) σ H P := fun H1 e Q q =>
  h H1 e _ fun p vs H2 _ e2 hp hl hv => hi H2 (e.trans e2) _ fun H3 e3 => by
    have hj : i.toNat < vs.length := by omega
    have hx : vs[i.toNat]? = some vs[i.toNat] := List.getElem?_eq_getElem hj
    refine ⟨p, vs, i, vs[i.toNat], rfl, rfl, sq_of (e3 _ _ hp), ?_, q _ H3 (e2.trans e3) (pm _ _ _ e3 (hv _ (List.getElem_mem hj)))⟩
    have := atI_nat hx
    rw [show ((i.toNat : Nat) : Int) = i by omega] at this
    exact this
theorem evp_tup0 (h0 : EvP t0 σ H P0) (h1 : Ev t1 σ H v1) (h2 : Ev t2 σ H v2) (pm : PM P0) (hp : ∀ x p H1, P0 x H1 → H1 p = some (.tup [x, v1, v2]) → Ex H H1 → P (.ref p) H1) : EvP (tTup (tCons t0 (tCons t1 (tCons t2 tNil)))) σ H P := fun H1 e Q q =>
  h0 H1 e _ fun x H2 e2 hx => h1 H2 (e.trans e2) _ fun H3 e3 => h2 H3 ((e.trans e2).trans e3) _ fun H4 e4 => ⟨by show 3 ≤ sizeLine; decide, fun p hn => q _ _ (((e2.trans e3).trans e4).trans (Ex.new hn)) (hp x p _ (pm _ _ _ ((e3.trans e4).trans (Ex.new hn)) hx) upd_same ((((e.trans e2).trans e3).trans e4).trans (Ex.new hn)))⟩
theorem evp_tup2 (h0 : Ev t0 σ H v0) (h1 : Ev t1 σ H v1) (h2 : EvP t2 σ H P0) (pm : PM P0) (hp : ∀ x p H1, P0 x H1 → H1 p = some (.tup [v0, v1, x]) → Ex H H1 → P (.ref p) H1) : EvP (tTup (tCons t0 (tCons t1 (tCons t2 tNil)))) σ H P := fun H1 e Q q =>
  h0 H1 e _ fun H2 e2 => h1 H2 (e.trans e2) _ fun H3 e3 => h2 H3 ((e.trans e2).trans e3) _ fun x H4 e4 hx => ⟨by show 3 ≤ sizeLine; decide, fun p hn => q _ _ (((e2.trans e3).trans e4).trans (Ex.new hn)) (hp x p _ (pm _ _ _ (Ex.new hn) hx) upd_same ((((e.trans e2).trans e3).trans e4).trans (Ex.new hn)))⟩
theorem q_asgP {i : Nat} (h : EvP te σ H P) (k : ∀ v H1, Ex H H1 → P v H1 → tz D (σ.set i (some v)) H1) : tSeq (tAsg te (gName i)) tz D σ H := h H (Ex.refl H) _ fun v H1 e hv => k v H1 e hv
theorem q_asgPL {i : Nat} (h : EvPL te σ H n P) (k : ∀ p vs H1, H p = none → Ex H H1 → H1 p = some (.lst vs) → vs.length = n → (∀ v ∈ vs, P v H1) → tz D (σ.set i (some (.ref p))) H1) : tSeq (tAsg te (gName i)) tz D σ H := h H (Ex.refl H) _ fun p vs H1 hp e h1 hl hv => k p vs H1 hp e h1 hl hv
/-- a list and a new one -/
theorem evpl_cat {a : Addr} (pm : PM P) (ha : Ev t1 σ H (.ref a)) (hx : H a = some (.lst xs)) (hn : xs.length = n') (hP : ∀ v ∈ xs, P v H) (hb : EvPL t2 σ H n P) (hz : n' + n ≤ 100000) : EvPL (tOp rCat t1 t2) σ H (n' + n) P := fun H1 e Q q =>
  ha H1 e _ fun H2 e2 => hb H2 (e.trans e2) _ fun b ys H3 _ e3 h3 hl hv => by
    have e23 := (e.trans e2).trans e3
    refine ⟨a, b, xs, ys, rfl, rfl, e23 _ _ hx, h3, sz_of (by omega), fun p hp => q p (xs ++ ys) _ (fresh_back (e2.trans e3) hp) ((e2.trans e3).trans (Ex.new hp)) upd_same (by rw [List.length_append]; omega) fun v hv' => ?_⟩
    rcases List.mem_append.mp hv' with h | h
    · exact pm _ _ _ (e23.trans (Ex.new hp)) (hP v h)
    · exact pm _ _ _ (Ex.new hp) (hv v h)
end
/-! ### nets made, calls that are refused -/
section
variable {K : PySem.W.Frag} {A : Ads} {σ : L2.St} {H H' : Hp} {t1 t2 : TE}
/-- a list of ties at l -/
def LT (H : Hp) (l : Addr) (as : List Addr) (ts : List Tie) : Prop := H l = some (.lst (as.map V.ref)) ∧ TiesAt H as ts
theorem LT.mono {l : Addr} {as : List Addr} {ts : List Tie} (e : Ex H H') (h : LT H l as ts) : LT H' l as ts := ⟨e _ _ h.1, h.2.mono e⟩
def IsLT (R : Addr → List Addr → List Tie → Prop) : V → Hp → Prop := fun v H => ∃ l as ts, v = .ref l ∧ LT H l as ts ∧ R l as ts
theorem IsLT.pm {R : Addr → List Addr → List Tie → Prop} : PM (IsLT R) := fun _ _ _ e ⟨l, as, ts, r, h, q⟩ => ⟨l, as, ts, r, h.mono e, q⟩
theorem evp_var {i : Nat} {v : V} {P : V → Hp → Prop} (h : σ[i]? = some (some v)) (hp : ∀ H1, Ex H H1 → P v H1) : EvP (tVar i) σ H P := evp_v (ev_var h) hp
theorem c_net {Q : VK} {m : Nat} {R : Addr → List Addr → List Tie → Prop} (h1 : Ev t1 σ H (vi m)) (h2 : EvP t2 σ H (IsLT R)) (ok : ∀ l as ts, R l as ts → Net.Ok ⟨m, ts⟩)
    (k : ∀ x l as ts s H1, Ex H H1 → LT H1 l as ts → R l as ts → NetX A H1 x ⟨m, ts⟩ s → s.as = as → Q (.ref x) H1) : tMake A.C (sp_init K A) [] E0 (tCons t1 (tCons t2 tNil)) σ H Q :=
  h1 H (Ex.refl H) _ fun H1 e1 => h2 H1 e1 _ fun v H2 e2 ⟨l, as, ts, hv, hl, r⟩ x dx hx hdx _ => by
    subst hv
    exact ⟨H2, x, dx, vi m, .ref l, rfl, (Ex.new hdx).mut hx, hx, upd_same, kd_int, .inl ⟨m, l, as, ts, rfl, rfl, hl.1, hl.2, ok l as ts r, fun H3 s e3 N hsa _ _ _ _ => ⟨rfl, k x l as ts s H3 ((e1.trans e2).trans e3) (hl.mono e3) r N hsa⟩⟩⟩
/-- what is no net -/
def BadNet (K : PySem.W.Frag) (H : Hp) (mv tv : V) : Prop := (¬ ∃ m : Nat, mv = vi m ∧ 1 ≤ m ∧ m ≤ 24) ∨ (∃ m : Nat, mv = vi m ∧ 1 ≤ m ∧ m ≤ 24 ∧
  ((∃ ty, Vt K H tv ty ∧ kitB ty "list" = some false) ∨ ∃ l xs, tv = .ref l ∧ H l = some (.lst xs) ∧ xs.length ≤ 1000 ∧ (∀ x ∈ xs, TieK K H x) ∧ ¬ GoodTies H m xs))
/-- what is no tie of a net of so many -/
def Odd (K : PySem.W.Frag) (m : Nat) : V → Hp → Prop := fun x H => (∃ ty, Vt K H x ty ∧ kitB ty "tuple" = some false) ∨ (∃ a vs, x = .ref a ∧ H a = some (.tup vs) ∧ vs.length ≠ 3) ∨
  (∃ a v0 v1 v2, x = .ref a ∧ H a = some (.tup [v0, v1, v2]) ∧ Kd K H v0 ∧ Kd K H v1 ∧ Kd K H v2 ∧ ∀ (i j : Nat) (c : Int), v0 = vi i → v1 = vi j → v2 = .int c → ¬ okTie m (i, j, c))
theorem Odd.pm {m : Nat} : PM (Odd K m) := fun x H H' e h => by
  rcases h with ⟨ty, h, q⟩ | ⟨a, vs, rfl, h, q⟩ | ⟨a, v0, v1, v2, rfl, h, k0, k1, k2, q⟩
  · exact .inl ⟨ty, h.mono e, q⟩
  · exact .inr (.inl ⟨a, vs, rfl, e _ _ h, q⟩)
  · exact .inr (.inr ⟨a, v0, v1, v2, rfl, e _ _ h, k0.mono e, k1.mono e, k2.mono e, q⟩)
theorem Odd.kind {m : Nat} {x : V} (h : Odd K m x H) : TieK K H x := by
  rcases h with h | h | ⟨a, v0, v1, v2, r, h, k0, k1, k2, q⟩
  · exact .inl h
  · exact .inr (.inl h)
  · exact .inr (.inr ⟨a, v0, v1, v2, r, h, k0, k1, k2⟩)
theorem Odd.not {m : Nat} {x : V} {a : Addr} {t : Tie} (h : Odd K m x H) (hx : x = .ref a) (ha : H a = some (.tup (tieV t))) : ¬ okTie m t := by
  intro ok
  subst hx
  rcases h with ⟨ty, h, q⟩ | ⟨b, vs, hb, h, q⟩ | ⟨b, v0, v1, v2, hb, h, _, _, _, q⟩
  · have := vt_is_tup ha h
    subst this
    rw [kitB_self] at q
    cases q
  · cases hb
    rw [ha] at h
    cases h
    exact q rfl
  · cases hb
    rw [ha] at h
    cases h
    exact q _ _ _ rfl rfl rfl ok
theorem Odd.bad {m : Nat} {x : V} {xs : List V} (h : Odd K m x H) (hx : x ∈ xs) : ¬ GoodTies H m xs := by
  rintro ⟨as, ts, rfl, ta, _, ok⟩
  obtain ⟨a, ha, rfl⟩ := List.mem_map.mp hx
  obtain ⟨i, hi⟩ := List.mem_iff_getElem?.mp ha
  obtain ⟨t, ht, hA⟩ := ta.at_ hi
  exact h.not rfl hA (ok t (List.mem_of_getElem? ht))
/-- a make that is refused -/
theorem c_bad {Q : VK} {E : XK} {mv tv : V} {ta : TA} (h : EvA ta σ H [mv, tv]) (km : Kd K H mv) (bad : BadNet K H mv tv) (hm : ∀ {H'}, Ex H H' → BadNet K H' mv tv) (k : ∀ H', Ex H H' → E (.ref A.eNoNet) none H') : tMake A.C (sp_init K A) [] E ta σ H Q :=
  c_make (vs := [mv, tv]) h fun H1 e1 x dx hx hdx _ => ⟨H1, x, dx, mv, tv, rfl, (Ex.new hdx).mut hx, hx, upd_same, km.mono e1, .inr ⟨hm e1, fun H2 e2 => k H2 (e1.trans e2)⟩⟩
end
section
variable {K : PySem.W.Frag} {A : Ads}
/-- the suite that both calls share -/
theorem suite_ret {σ : L2.St} {H : Hp} {D : Ends} {Q : VK} {x y1 y2 y3 : Err} {a : Addr} {i : Nat} (ec : ErrC K A) (hv : σ[i]? = some (some (.ref a))) (n1 : x ≠ y1) (n2 : x ≠ y2) (n3 : x ≠ y3) (hD : D.rt = Q) (k : ∀ H', Ex H H' → Q (.bl true) H') :
    tSeq (tIfS (tB (tCB (rIsET K (A.err x) a) (tCons (tVar i) (tCons (tTup (tCons (tC (.ref (A.err y1))) (tCons (tC (.ref (A.err y2))) (tCons (tC (.ref (A.err y3))) tNil)))) tNil)))) (tRet (tC (.bl false))) tNext)
      (tRet (tAndV (tCB (rIsE K (A.err x) a) (tCons (tVar i) (tCons (tC (.ref A.eWallError)) tNil))) (tCB (rIsE K (A.err x) a) (tCons (tVar i) (tCons (tC (.ty "ValueError")) tNil))))) D σ H := by
  refine q_skip (et_B (ev_cbU (ev_var hv) (eu_tup (ea_cons ev_c (ea_cons ev_c (ea_cons ev_c ea_nil))) (by show 3 ≤ 100000; decide)) fun p H1 hp e => rc_isET ec hp n1 n2 n3)) fun H1 e1 => ?_
  refine s_ret (v := .bl true) (ev_is (ev_andV (a := true) (b := true) (ev_cb (ea_cons (ev_var hv) (ea_cons ev_c ea_nil)) (rc_isE (fun u r => r) (ec.wall x))) fun _ => ev_cb (ea_cons (ev_var hv) (ea_cons ev_c ea_nil)) (rc_isE (fun u r => r) (ec.val x))) rfl) fun H2 e2 => ?_
  rw [hD]
  exact k H2 (e1.trans e2)
theorem ev_neg1 {σ : L2.St} {H : Hp} {i : Int} : Ev (tUn rNeg (tC (.int i))) σ H (.int (-i)) := ev_un ev_c ru_neg
end

/-! ### more of texts -/
section
variable {K : PySem.W.Frag} {A : Ads} {σ : L2.St} {H H' : Hp} {D : Ends} {tu tz : TS} {v : V} {t1 t2 ta tb te tl : TE} {to th : TO} {P : V → Hp → Prop}
abbrev rRepS : R2 := fun x y H Q => ∃ (a : Str) (n : Int), x = .str a ∧ y = .int n ∧ 2 ≤ n ∧ n ≤ 1000 ∧ 1 ≤ a.length ∧ a.length ≤ 1000 ∧ Q (.str ⟨(List.replicate n.toNat a.cps).foldl (· ++ ·) #[]⟩) H
theorem ev_slX {x : Str} {lo hi : Option Int} (h : Ev te σ H (.str x)) (h1 : EvO to σ H lo) (h2 : EvO th σ H hi) (hx : x.length ≤ 100000) : Ev (tSl C8.rSlX te to th) σ H (.str (Txt.slice x lo hi)) := fun H1 e Q q =>
  h H1 e _ fun H2 e2 => h1 H2 (e.trans e2) _ fun H3 e3 => h2 H3 ((e.trans e2).trans e3) _ fun H4 e4 => ⟨x, rfl, sz_of hx, q H4 ((e2.trans e3).trans e4)⟩
theorem cutV_dropN (xs : List V) (i : Nat) : cutV xs (some (i : Int)) none = xs.drop i := by
  unfold cutV
  rw [HT.sIx_none, HT.sIx_nat]
  by_cases h : i ≤ xs.length
  · rw [Nat.min_eq_left h, List.take_of_length_le (by rw [List.length_drop]; exact Nat.le_refl _)]
  · rw [Nat.min_eq_right (by omega), List.drop_eq_nil_of_le (Nat.le_refl _), List.drop_eq_nil_of_le (by omega)]
    simp
/-- a text of so many signs at most -/
def LenS (n : Nat) : V → Hp → Prop := fun v _ => ∃ x : Str, v = .str x ∧ x.length ≤ n
theorem LenS.pm {n : Nat} : PM (LenS n) := fun _ _ _ _ h => h
theorem evp_plusS {m n : Nat} (h1 : EvP t1 σ H (LenS m)) (h2 : EvP t2 σ H (LenS n)) (hz : m + n ≤ 100000) : EvP (tOp rPlusS t1 t2) σ H (LenS (m + n)) := fun H1 e Q q =>
  h1 H1 e _ fun v H2 e2 ⟨x, hx, lx⟩ => h2 H2 (e.trans e2) _ fun u H3 e3 ⟨y, hy, ly⟩ => by
    subst hx hy
    refine ⟨x, y, rfl, rfl, sz_of (by omega), q _ H3 (e2.trans e3) ⟨_, rfl, ?_⟩⟩
    have : (x ++ y).length = x.length + y.length := by
      have h := SX.S_cat x.cps.toList y.cps.toList
      rw [SX.S_tl, SX.S_tl] at h
      rw [h, SX.S_len, List.length_append]
      rfl
    omega
theorem evpl_lcM {a : Addr} {xs : List V} {j : Nat} {vs : List Nat} (hl : Ev tl σ H (.ref a)) (hx : SqL K H a xs) (hz : xs.length ≤ 1000) (hw : ∀ x, wipe ((wipe σ vs).set j (some x)) vs = wipe σ vs) (pm : ∀ v H H', P v H → P v H')
    (he : ∀ (x : V) H1, Ex H H1 → x ∈ xs → EvP te ((wipe σ vs).set j (some x)) H1 P) : EvPL (tLc (iList K tl) (gName j) tYes te vs) σ H xs.length P := fun H0 e0 Q q =>
  hl H0 e0 _ fun H1 e1 => ⟨a, rfl, ⟨xs, ex_l (e0.trans e1) hx⟩, fun Dl hD => lc_it (walk_list (K := K) (a := a) (xs := xs)) (fun i H' => Ex H1 H' ∧ ∃ ws, H' Dl = some (.lst ws) ∧ ws.length = i ∧ ∀ v ∈ ws, P v H') ⟨Ex.new hD, [], upd_same, rfl, fun _ h => nomatch h⟩ (fun i H' _ p => ex_l ((e0.trans e1).trans p.1) hx) (fun i x H' H2 hi p y => by
    obtain ⟨rfl, hx'⟩ := y
    obtain ⟨p1, ws, p2, p3, p4⟩ := p
    refine ⟨hw _, ty_go ?_⟩
    rw [if_pos rfl]
    refine he x H1 (e0.trans e1) (List.mem_of_getElem? hx') _ p1 _ fun v H3 e3 hv => ⟨ws, e3 _ _ p2, sz_lt (by omega), (p1.trans e3).mut hD, ws ++ [v], upd_same, by rw [List.length_append, p3]; rfl, fun u hu => ?_⟩
    rcases List.mem_append.mp hu with h | h
    · exact pm _ _ _ (p4 u h)
    · rw [List.mem_singleton] at h
      rw [h]
      exact pm _ _ _ hv) (fun H' p => by
    obtain ⟨p1, ws, p2, p3, p4⟩ := p
    exact q Dl ws H' (fresh_back e1 hD) (e1.trans p1) p2 p3 p4)⟩
theorem evpl_catP {n n' : Nat} (pm : PM P) (ha : EvPL t1 σ H n' P) (hb : EvPL t2 σ H n P) (hz : n' + n ≤ 100000) : EvPL (tOp rCat t1 t2) σ H (n' + n) P := fun H1 e Q q =>
  ha H1 e _ fun a xs H2 _ e2 h2 hl2 hv2 => hb H2 (e.trans e2) _ fun b ys H3 _ e3 h3 hl3 hv3 => ⟨a, b, xs, ys, rfl, rfl, e3 _ _ h2, h3, sz_of (by omega), fun p hp => q p (xs ++ ys) _ (fresh_back (e2.trans e3) hp) ((e2.trans e3).trans (Ex.new hp)) upd_same (by rw [List.length_append]; omega) fun v hv' => by
    rcases List.mem_append.mp hv' with h | h
    · exact pm _ _ _ (e3.trans (Ex.new hp)) (hv2 v h)
    · exact pm _ _ _ (Ex.new hp) (hv3 v h)⟩
end

theorem fold_rep (x : Array Nat) : ∀ (n : Nat) (acc : Array Nat), ((List.replicate n x).foldl (· ++ ·) acc).toList = acc.toList ++ (List.replicate n x.toList).flatten
  | 0, acc => by simp
  | n + 1, acc => by
    rw [List.replicate_succ, List.foldl_cons, fold_rep x n, List.replicate_succ, List.flatten_cons, Array.toList_append, List.append_assoc]
theorem op_repS {X : Cx} : OpR X (binaryOp .Mult) rRepS := by
  intro pins s σ H x y v u Q I rx ry h
  obtain ⟨a, n, hx, hy, h1, h2, h3, h4, q⟩ := h
  subst hx hy
  obtain ⟨t, rfl⟩ := rx
  obtain ⟨t', rfl⟩ := ry
  have hm : a.length * n.toNat ≤ 1000 * 1000 := Nat.mul_le_mul h4 (by omega)
  have c1 : ¬ ((n == 1 || a.length == 0) = true) := by
    rw [Bool.or_eq_true, beq_iff_eq, beq_iff_eq]
    omega
  refine PySem.P.mul_str (by rw [decide_eq_false (by omega), decide_eq_false (by omega)]; rfl) (fun _ _ => ?_) (fun _ _ => ?_) ?_
  · have : (1000 : Int) ≤ (2 ^ 63 - 1) / n := by
      rw [Int.le_ediv_iff_mul_le (by omega)]
      omega
    omega
  · show decide (a.length * n.toNat > sizeLine) = false
    refine decide_eq_false ?_
    have : (1000000 : Nat) ≤ sizeLine := by decide
    omega
  · rw [if_neg (by omega), if_neg c1]
    refine ⟨?_, .str _, H, I.tok _, ⟨_, rfl⟩, q⟩
    have hf := fold_rep a.cps n.toNat #[]
    show (List.foldl (fun x1 x2 => x1 ++ x2) #[] (List.replicate n.toNat a.cps)).size ≤ sizeLine
    rw [← Array.length_toList, hf, List.length_append, List.length_flatten, List.map_replicate, List.sum_replicate_nat]
    have hs : a.cps.toList.length = a.length := rfl
    have h0 : (#[] : Array Nat).toList.length = 0 := rfl
    rw [hs, h0, Nat.mul_comm]
    have : (1000000 : Nat) ≤ sizeLine := by decide
    omega

/-! ### a net's text -/
def tieL : List Nat := [116, 105, 101]
def placesL : List Nat := [112, 108, 97, 99, 101, 115]
abbrev RowR := List Nat × List Nat
def headR (m : Nat) : RowR := (placesL, [m])
def tieR (t : Tie) : RowR := (tieL, [t.1, t.2.1, t.2.2.toNat])
def rowW (r : RowR) : List (List Nat) := r.1 :: r.2.map TL.numL
def rowL (r : RowR) : List Nat := TL.joinL [32] (rowW r)
def rowsR (n : Net) : List RowR := headR n.many :: n.ties.map tieR
def textL (n : Net) : List Nat := TL.joinL [10] ((rowsR n).map rowL)
def txt (n : Net) : Str := SX.S (textL n)
def sp_shown (_ : PySem.W.Frag) (A : Ads) : Sp := fun vs H Q _ => ∃ p n s, vs = [.ref p] ∧ NetX A H p n s ∧ ∀ H', Ex H H' → Q (.str (txt n)) H'
def isNum (w : Str) (n : Nat) : Prop := n < 10 ^ 10 ∧ w = SX.S (TL.numL n)
def sp_number_of (_ : PySem.W.Frag) (A : Ads) : Sp := fun vs H Q E => ∃ w : Str, vs = [.str w] ∧ w.length ≤ 100000 ∧ (∀ n, isNum w n → ∀ H', Ex H H' → Q (vi n) H') ∧ ((¬ ∃ n, isNum w n) → ∀ H', Ex H H' → E (.ref A.eNoText) none H')
section
variable (K : PySem.W.Frag) (A : Ads)
theorem len_shown : ∀ vs H Q E, sp_shown K A vs H Q E → vs.length = (["net"] : List Str).length := by
  rintro _ _ _ _ ⟨_, _, _, rfl, _⟩; rfl
theorem len_number_of : ∀ vs H Q E, sp_number_of K A vs H Q E → vs.length = (["word"] : List Str).length := by
  rintro _ _ _ _ ⟨_, rfl, _⟩; rfl
end

def t_shown (K : PySem.W.Frag) (A : Ads) : TS :=
  (tSeq (tAsg (tLst (tCons (tOp rPlusS (tC (.str "places ")) (tCB rStrI (tCons (tFld K (tVar 0) "many") tNil))) tNil)) (gName 1))
    (tSeq (tFor (iList K (tMeth A.C "ties" (sp_ties K A) [] E0 (tVar 0) tNil)) (gName 2) (tDrop (tBM K "list" rAppend (tVar 1) (tCons (tOp rPlusS (tOp rPlusS (tOp rPlusS (tOp rPlusS (tOp rPlusS (tC (.str "tie ")) (tCB rStrI (tCons (tOp (rIxT K) (tVar 2) (tC (.int 0))) tNil))) (tC (.str " "))) (tCB rStrI (tCons (tOp (rIxT K) (tVar 2) (tC (.int 1))) tNil))) (tC (.str " "))) (tCB rStrI (tCons (tOp (rIxT K) (tVar 2) (tC (.int 2))) tNil))) tNil))))
    (tRet (tM1 (rJoin K) (tC (.str "\n")) (tVar 1)))))

def t_number_of (K : PySem.W.Frag) (A : Ads) (E : XK) : TS :=
  (tSeq (tIfS (tOr (tTest (tOp rEq (tVar 0) (tC (.str "")))) (tOr (tTest (tOp rGt1 (tCB rLenStr (tCons (tVar 0) tNil)) (tC (.int 10)))) (tAnd (tTest (tOp rEq (tOp rIxS (tVar 0) (tC (.int 0))) (tC (.str "0")))) (tTest (tOp rNe (tVar 0) (tC (.str "0"))))))) (tRaiseE E A.eNoText) tNext)
    (tSeq (tFor (iStr (tVar 0)) (gName 1) (tIfS (tTest (tOp rNotInS (tVar 1) (tC (.str "0123456789")))) (tRaiseE E A.eNoText) tNext))
    (tRet (tCB rIntStr (tCons (tVar 0) tNil)))))

section
variable {K : PySem.W.Frag} {A : Ads}
theorem numL_10 {n : Nat} (h : n < 10 ^ 10) : (TL.numL n).length ≤ 10 := TL.numL_len (by decide) h
theorem rowL_head (m : Nat) : rowL (headR m) = (placesL ++ [32]) ++ TL.numL m := rfl
theorem rowL_tie (t : Tie) : rowL (tieR t) = ((((tieL ++ [32]) ++ TL.numL t.1 ++ [32]) ++ TL.numL t.2.1) ++ [32]) ++ TL.numL t.2.2.toNat := by
  show tieL ++ ([32] ++ (TL.numL t.1 ++ ([32] ++ (TL.numL t.2.1 ++ ([32] ++ TL.numL t.2.2.toNat))))) = _
  simp only [List.append_assoc]
theorem lit_places : (.str "places " : V) = .str (SX.S (placesL ++ [32])) := congrArg V.str (by decide +kernel)
theorem lit_tie : (.str "tie " : V) = .str (SX.S (tieL ++ [32])) := congrArg V.str (by decide +kernel)
theorem lit_blank : (.str " " : V) = .str (SX.S [32]) := congrArg V.str (by decide +kernel)
theorem lit_line : (.str "\n" : V) = .str (SX.S [10]) := congrArg V.str (by decide +kernel)
theorem okTie.small {m : Nat} {t : Tie} (h : okTie m t) (hm : m ≤ 24) : t.1 < 10 ^ 10 ∧ t.2.1 < 10 ^ 10 ∧ t.2.2.toNat < 10 ^ 10 ∧ t.2.2 = (t.2.2.toNat : Int) := by
  obtain ⟨h1, h2, _, h4, h5⟩ := h
  refine ⟨by omega, by omega, by omega, by omega⟩
theorem rowL_len {n : Net} (ok : n.Ok) : ∀ r ∈ rowsR n, (rowL r).length ≤ 40 := by
  intro r hr
  rcases List.mem_cons.mp hr with rfl | hr
  · have := numL_10 (n := n.many) (by have := ok.hi; omega)
    rw [rowL_head, List.length_append]
    have : (placesL ++ [32]).length = 7 := rfl
    omega
  · obtain ⟨t, ht, rfl⟩ := List.mem_map.mp hr
    obtain ⟨h1, h2, h3, _⟩ := (ok.all t ht).small ok.hi
    have q1 := numL_10 h1
    have q2 := numL_10 h2
    have q3 := numL_10 h3
    rw [rowL_tie]
    simp only [List.length_append, show tieL.length = 3 from rfl, show ([32] : List Nat).length = 1 from rfl]
    omega
theorem sum_le {l : List Nat} {c : Nat} (h : ∀ x ∈ l, x ≤ c) : l.sum ≤ l.length * c := by
  induction l with
  | nil => simp
  | cons x r ih =>
    rw [List.sum_cons, List.length_cons, Nat.succ_mul]
    have := h x (by simp)
    have := ih fun y hy => h y (by simp [hy])
    omega
theorem joinL_len (s : List Nat) : ∀ ys : List (List Nat), (TL.joinL s ys).length ≤ (ys.map (·.length)).sum + ys.length * s.length
  | [] => by simp [TL.joinL]
  | [p] => by show p.length ≤ _; simp
  | p :: q :: r => by
    show (p ++ (s ++ TL.joinL s (q :: r))).length ≤ _
    have := joinL_len s (q :: r)
    simp only [List.length_append, List.map_cons, List.sum_cons, List.length_cons] at *
    rw [Nat.succ_mul]
    omega
theorem rows_sum {n : Net} (ok : n.Ok) : (((rowsR n).map rowL).map (·.length)).sum + ((rowsR n).map rowL).length * 1 ≤ 12341 := by
  have h1 := sum_le (l := ((rowsR n).map rowL).map (·.length)) (c := 40) fun x hx => by
    obtain ⟨y, hy, rfl⟩ := List.mem_map.mp hx
    obtain ⟨r, hr, rfl⟩ := List.mem_map.mp hy
    exact rowL_len ok r hr
  have h2 : ((rowsR n).map rowL).length ≤ 301 := by
    rw [List.length_map]
    show (headR n.many :: n.ties.map tieR).length ≤ 301
    rw [List.length_cons, List.length_map]
    have := ok.few
    omega
  rw [List.length_map] at h1
  omega
theorem txt_len {n : Net} (ok : n.Ok) : (textL n).length ≤ 12341 := by
  have h1 := joinL_len [10] ((rowsR n).map rowL)
  have h2 := rows_sum ok
  have : ([10] : List Nat).length = 1 := rfl
  unfold textL
  rw [this] at h1
  omega
/-- a row's text, told sign by sign -/
theorem ev_headR {σ : L2.St} {H : Hp} {te : TE} {m : Nat} (h : Ev te σ H (vi m)) (hm : m ≤ 24) : Ev (tOp rPlusS (tC (.str "places ")) (tCB rStrI (tCons te tNil))) σ H (.str (SX.S (rowL (headR m)))) := by
  have := numL_10 (n := m) (by omega)
  rw [rowL_head]
  exact ev_op (ev_is ev_c lit_places) (ev_cb (ea_cons h ea_nil) (rc_strN (by omega))) (rv_plusS (by decide) (by omega))
theorem ev_tieR {σ : L2.St} {H : Hp} {ta tb tc : TE} {t : Tie} {m : Nat} (h1 : Ev ta σ H (vi t.1)) (h2 : Ev tb σ H (vi t.2.1)) (h3 : Ev tc σ H (.int t.2.2)) (ok : okTie m t) (hm : m ≤ 24) :
    Ev (tOp rPlusS (tOp rPlusS (tOp rPlusS (tOp rPlusS (tOp rPlusS (tC (.str "tie ")) (tCB rStrI (tCons ta tNil))) (tC (.str " "))) (tCB rStrI (tCons tb tNil))) (tC (.str " "))) (tCB rStrI (tCons tc tNil))) σ H (.str (SX.S (rowL (tieR t)))) := by
  obtain ⟨q1, q2, q3, q4⟩ := ok.small hm
  have l1 := numL_10 q1
  have l2 := numL_10 q2
  have l3 := numL_10 q3
  rw [rowL_tie]
  have h3 : Ev tc σ H (vi t.2.2.toNat) := by unfold vi; rw [← q4]; exact h3
  have e1 : (tieL ++ [32]).length = 4 := rfl
  have e2 : ([32] : List Nat).length = 1 := rfl
  refine ev_op (ev_op (ev_op (ev_op (ev_op (ev_is ev_c lit_tie) (ev_cb (ea_cons h1 ea_nil) (rc_strN q1)) (rv_plusS ?_ ?_)) (ev_is ev_c lit_blank) (rv_plusS ?_ ?_)) (ev_cb (ea_cons h2 ea_nil) (rc_strN q2)) (rv_plusS ?_ ?_)) (ev_is ev_c lit_blank) (rv_plusS ?_ ?_)) (ev_cb (ea_cons h3 ea_nil) (rc_strN q3)) (rv_plusS ?_ ?_) <;> (try simp only [List.length_append, e1, e2]) <;> omega
def txtsV (l : List (List Nat)) : List V := (l.map SX.S).map V.str
theorem rows_take {n : Net} {i : Nat} {t : Tie} (h : n.ties[i]? = some t) : (rowsR n).take (i + 2) = (rowsR n).take (i + 1) ++ [tieR t] := by
  show headR n.many :: (n.ties.map tieR).take (i + 1) = headR n.many :: ((n.ties.map tieR).take i ++ [tieR t])
  rw [List.take_succ, List.getElem?_map, h]
  rfl
theorem pure_shown (nc : NetC K A) (vs : List V) (H : Hp) (Q : VK) (E : XK) (h : sp_shown K A vs H Q E) : t_shown K A { nx := fun _ H' => Q .non H', rt := Q } (start ["net", "rows", "tie"] vs) H := by
  obtain ⟨p, n, s, rfl, N, k⟩ := h
  unfold t_shown
  show tSeq _ _ _ [some (.ref p), none, none] H
  have hm := N.ok.hi
  have ho := N.ob
  refine q_asgL (xs := txtsV [rowL (headR n.many)]) (el_lst (ea_cons (ev_headR (ev_fld (ev_var rfl) ho nc.cl nc.nM lk_many) hm) ea_nil) (by show 1 ≤ 100000; decide)) fun l H1 hl e1 h1 => ?_
  show tSeq _ _ _ [some (.ref p), some (.ref l), none] H1
  have N1 := N.mono e1
  refine q_forNLn (el_meth (vs := []) (ev_var rfl) N1.ob (by walk_at "lk") ea_nil (spl_ties N1)) (fun p' i σ G => ∃ w2, σ = [some (.ref p), some (.ref l), w2] ∧ Ex H G ∧ G l = some (.lst (txtsV (((rowsR n).take (i + 1)).map rowL))) ∧ G p' = some (.lst (s.as.map V.ref)) ∧ p' ≠ l)
    (fun p' G hp e hG => ⟨none, rfl, e1.trans e, e _ _ h1, hG, fun q => by rw [q] at hp; rw [hp] at h1; cases h1⟩) (fun p' i σ G _ ⟨_, _, _, _, hG, _⟩ => sq_of hG) ?_ ?_
  · rintro p' i x σ G hx ⟨w2, rfl, e, hG, hp', hne⟩
    obtain ⟨a, ea, rfl⟩ := list_at_ref hx
    obtain ⟨t, et, hA⟩ := (N.ta.mono e).at_ ea
    have okt := N.ok.all t (List.mem_of_getElem? et)
    have hlen : (txtsV (((rowsR n).take (i + 1)).map rowL)).length ≤ i + 1 := by
      unfold txtsV
      rw [List.length_map, List.length_map, List.length_map, List.length_take]
      omega
    have hi : i < n.ties.length := (List.getElem?_eq_some_iff.mp et).1
    have few := N.ok.few
    show tDrop _ _ [some (.ref p), some (.ref l), some (.ref a)] G
    refine s_app hG (ev_var rfl) (ev_tieR (t := t) (ev_op (x := .ref a) (y := .int 0) (ev_var rfl) ev_c (rv_ixT (st_of hA) rfl)) (ev_op (x := .ref a) (y := .int 1) (ev_var rfl) ev_c (rv_ixT (st_of hA) rfl)) (ev_op (x := .ref a) (y := .int 2) (ev_var rfl) ev_c (rv_ixT (st_of hA) rfl)) okt hm) (by omega) fun G1 e1 => ?_
    refine ⟨_, rfl, (e.trans e1).mut hl, ?_, (upd_ne hne).trans (e1 _ _ hp'), hne⟩
    rw [rows_take et]
    unfold txtsV
    rw [List.map_append, List.map_append, List.map_append]
    exact upd_same
  · rintro p' σ G ⟨w2, rfl, e, hG, -, -⟩
    have hall : (rowsR n).take ((s.as.map V.ref).length + 1) = rowsR n := by
      refine List.take_of_length_le ?_
      show (headR n.many :: n.ties.map tieR).length ≤ _
      rw [List.length_cons, List.length_map, List.length_map, Paired.length N.ta]
      exact Nat.le_refl _
    rw [hall] at hG
    have hb := rows_sum N.ok
    exact s_ret (ev_join (a := [10]) (ev_is ev_c lit_line) (ev_var rfl) (.inl (sq_of hG)) (Nat.le_trans hb (by decide))) fun H3 e3 => k H3 (e.trans e3)
/-! number_of -/
theorem digits_lt : ∀ {cs : List Nat}, NumText.AllDigits cs → NumText.digitsVal cs < 10 ^ cs.length := by
  intro cs
  induction hn : cs.length generalizing cs with
  | zero =>
    intro _
    rw [List.length_eq_zero_iff] at hn
    subst hn
    decide
  | succ k ih =>
    intro h
    have hne : cs ≠ [] := fun q => by rw [q] at hn; cases hn
    have e := List.dropLast_concat_getLast hne
    have hl : cs.dropLast.length = k := by rw [List.length_dropLast]; omega
    have h1 : NumText.AllDigits cs.dropLast := fun c hc => h c (List.dropLast_subset _ hc)
    have h2 := h (cs.getLast hne) (List.getLast_mem hne)
    have := ih hl h1
    rw [← e, NumText.digitsVal_snoc]
    rw [Nat.pow_succ]
    omega
theorem numL_back : ∀ {cs : List Nat}, NumText.AllDigits cs → cs ≠ [] → (cs.head? = some 48 → cs = [48]) → TL.numL (NumText.digitsVal cs) = cs := by
  intro cs
  induction hn : cs.length generalizing cs with
  | zero =>
    intro _ hne _
    exact absurd (List.length_eq_zero_iff.mp hn) hne
  | succ k ih =>
    intro h hne hz
    have e := List.dropLast_concat_getLast hne
    have hl : cs.dropLast.length = k := by rw [List.length_dropLast]; omega
    have h1 : NumText.AllDigits cs.dropLast := fun c hc => h c (List.dropLast_subset _ hc)
    have h2 := h (cs.getLast hne) (List.getLast_mem hne)
    generalize cs.dropLast = ini at *
    generalize cs.getLast hne = c at *
    subst e
    rw [NumText.digitsVal_snoc]
    cases ini with
    | nil =>
      show TL.numL (0 * 10 + (c - 48)) = [c]
      rw [TL.numL_lt (by omega)]
      congr 1
      omega
    | cons d r =>
      have hd : d ≠ 48 := fun q => by
        have := hz (by rw [q]; rfl)
        rw [q] at this
        have := (List.cons.inj this).2
        simp at this
      have hd2 := h1 d (by simp)
      have hpos : 0 < NumText.digitsVal (d :: r) := NumText.digitsVal_pos (by omega)
      have := ih hl h1 (by simp) (fun q => absurd (Option.some.inj q) hd)
      rw [TL.numL_step (by omega), show (NumText.digitsVal (d :: r) * 10 + (c - 48)) / 10 = NumText.digitsVal (d :: r) by omega, this, show (NumText.digitsVal (d :: r) * 10 + (c - 48)) % 10 = c - 48 by omega, show 48 + (c - 48) = c by omega]
theorem numL_head : ∀ (n : Nat) {r : List Nat}, TL.numL n = 48 :: r → n = 0 := by
  intro n
  induction n using Nat.strongRecOn with
  | ind n ih =>
    intro r h
    by_cases hn : n < 10
    · rw [TL.numL_lt hn] at h
      have := (List.cons.inj h).1
      omega
    · rw [TL.numL_step (by omega)] at h
      cases hq : TL.numL (n / 10) with
      | nil => exact absurd hq (TL.numL_ne _)
      | cons d r' =>
        rw [hq] at h
        have := (List.cons.inj h).1
        rw [this] at hq
        have := ih (n / 10) (by omega) hq
        omega
theorem figs (c : Nat) : decide (c ∈ ("0123456789" : Str).cps.toList) = decide (48 ≤ c ∧ c ≤ 57) := by
  have e : ("0123456789" : Str).cps.toList = [48, 49, 50, 51, 52, 53, 54, 55, 56, 57] := by decide +kernel
  rw [e]
  congr 1
  simp only [List.mem_cons, List.not_mem_nil, or_false, eq_iff_iff]
  omega
theorem lit_zero : ("0" : Str) = SX.S [48] := by decide +kernel
theorem lit_none : ("" : Str) = SX.S [] := by decide +kernel
theorem S_dec (a b : List Nat) : decide (SX.S a = SX.S b) = decide (a = b) := by
  by_cases h : a = b
  · rw [h, decide_eq_true rfl, decide_eq_true rfl]
  · rw [decide_eq_false h, decide_eq_false fun q => h (SX.S_inj q)]
theorem pure_number_of (nc : NetC K A) (vs : List V) (H : Hp) (Q : VK) (E : XK) (h : sp_number_of K A vs H Q E) : t_number_of K A E { nx := fun _ H' => Q .non H', rt := Q } (start ["word", "sign"] vs) H := by
  obtain ⟨w, rfl, hl, k1, k2⟩ := h
  unfold t_number_of
  show tSeq _ _ _ [some (.str w), none] H
  have ew : w = SX.S w.cps.toList := (SX.S_tl w).symm
  generalize w.cps.toList = cs at ew
  subst ew
  rw [SX.S_len] at hl
  cases cs with
  | nil =>
    refine q_yes (et_is (b := true) (et_or (a := true) (b := false) (et_test (ev_is (ev_op (x := .str (SX.S [])) (y := .str "") (ev_var rfl) ev_c rv_eqS) (by rw [lit_none, decide_eq_true rfl]))) (fun q => nomatch q)) rfl) fun H1 e1 => k2 ?_ H1 e1
    rintro ⟨n, -, hn⟩
    exact TL.numL_ne n (SX.S_inj hn).symm
  | cons c r =>
    have hi : atI (SX.S (c :: r)).cps.toList (0 : Int) = some c := atI_nat (j := 0) rfl
    refine q_when (b := false || (decide (10 < ((c :: r).length : Int)) || (decide (c = 48) && !decide (c :: r = [48])))) (et_or (a := false) (et_test (ev_is (ev_op (x := .str (SX.S (c :: r))) (y := .str "") (ev_var rfl) ev_c rv_eqS) (by rw [lit_none, S_dec]; rfl))) fun _ =>
      et_or (et_test (ev_op (y := .int 10) (ev_cb (ea_cons (ev_var rfl) ea_nil) (rc_lenStr hl)) ev_c rv_gt)) fun _ => et_and (et_test (ev_is (ev_op (x := .str ⟨#[c]⟩) (y := .str "0") (ev_op (x := .str (SX.S (c :: r))) (y := .int 0) (ev_var rfl) ev_c (rv_ixS (by rw [SX.S_len]; exact hl) hi)) ev_c rv_eqS) (by
        rw [lit_zero, show (⟨#[c]⟩ : Str) = SX.S [c] from rfl, S_dec]; simp))) fun _ => et_test (ev_is (ev_op (x := .str (SX.S (c :: r))) (y := .str "0") (ev_var rfl) ev_c rv_neS) (by rw [lit_zero, S_dec]))) (fun hb H1 e1 => k2 ?_ H1 e1) (fun hb H1 e1 => ?_)
    · rintro ⟨n, hn, hw⟩
      have hw := SX.S_inj hw
      rw [Bool.false_or, Bool.or_eq_true, decide_eq_true_eq, Bool.and_eq_true, decide_eq_true_eq, Bool.not_eq_true', decide_eq_false_iff_not] at hb
      rcases hb with hb | ⟨rfl, hb⟩
      · have := numL_10 hn
        rw [hw] at hb
        omega
      · have := numL_head n hw.symm
        subst this
        exact hb hw
    rw [Bool.false_or, Bool.or_eq_false_iff, decide_eq_false_iff_not, Bool.and_eq_false_iff, decide_eq_false_iff_not, Bool.not_eq_false', decide_eq_true_eq] at hb
    obtain ⟨hb1, hb2⟩ := hb
    refine q_forS (x := SX.S (c :: r)) (ev_var rfl) (fun i σ G => ∃ w, σ = [some (.str (SX.S (c :: r))), w] ∧ Ex H G ∧ ∀ d ∈ (c :: r).take i, 48 ≤ d ∧ d ≤ 57) (fun G e => ⟨none, rfl, e1.trans e, fun _ q => nomatch q⟩) ?_ ?_
    · rintro i d σ G hd ⟨w, rfl, e, hall⟩
      have hd : (c :: r)[i]? = some d := hd
      show tIfS _ _ _ _ [some (.str (SX.S (c :: r))), some (.str ⟨#[d]⟩)] G
      refine s_if (b := !decide (48 ≤ d ∧ d ≤ 57)) (et_test (ev_is (v := .bl (!decide (d ∈ ("0123456789" : Str).cps.toList))) (ev_op (x := .str ⟨#[d]⟩) (y := .str "0123456789") (ev_var rfl) ev_c (rv_val fun H1 _ Q q => ⟨d, _, rfl, rfl, q⟩)) (by rw [figs]))) (fun hb G1 e1 => ?_) (fun hb G1 e1 => ?_)
      · refine k2 ?_ G1 (e.trans e1)
        rintro ⟨n, -, hw⟩
        have hw := SX.S_inj hw
        have : d ∈ TL.numL n := by rw [← hw]; exact List.mem_of_getElem? hd
        rw [Bool.not_eq_true', decide_eq_false_iff_not] at hb
        exact hb (TL.numL_digits n d this)
      · rw [Bool.not_eq_false', decide_eq_true_eq] at hb
        refine ⟨_, rfl, e.trans e1, fun d' hd' => ?_⟩
        rw [List.take_succ, hd] at hd'
        rcases List.mem_append.mp hd' with q | q
        · exact hall d' q
        · have : d' = d := by simpa using q
          rw [this]; exact hb
    · rintro σ G ⟨w, rfl, e, hall⟩
      have hall : ∀ d ∈ (c :: r), 48 ≤ d ∧ d ≤ 57 := fun d hd => hall d (by
        rw [show (SX.S (c :: r)).cps.toList.length = (c :: r).length from rfl, List.take_length]; exact hd)
      have hlen : (c :: r).length ≤ 10 := by omega
      have hval : NumText.digitsVal (c :: r) < 10 ^ 10 := Nat.lt_of_lt_of_le (digits_lt hall) (Nat.pow_le_pow_right (by decide) hlen)
      have hback : TL.numL (NumText.digitsVal (c :: r)) = c :: r := numL_back hall (by simp) fun q => by
        have : c = 48 := Option.some.inj q
        exact hb2.elim (fun z => absurd this z) id
      have := SX.int_S (a := c :: r) (List.all_eq_true.mpr fun d hd => by
        have := hall d hd
        rw [Bool.and_eq_true, decide_eq_true_eq, decide_eq_true_eq]; exact this) (by simp) (by omega)
      refine s_ret (v := vi (NumText.digitsVal (c :: r))) (ev_cb (ea_cons (ev_var rfl) ea_nil) (rc_intStr this (by rw [SX.S_len]; omega))) fun G1 e1 => k1 _ ⟨hval, by rw [hback]⟩ G1 (e.trans e1)
end

section
variable {K : PySem.W.Frag} {σ : L2.St} {H : Hp} {tl te : TE}
theorem ev_tYes {σ : L2.St} {H : Hp} : EvT tYes σ H true := fun H1 _ Q q => q H1 (Ex.refl H1)
theorem el_lcM {α : Type} {xs : List V} {j : Nat} {vs : List Nat} (ts : List α) (h : α → V) (hl : EvL tl σ H xs) (hz : xs.length ≤ 40000) (hn : xs.length = ts.length) (hw : ∀ x, wipe ((wipe σ vs).set j (some x)) vs = wipe σ vs)
    (he : ∀ (i : Nat) (x : V) (b : α) H1, Ex H H1 → xs[i]? = some x → ts[i]? = some b → Ev te ((wipe σ vs).set j (some x)) H1 (h b)) : EvL (tLc (iList K tl) (gName j) tYes te vs) σ H (ts.map h) := by
  cases ts with
  | nil =>
    have q := el_lcNL (K := K) (te := te) (t := tYes) (fun _ => true) (fun _ => V.non) hl hz hw (fun i x H1 e hi => ev_tYes) (fun i x H1 e hi => by
      have := (List.getElem?_eq_some_iff.mp hi).1
      rw [hn] at this
      exact absurd this (Nat.not_lt_zero _))
    rw [hn] at q
    exact q
  | cons d r =>
    have gt : ∀ (i : Nat) (x : V), xs[i]? = some x → ((d :: r)[i]? = some ((d :: r).getD i d)) := fun i x hi => by
      have := (List.getElem?_eq_some_iff.mp hi).1
      rw [hn] at this
      rw [List.getD, List.getElem?_eq_getElem this]
      rfl
    have q := el_lcNL (K := K) (te := te) (t := tYes) (fun _ => true) (fun i => h ((d :: r).getD i d)) hl hz hw (fun i x H1 e hi => ev_tYes) (fun i x H1 e hi _ => he i x _ H1 e hi (gt i x hi))
    have e2 := given_list d (fun _ => true) h (d :: r)
    rw [hn] at q
    rw [List.filter_eq_self.mpr (fun _ _ => rfl)] at e2
    rw [← e2]
    exact q
theorem ev_pick {x0 x1 : V} {b : Bool} (h : Ev te σ H (.bl b)) : Ev (tOp (rIxL K) (tLst (tCons (tC x0) (tCons (tC x1) tNil))) (tCB rInt1 (tCons te tNil))) σ H (if b then x1 else x0) :=
  ev_opL1 (xs := [x0, x1]) (el_lst (ea_cons ev_c (ea_cons ev_c ea_nil)) (by show 2 ≤ 100000; decide)) (fun H1 e1 => ev_cb (ea_cons (h.mono e1) ea_nil) rc_int1B) fun p H1 hp e => by
    cases b
    · exact rv_ixL (sq_of hp) (atI_nat (j := 0) rfl)
    · exact rv_ixL (sq_of hp) (atI_nat (j := 1) rfl)
end
section
variable {K : PySem.W.Frag} {A : Ads}
theorem cutV_drop1 (x : V) (xs : List V) : cutV (x :: xs) (some 1) none = xs := by
  unfold cutV
  rw [HT.sIx_none, show (1 : Int) = ((1 : Nat) : Int) from rfl, HT.sIx_nat]
  simp
theorem nums_free {c : Nat} (h : c < 48) {r : RowR} (hk : c ∉ r.1) : ∀ p ∈ rowW r, c ∉ p := by
  intro p hp
  rcases List.mem_cons.mp hp with rfl | hp
  · exact hk
  · obtain ⟨n, _, rfl⟩ := List.mem_map.mp hp
    exact TL.numL_free (.inl h)
theorem mem_joinL {c : Nat} {s : List Nat} : ∀ {ys : List (List Nat)}, c ∈ TL.joinL s ys → c ∈ s ∨ ∃ p ∈ ys, c ∈ p
  | [], h => nomatch h
  | [p], h => .inr ⟨p, by simp, h⟩
  | p :: q :: r, h => by
    have h : c ∈ p ++ (s ++ TL.joinL s (q :: r)) := h
    rcases List.mem_append.mp h with h | h
    · exact .inr ⟨p, by simp, h⟩
    · rcases List.mem_append.mp h with h | h
      · exact .inl h
      · rcases mem_joinL h with h | ⟨z, hz, h⟩
        · exact .inl h
        · exact .inr ⟨z, List.mem_cons_of_mem _ hz, h⟩
theorem kw_free {n : Net} {r : RowR} (h : r ∈ rowsR n) : 10 ∉ r.1 ∧ 32 ∉ r.1 := by
  rcases List.mem_cons.mp h with rfl | h
  · exact ⟨by show 10 ∉ placesL; decide, by show 32 ∉ placesL; decide⟩
  · obtain ⟨t, _, rfl⟩ := List.mem_map.mp h
    exact ⟨by show 10 ∉ tieL; decide, by show 32 ∉ tieL; decide⟩
theorem split_txt (n : Net) : Txt.split (txt n) "\n" = ((rowsR n).map rowL).map SX.S := by
  rw [show ("\n" : Str) = SX.S [10] by decide +kernel]
  unfold txt textL
  rw [SX.split_S (by simp) (by decide), SX.spl_join (by simp [rowsR]) ?_]
  intro p hp
  obtain ⟨r, hr, rfl⟩ := List.mem_map.mp hp
  intro hc
  rcases mem_joinL hc with hc | ⟨z, hz, hc⟩
  · revert hc; decide
  · exact nums_free (by decide) (kw_free hr).1 z hz hc
theorem split_row {n : Net} {r : RowR} (h : r ∈ rowsR n) : Txt.split (SX.S (rowL r)) " " = (rowW r).map SX.S := by
  rw [show (" " : Str) = SX.S [32] by decide +kernel]
  unfold rowL
  rw [SX.split_S (by simp) (by decide), SX.spl_join (by simp [rowW]) (nums_free (by decide) (kw_free h).2)]
theorem lit_tie3 : ("tie" : Str) = SX.S tieL := by decide +kernel
theorem lit_places3 : ("places" : Str) = SX.S placesL := by decide +kernel
theorem spv_number_of {w : Str} {n : Nat} {H : Hp} (h : isNum w n) : SpV (sp_number_of K A) [.str w] H (vi n) := fun H1 e Q q E => ⟨w, rfl, by
  rw [h.2, SX.S_len]
  have := numL_10 h.1
  omega, fun n' h' H2 e2 => by
  have : n' = n := TL.numL_inj (SX.S_inj (h'.2.symm.trans h.2))
  rw [this]
  exact q H2 e2, fun hn => absurd ⟨n, h⟩ hn⟩
end

/-! ### reading any text -/
def GoodText (x : Str) (n : Net) : Prop := n.Ok ∧ x = txt n
def sp_read (K : PySem.W.Frag) (A : Ads) : Sp := fun vs H Q E => ∃ v, vs = [v] ∧
  ((∃ x : Str, v = .str x ∧ x.length ≤ 99998 ∧ (Txt.split x "\n").length ≤ 1000 ∧ (∀ n, GoodText x n → ∀ p s H', NetX A H' p n s → Ex H H' → Q (.ref p) H') ∧ ((¬ ∃ n, GoodText x n) → ∀ H', Ex H H' → E (.ref A.eNoText) none H')) ∨
   (∃ ty, Vt K H v ty ∧ kitB ty "str" = some false ∧ ∀ H', Ex H H' → E (.ref A.eNoText) none H'))
theorem len_read (K : PySem.W.Frag) (A : Ads) : ∀ vs H Q E, sp_read K A vs H Q E → vs.length = (["text"] : List Str).length := by
  rintro _ _ _ _ ⟨_, rfl, _⟩; rfl

def t_read (K : PySem.W.Frag) (A : Ads) (E : XK) : TS :=
  (tSeq (tIfS (tNot (tB (tCB (rIsi K) (tCons (tVar 0) (tCons (tC (.ty "str")) tNil))))) (tRaiseE E A.eNoText) tNext)
    (tSeq (tAsg (tLst tNil) (gName 1))
    (tSeq (tAsg (tC (.int 0)) (gName 2))
    (tSeq (tFor (iEnum K (tCons (tM1 rSplit (tVar 0) (tC (.str "\n"))) tNil)) (gTup K 2 (gCons (gName 3) (gCons (gName 4) gNil))) (tSeq (tAsg (tM1 rSplit (tVar 4) (tC (.str " "))) (gName 5))
    (tSeq (tIfS (tOr (tTest (tOp rNe (tOp (rIxL K) (tVar 5) (tC (.int 0))) (tOp (rIxL K) (tLst (tCons (tC (.str "tie")) (tCons (tC (.str "places")) tNil))) (tCB rInt1 (tCons (tOp rEq (tVar 3) (tC (.int 0))) tNil))))) (tTest (tOp rNe (tCB (rLenS K) (tCons (tVar 5) tNil)) (tOp (rIxL K) (tLst (tCons (tC (.int 4)) (tCons (tC (.int 2)) tNil))) (tCB rInt1 (tCons (tOp rEq (tVar 3) (tC (.int 0))) tNil)))))) (tRaiseE E A.eNoText) tNext)
    (tSeq (tAsg (tLc (iList K (tSl (rSlL K) (tVar 5) (tPart (tC (.int 1))) tNoPart)) (gName 7) tYes (tCall (sp_number_of K A) [] E (tCons (tVar 7) tNil)) [7]) (gName 6))
    (tIfS (tTest (tOp rEq (tVar 3) (tC (.int 0)))) (tAsg (tOp (rIxL K) (tVar 6) (tC (.int 0))) (gName 2)) (tDrop (tBM K "list" rAppend (tVar 1) (tCons (tTup (tCons (tOp (rIxL K) (tVar 6) (tC (.int 0))) (tCons (tOp (rIxL K) (tVar 6) (tC (.int 1))) (tCons (tOp (rIxL K) (tVar 6) (tC (.int 2))) tNil)))) tNil))))))))
    (tTryN K A.eNoNet A.eNoText 8 E (fun EW => (tRet (tMake A.C (sp_init K A) [] EW (tCons (tVar 2) (tCons (tVar 1) tNil))))))))))

section
variable {K : PySem.W.Frag} {A : Ads}
theorem rows_inj {m n : Net} (hm : ∀ t ∈ m.ties, 0 ≤ t.2.2) (hn : ∀ t ∈ n.ties, 0 ≤ t.2.2) (h0 : ((rowsR m).map rowL).map SX.S = ((rowsR n).map rowL).map SX.S) : m = n := by
  have h1 := h0.symm
  have hr : rowsR n = rowsR m := by
    have key : ∀ (a b : List RowR), (∀ r ∈ a, 32 ∉ r.1) → (∀ r ∈ b, 32 ∉ r.1) → (a.map rowL).map SX.S = (b.map rowL).map SX.S → a = b := by
      intro a
      induction a with
      | nil => intro b _ _ h; cases b with
        | nil => rfl
        | cons _ _ => cases h
      | cons r a ih =>
        intro b ha hb h
        cases b with
        | nil => cases h
        | cons q b =>
          have h := List.cons.inj h
          have e1 := SX.S_inj h.1
          have e2 : rowW r = rowW q := by
            have z1 := SX.spl_join (c := 32) (sep := []) (parts := rowW r) (by simp [rowW]) (nums_free (by decide) (ha r (by simp)))
            have z2 := SX.spl_join (c := 32) (sep := []) (parts := rowW q) (by simp [rowW]) (nums_free (by decide) (hb q (by simp)))
            have e1 : TL.joinL [32] (rowW r) = TL.joinL [32] (rowW q) := e1
            rw [← z1, e1, z2]
          have e3 := List.cons.inj e2
          have e4 : r.2 = q.2 := by
            have inj : ∀ (x y : List Nat), x.map TL.numL = y.map TL.numL → x = y := by
              intro x
              induction x with
              | nil => intro y h; cases y with
                | nil => rfl
                | cons _ _ => cases h
              | cons u x ih =>
                intro y h
                cases y with
                | nil => cases h
                | cons w y =>
                  have h := List.cons.inj h
                  rw [TL.numL_inj h.1, ih y h.2]
            exact inj _ _ e3.2
          rw [ih b (fun r hr => ha r (by simp [hr])) (fun r hr => hb r (by simp [hr])) h.2, Prod.ext e3.1 e4]
    exact key _ _ (fun r hr => (kw_free hr).2) (fun r hr => (kw_free hr).2) h1
  have h2 := List.cons.inj hr
  have hmany : n.many = m.many := by
    have := congrArg Prod.snd h2.1
    exact (List.cons.inj this).1
  have hties : ∀ (a b : List Tie), (∀ t ∈ a, 0 ≤ t.2.2) → (∀ t ∈ b, 0 ≤ t.2.2) → a.map tieR = b.map tieR → a = b := by
    intro a
    induction a with
    | nil => intro b _ _ h; cases b with
      | nil => rfl
      | cons _ _ => cases h
    | cons t a ih =>
      intro b ha hb h
      cases b with
      | nil => cases h
      | cons u b =>
        have h := List.cons.inj h
        have e := congrArg Prod.snd h.1
        have e1 := List.cons.inj e
        have e2 := List.cons.inj e1.2
        have e3 := List.cons.inj e2.2
        have p1 := ha t (by simp)
        have p2 := hb u (by simp)
        have : t = u := Prod.ext e1.1 (Prod.ext e2.1 (by
          have := e3.1
          show t.2.2 = u.2.2
          omega))
        rw [this, ih b (fun r hr => ha r (by simp [hr])) (fun r hr => hb r (by simp [hr])) h.2]
  have := hties _ _ hn hm h2.2
  cases m; cases n
  simp only at hmany this
  rw [hmany, this]
theorem txt_inj {m n : Net} (hm : m.Ok) (hn : n.Ok) (h : txt m = txt n) : m = n := rows_inj (fun t ht => by have := (hm.all t ht).2.2.2.1; omega) (fun t ht => by have := (hn.all t ht).2.2.2.1; omega) (by rw [← split_txt, h, split_txt])
/-- what a row of a good text is -/
theorem good_row {x : Str} {n : Net} (g : GoodText x n) {i : Nat} {w : Str} (hw : (Txt.split x "\n")[i]? = some w) : ∃ r, (rowsR n)[i]? = some r ∧ w = SX.S (rowL r) ∧ Txt.split w " " = (rowW r).map SX.S ∧ r.1 = (if decide (i = 0) then placesL else tieL) ∧ r.2.length + 1 = (if decide (i = 0) then 2 else 4) ∧ ∀ k ∈ r.2, k < 10 ^ 10 := by
  obtain ⟨ok, rfl⟩ := g
  rw [split_txt, List.getElem?_map, List.getElem?_map] at hw
  cases hr : (rowsR n)[i]? with
  | none => rw [hr] at hw; cases hw
  | some r =>
    rw [hr] at hw
    have hw : SX.S (rowL r) = w := Option.some.inj hw
    subst hw
    refine ⟨r, rfl, rfl, split_row (List.mem_of_getElem? hr), ?_⟩
    cases i with
    | zero =>
      have : headR n.many = r := Option.some.inj hr
      subst this
      refine ⟨rfl, rfl, fun k hk => ?_⟩
      have : k = n.many := by simpa [headR] using hk
      have := ok.hi
      omega
    | succ j =>
      have hj : (n.ties.map tieR)[j]? = some r := hr
      rw [List.getElem?_map] at hj
      cases ht : n.ties[j]? with
      | none => rw [ht] at hj; cases hj
      | some t =>
        rw [ht] at hj
        have : tieR t = r := Option.some.inj hj
        subst this
        obtain ⟨h1, h2, h3, _⟩ := (ok.all t (List.mem_of_getElem? ht)).small ok.hi
        refine ⟨rfl, rfl, fun k hk => ?_⟩
        have hk : k = t.1 ∨ k = t.2.1 ∨ k = t.2.2.toNat := by simpa [tieR] using hk
        rcases hk with rfl | rfl | rfl
        · exact h1
        · exact h2
        · exact h3
theorem paired_at {α β : Type} {R : α → β → Prop} : ∀ {as : List α} {bs : List β} {i : Nat} {a : α}, Paired R as bs → as[i]? = some a → ∃ b, bs[i]? = some b ∧ R a b
  | _, _, _, _, .nil, h => by simp at h
  | _, _, 0, _, .cons r _, h => ⟨_, rfl, by simp at h; subst h; exact r⟩
  | _, _, i + 1, _, .cons _ t, h => by
    obtain ⟨b, h1, h2⟩ := paired_at (i := i) t (by simpa using h)
    exact ⟨b, by simpa using h1, h2⟩
theorem c_numbers {σ : L2.St} {H : Hp} {tl : TE} {E : XK} {Q : VK} {j : Nat} {vs : List Nat} {ws : List Str} (hl : EvL tl σ H (ws.map V.str)) (hz : ws.length ≤ 1000) (hw : ∀ x, wipe ((wipe σ vs).set j (some x)) vs = wipe σ vs) (hlen : ∀ w ∈ ws, w.length ≤ 100000) (hv : ∀ x : V, ((wipe σ vs).set j (some x))[j]? = some (some x))
    (k : ∀ (ns : List Nat) l H', Paired isNum ws ns → H l = none → Ex H H' → H' l = some (.lst (ns.map vi)) → Q (.ref l) H') (kx : (¬ ∃ ns : List Nat, Paired isNum ws ns) → ∀ H', Ex H H' → E (.ref A.eNoText) none H') :
    tLc (iList K tl) (gName j) tYes (tCall (sp_number_of K A) [] E (tCons (tVar j) tNil)) vs σ H Q := by
  refine hl H (Ex.refl H) _ fun p H1 hp e1 h1 => ⟨p, rfl, ⟨_, sq_of h1⟩, fun D hD => ?_⟩
  refine lc_it (walk_list (K := K) (a := p) (xs := ws.map V.str)) (fun i H' => Ex H1 H' ∧ ∃ ns : List Nat, Paired isNum (ws.take i) ns ∧ H' D = some (.lst (ns.map vi))) ⟨Ex.new hD, [], .nil, upd_same⟩ (fun i H' _ q => sq_of (q.1 _ _ h1)) ?_ ?_
  · rintro i x H2 H3 hi ⟨e, ns, pn, hn⟩ ⟨rfl, hx⟩
    rw [List.getElem?_map] at hx
    cases hwi : ws[i]? with
    | none => rw [hwi] at hx; cases hx
    | some w =>
    rw [hwi] at hx
    have hx : V.str w = x := Option.some.inj hx
    subst hx
    refine ⟨hw _, ty_go ?_⟩
    rw [if_pos rfl]
    refine c_call (vs := [.str w]) (ea_cons (ev_var (hv _)) ea_nil) fun H4 e4 => ⟨w, rfl, hlen w (List.mem_of_getElem? hwi), fun n hnum H5 e5 => ?_, fun hbad H5 e5 => kx (fun ⟨ns', hp'⟩ => ?_) H5 (((e1.trans e).trans e4).trans e5)⟩
    · have pl := Paired.length pn
      rw [List.length_map] at hi
      rw [List.length_take] at pl
      refine ⟨_, (e4.trans e5) _ _ hn, by rw [List.length_map]; exact sz_lt (by omega), ((e.trans e4).trans e5).mut hD, ns ++ [n], ?_, ?_⟩
      · rw [take_succ_of hwi]
        exact paired_snoc pn hnum
      · rw [List.map_append]; exact upd_same
    · obtain ⟨b, _, hb⟩ := paired_at hp' hwi
      exact hbad ⟨b, hb⟩
  · rintro H' ⟨e, ns, pn, hn⟩
    rw [List.length_map, List.take_length] at pn
    exact k ns D H' pn (fresh_back e1 hD) (e1.trans e) hn
theorem words_of : ∀ {ws : List Str} {ns : List Nat}, Paired isNum ws ns → ws = (ns.map TL.numL).map SX.S
  | _, _, .nil => rfl
  | _, _, .cons h t => by
    rw [List.map_cons, List.map_cons, ← words_of t, h.2]
theorem nums_of : ∀ {ns : List Nat}, (∀ k ∈ ns, k < 10 ^ 10) → Paired isNum ((ns.map TL.numL).map SX.S) ns
  | [], _ => .nil
  | k :: r, h => .cons ⟨h k (by simp), rfl⟩ (nums_of fun q hq => h q (by simp [hq]))
theorem join_row {w : Str} {kw : List Nat} {ns : List Nat} (h : Txt.split w " " = SX.S kw :: (ns.map TL.numL).map SX.S) : w = SX.S (rowL (kw, ns)) := by
  have e := StrLaws.join_split w " "
  rw [h, show (" " : Str) = SX.S [32] by decide +kernel] at e
  rw [← e, show (SX.S kw :: (ns.map TL.numL).map SX.S) = (rowW (kw, ns)).map SX.S from rfl]
  rw [← TL.join_eq]
  exact SX.join_S [32] (rowW (kw, ns))
theorem join_rows {x : Str} {n : Net} (h : Txt.split x "\n" = ((rowsR n).map rowL).map SX.S) : x = txt n := by
  have e := StrLaws.join_split x "\n"
  rw [h, show ("\n" : Str) = SX.S [10] by decide +kernel] at e
  rw [← e]
  rw [← TL.join_eq]
  exact SX.join_S [10] ((rowsR n).map rowL)
theorem split_ne (x y : Str) : ∃ w ws, Txt.split x y = w :: ws := by
  have := PyProof.Rows.split_pos x y
  cases h : Txt.split x y with
  | nil => rw [h] at this; exact absurd this (by decide)
  | cons w ws => exact ⟨w, ws, rfl⟩
end

section
variable {K : PySem.W.Frag} {A : Ads}
theorem bnf {b : Bool} (h : (!b) = false) : b = true := by
  cases b
  · cases h
  · rfl
/-- the rows read so far -/
def rowsP (many : Nat) (ts : List Tie) : Nat → List RowR
  | 0 => []
  | _ + 1 => headR many :: ts.map tieR
theorem part_len (x y : Str) : ∀ w ∈ Txt.split x y, w.length ≤ x.length := fun w h => PyProof.Rows.part_short h
theorem pure_read (nc : NetC K A) (ec : ErrC K A) (vs : List V) (H : Hp) (Q : VK) (E : XK) (h : sp_read K A vs H Q E) : t_read K A E { nx := fun _ H' => Q .non H', rt := Q } (start ["text", "ties", "many", "at", "row", "words", "numbers", "word"] vs) H := by
  obtain ⟨v, rfl, h⟩ := h
  unfold t_read
  show tSeq _ _ _ [some v, none, none, none, none, none, none, none] H
  rcases h with ⟨x, rfl, hxl, hrl, k1, k2⟩ | ⟨ty, hty, hk, kx⟩
  case inr =>
    exact q_yes (et_not (a := false) (et_B (ev_cb (ea_cons (ev_var rfl) (ea_cons ev_c ea_nil)) (rc_isi hty hk)))) fun H0 e0 => kx H0 e0
  refine q_skip (et_not (a := true) (by walk_at "ev")) fun H0 e0 => ?_
  refine q_asgL (xs := []) (el_lst ea_nil (by decide)) fun l H1 hl e1 h1 => ?_
  refine q_asg (v := vi 0) ev_c fun H2 e2 => ?_
  show tSeq _ _ _ [some (.str x), some (.ref l), some (vi 0), none, none, none, none, none] H2
  have hlH : H l = none := fresh_back e0 hl
  refine q_forE (el_split (x := x) (y := "\n") (ev_var rfl) ev_c (by decide +kernel) hxl) (fun p i σ G => ∃ (w3 w4 w5 w6 : Option V) (as : List Addr) (many : Nat) (ts : List Tie), σ = [some (.str x), some (.ref l), some (vi (if i = 0 then 0 else many)), w3, w4, w5, w6, none] ∧ Ex H G ∧ G l = some (.lst (as.map V.ref)) ∧ TiesAt G as ts ∧ (∀ t ∈ ts, 0 ≤ t.2.2) ∧ ts.length = i - 1 ∧
      (Txt.split x "\n").take i = (rowsP many ts i).map (fun r => SX.S (rowL r)) ∧ G p = some (.lst ((Txt.split x "\n").map V.str)) ∧ p ≠ l)
    (fun p G hp e hG => ⟨none, none, none, none, [], 0, [], rfl, ((e0.trans e1).trans e2).trans e, e _ _ (e2 _ _ h1), .nil, (fun _ q => nomatch q), rfl, rfl, hG, fun q => by
      rw [q] at hp
      rw [e2 _ _ h1] at hp
      cases hp⟩) (fun p i σ G ⟨_, _, _, _, _, _, _, _, _, _, _, _, _, _, hG, _⟩ => sq_of hG) ?_ ?_
  · rintro p i xv σ G G' hx ⟨w3, w4, w5, w6, as, many, ts, rfl, e, hG, hta, hnn, htl, hrows, hp, hne⟩ eG
    rw [List.getElem?_map] at hx
    cases hw : (Txt.split x "\n")[i]? with
    | none => rw [hw] at hx; cases hx
    | some w =>
    rw [hw] at hx
    have hx : V.str w = xv := Option.some.inj hx
    subst hx
    have hwm := List.mem_of_getElem? hw
    have hwl : w.length ≤ 99998 := Nat.le_trans (part_len x _ w hwm) hxl
    have hil := (List.getElem?_eq_some_iff.mp hw).1
    show tSeq _ _ _ [some (.str x), some (.ref l), some (vi (if i = 0 then 0 else many)), some (vi i), some (.str w), w5, w6, none] G'
    have e' := e.trans eG
    have hl' := eG _ _ hG
    have hp' := eG _ _ hp
    refine q_asgL (el_split (x := w) (y := " ") (ev_var rfl) ev_c (by decide +kernel) hwl) fun wl G1 hwl1 e1' hw1 => ?_
    obtain ⟨w0, ws, hws⟩ := split_ne w " "
    rw [hws] at hw1
    have heqi : ∀ (w5 w6 w7 : Option V) G, Ev (tOp rEq (tVar 3) (tC (.int 0))) [some (.str x), some (.ref l), some (vi (if i = 0 then 0 else many)), some (vi i), some (.str w), w5, w6, w7] G (.bl (decide (i = 0))) := fun w5 w6 w7 G => by
      have := ev_op (ta := tVar 3) (tb := tC (.int 0)) (σ := [some (.str x), some (.ref l), some (vi (if i = 0 then 0 else many)), some (vi i), some (.str w), w5, w6, w7]) (H := G) (x := .int (i : Int)) (y := .int 0) (ev_var rfl) ev_c rv_eqI
      rw [show decide ((i : Int) = 0) = decide (i = 0) from by
        by_cases q : i = 0
        · rw [decide_eq_true q, decide_eq_true (by omega)]
        · rw [decide_eq_false q, decide_eq_false (by omega)]] at this
      exact this
    show tSeq _ _ _ [some (.str x), some (.ref l), some (vi (if i = 0 then 0 else many)), some (vi i), some (.str w), some (.ref wl), w6, none] G1
    -- the first word and their number
    refine q_when (b := (!decide (w0 = (if decide (i = 0) then ("places" : Str) else "tie"))) || !decide ((ws.length : Int) + 1 = (if decide (i = 0) then 2 else 4))) (et_or (et_test (ev_op (x := .str w0) (y := .str (if decide (i = 0) then ("places" : Str) else "tie")) (ev_op (x := .ref wl) (y := .int 0) (ev_var rfl) ev_c (rv_ixL (sq_of hw1) (atI_nat (j := 0) rfl))) (ev_is (ev_pick (heqi _ _ _ _)) (by cases decide (i = 0) <;> rfl)) rv_neS)) fun _ =>
      et_test (ev_op (x := .int ((ws.length : Int) + 1)) (y := .int (if decide (i = 0) then 2 else 4)) (ev_is (ev_cb (ea_cons (ev_var rfl) ea_nil) (rc_lenL (sq_of hw1))) (by rw [List.length_map, List.length_cons]; rfl)) (ev_is (ev_pick (heqi _ _ _ _)) (by cases decide (i = 0) <;> rfl)) rv_neI)) (fun hb G2 e2' => k2 ?_ G2 ((e'.trans e1').trans e2')) (fun hb G2 e2' => ?_)
    · rintro ⟨n, g⟩
      obtain ⟨r, hr, hwr, hsp, hkw, hct, _⟩ := good_row g hw
      rw [hws] at hsp
      have hsp := List.cons.inj hsp
      have hlen := congrArg List.length hsp.2
      simp only [List.length_map] at hlen
      rw [Bool.or_eq_true, Bool.not_eq_true', Bool.not_eq_true', decide_eq_false_iff_not, decide_eq_false_iff_not] at hb
      rcases hb with hb | hb
      · refine hb ?_
        rw [hsp.1, hkw]
        cases decide (i = 0)
        · exact lit_tie3.symm
        · exact lit_places3.symm
      · refine hb ?_
        cases hd : decide (i = 0)
        · rw [hd] at hct
          simp only [Bool.false_eq_true, if_false] at hct ⊢
          omega
        · rw [hd] at hct
          simp only [if_true] at hct ⊢
          omega
    have hb' := Bool.or_eq_false_iff.mp hb
    have hb1 := of_decide_eq_true (bnf hb'.1)
    have hb2 := of_decide_eq_true (bnf hb'.2)
    have hw2 := e2' _ _ hw1
    have e02 := (e'.trans e1').trans e2'
    have hwsl : ws.length ≤ 3 := by
      cases hd : decide (i = 0)
      · rw [hd] at hb2
        simp only [Bool.false_eq_true, if_false] at hb2
        omega
      · rw [hd] at hb2
        simp only [if_true] at hb2
        omega
    have hsl : EvL (tSl (rSlL K) (tVar 5) (tPart (tC (.int 1))) tNoPart) [some (.str x), some (.ref l), some (vi (if i = 0 then 0 else many)), some (vi i), some (.str w), some (.ref wl), w6, none] G2 (ws.map V.str) := by
      have := el_sl (K := K) (σ := [some (.str x), some (.ref l), some (vi (if i = 0 then 0 else many)), some (vi i), some (.str w), some (.ref wl), w6, none]) (te := tVar 5) (ev_var rfl) (eo_some (te := tC (.int 1)) (i := 1) ev_c) eo_none (sq_of hw2)
      rw [List.map_cons, cutV_drop1] at this
      exact this
    refine q_asg0 (c_numbers (K := K) (A := A) hsl (by omega) (fun _ => rfl) (fun z hz => by
      have : z ∈ Txt.split w " " := by rw [hws]; exact List.mem_cons_of_mem _ hz
      have := part_len w _ z this
      omega) (fun _ => rfl) (fun ns nl G3 hpn hnl e3 hn3 => ?_) fun hbad G3 e3 => k2 ?_ G3 (e02.trans e3))
    case refine_2 =>
      rintro ⟨n, g⟩
      obtain ⟨r, hr, hwr, hsp, _, _, hkb⟩ := good_row g hw
      rw [hws] at hsp
      have hsp := (List.cons.inj hsp).2
      refine hbad ⟨r.2, ?_⟩
      rw [hsp]
      exact nums_of hkb
    show tIfS _ _ _ _ [some (.str x), some (.ref l), some (vi (if i = 0 then 0 else many)), some (vi i), some (.str w), some (.ref wl), some (.ref nl), none] G3
    have e03 := e02.trans e3
    have e13 := (e1'.trans e2').trans e3
    have hnsl := Paired.length hpn
    have hwrow : ∀ kw : List Nat, w0 = SX.S kw → w = SX.S (rowL (kw, ns)) := fun kw hkw => join_row (by rw [hws, hkw, words_of hpn])
    cases i with
    | zero =>
      have h2 : ws.length = 1 := by
        have : (ws.length : Int) + 1 = 2 := hb2
        omega
      match ns, hnsl with
      | [m], _ =>
        refine s_yes (et_test (heqi _ _ _ _)) fun G4 e4 => ?_
        refine s_asg (v := vi m) (ev_op (x := .ref nl) (y := .int 0) (ev_var rfl) ev_c (rv_ixL (sq_of (e4 _ _ hn3)) (atI_nat (j := 0) rfl))) fun G5 e5 => ?_
        have e35 := e4.trans e5
        have hts : ts = [] := List.length_eq_zero_iff.mp htl
        subst hts
        have has : as = [] := List.length_eq_zero_iff.mp (Paired.length hta)
        subst has
        refine ⟨_, _, _, _, [], m, [], rfl, e03.trans e35, e35 _ _ (e13 _ _ hl'), .nil, (fun _ q => nomatch q), rfl, ?_, e35 _ _ (e13 _ _ hp'), hne⟩
        rw [take_succ_of hw]
        show [] ++ [w] = [SX.S (rowL (headR m))]
        rw [hwrow placesL (hb1.trans lit_places3)]
        rfl
      | [], h => rw [h2] at h; cases h
      | _ :: _ :: _, h => rw [h2] at h; cases h
    | succ j =>
      have h4 : ws.length = 3 := by
        have : (ws.length : Int) + 1 = 4 := hb2
        omega
      match ns, hnsl with
      | [a, b, c], _ =>
        refine s_no (et_test (heqi _ _ _ _)) fun G4 e4 => ?_
        have hn4 := sq_of (K := K) (e4 _ _ hn3)
        have hal : as.length = ts.length := Paired.length hta
        refine s_appU (l := l) (xs := as.map V.ref) (ys := tieV (a, b, (c : Int))) (e4 _ _ (e13 _ _ hl')) (ev_var rfl) (eu_tup (ea_cons (ev_op (x := .ref nl) (y := .int 0) (ev_var rfl) ev_c (rv_ixL hn4 (atI_nat (j := 0) rfl))) (ea_cons (ev_op (x := .ref nl) (y := .int 1) (ev_var rfl) ev_c (rv_ixL hn4 (atI_nat (j := 1) rfl))) (ea_cons (ev_op (x := .ref nl) (y := .int 2) (ev_var rfl) ev_c (rv_ixL hn4 (atI_nat (j := 2) rfl))) ea_nil))) (by show 3 ≤ 100000; decide)) (by rw [List.length_map, hal, htl]; omega) fun q G5 hq e5 h5 => ?_
        have hta5 := (((hta.mono eG).mono e13).mono e4).mono e5
        have e15 := (e13.trans e4).trans e5
        refine ⟨_, _, _, _, as ++ [q], many, ts ++ [(a, b, (c : Int))], rfl, ((e03.trans e4).trans e5).mut hlH, ?_, ?_, fun t ht => ?_, by rw [List.length_append, htl]; rfl, ?_, (upd_ne hne).trans (e15 _ _ hp'), hne⟩
        · rw [List.map_append]; exact upd_same
        · exact paired_snoc (hta5.upd (e15 _ _ hl')) (by rw [upd_ne (ne_of h5 (e15 _ _ hl') (by intro z; cases z))]; exact h5)
        · rcases List.mem_append.mp ht with z | z
          · exact hnn t z
          · rw [List.mem_singleton] at z
            subst z
            show 0 ≤ (c : Int)
            omega
        · rw [take_succ_of hw, hrows, hwrow tieL (hb1.trans lit_tie3)]
          show (headR many :: ts.map tieR).map (fun r => SX.S (rowL r)) ++ [SX.S (rowL (tieL, [a, b, c]))] = (headR many :: (ts ++ [(a, b, (c : Int))]).map tieR).map fun r => SX.S (rowL r)
          rw [List.map_append, ← List.cons_append, List.map_append]
          rfl
      | [], h => rw [h4] at h; cases h
      | [_], h => rw [h4] at h; cases h
      | [_, _], h => rw [h4] at h; cases h
      | _ :: _ :: _ :: _ :: _, h => rw [h4] at h; simp at h
  · rintro p σ G ⟨w3, w4, w5, w6, as, many, ts, rfl, e, hG, hta, hnn, htl, hrows, -, -⟩
    rw [List.length_map] at htl hrows ⊢
    rw [List.take_length] at hrows
    have hpos := PyProof.Rows.split_pos x "\n"
    obtain ⟨L, hL⟩ : ∃ L, (Txt.split x "\n").length = L + 1 := ⟨(Txt.split x "\n").length - 1, by omega⟩
    rw [hL] at hrows htl ⊢
    have hx : x = txt ⟨many, ts⟩ := join_rows (by
      rw [hrows, List.map_map]
      rfl)
    rw [if_neg (by omega)]
    show tRet (tMake A.C (sp_init K A) [] _ (tCons (tVar 2) (tCons (tVar 1) tNil))) _ _ _
    refine s_ret0 (c_make (vs := [vi many, .ref l]) (ea_cons (ev_var rfl) (ea_cons (ev_var rfl) ea_nil)) fun H6 e6 y dx hx6 hdx _ => ?_)
    by_cases ok : Net.Ok ⟨many, ts⟩
    · exact ⟨H6, y, dx, vi many, .ref l, rfl, (Ex.new hdx).mut hx6, hx6, upd_same, kd_int, .inl ⟨many, l, as, ts, rfl, rfl, e6 _ _ hG, hta.mono e6, ok, fun H7 s e7 N _ _ _ _ _ => ⟨rfl, k1 _ ⟨ok, hx⟩ y s H7 N ((e.trans e6).trans e7)⟩⟩⟩
    · have none_ : ¬ ∃ n, GoodText x n := by
        rintro ⟨n, okn, hn⟩
        have h1 := split_txt n
        rw [← hn, hrows] at h1
        have h1 : ((rowsR ⟨many, ts⟩).map rowL).map SX.S = ((rowsR n).map rowL).map SX.S := by
          rw [List.map_map]
          exact h1
        have : (⟨many, ts⟩ : Net) = n := rows_inj (by
          intro t ht
          exact hnn t ht) (fun t ht => by have := (okn.all t ht).2.2.2.1; omega) h1
        rw [this] at ok
        exact ok okn
      refine ⟨H6, y, dx, vi many, .ref l, rfl, (Ex.new hdx).mut hx6, hx6, upd_same, kd_int, .inr ⟨?_, fun H7 e7 => fun σ' hσ' => ⟨true, ec.own .net, fun _ a ha => k2 none_ H7 ((e.trans e6).trans e7), fun q => nomatch q⟩⟩⟩
      by_cases hm : 1 ≤ many ∧ many ≤ 24
      · refine .inr ⟨many, rfl, hm.1, hm.2, .inr ⟨l, as.map V.ref, rfl, e6 _ _ hG, ?_, TiesAt.kinds (hta.mono e6), ?_⟩⟩
        · rw [List.length_map, Paired.length hta, htl]
          omega
        · rintro ⟨as', ts', hre, hta', hfew, hok⟩
          have := map_ref_inj hre
          subst this
          have := TiesAt.inj (hta.mono e6) hta'
          subst this
          exact ok ⟨hm.1, hm.2, hfew, hok⟩
      · refine .inl fun ⟨m', hm', q1, q2⟩ => hm ?_
        have := vi_inj hm'
        omega
end

/-! ### k11: promises -/
/-- a text that writes no net -/
def BadStr (x : Str) : Prop := x.length ≤ 99998 ∧ (Txt.split x "\n").length ≤ 1000 ∧ ¬ ∃ n, GoodText x n
def BadText (K : PySem.W.Frag) : V → Hp → Prop := fun v H => (∃ x, v = .str x ∧ BadStr x) ∨ (∃ ty, Vt K H v ty ∧ kitB ty "str" = some false)
theorem BadText.pm {K : PySem.W.Frag} : PM (BadText K) := fun v H H' e h => by
  rcases h with h | ⟨ty, h, q⟩
  · exact .inl h
  · exact .inr ⟨ty, h.mono e, q⟩
def sp_l_number (_ : PySem.W.Frag) (_ : Ads) : Sp := fun vs H Q _ => ∃ w : Str, vs = [.str w] ∧ w.length ≤ 100000 ∧ (∀ n, isNum w n → ∀ H', Ex H H' → Q (vi n) H') ∧ ((¬ ∃ n, isNum w n) → ∀ H', Ex H H' → Q (.int (-1)) H')
def sp_l_due11 (_ : PySem.W.Frag) (_ : Ads) : Sp := fun vs H Q _ => ∃ x : Str, vs = [.str x] ∧ x.length ≤ 99998 ∧ (Txt.split x "\n").length ≤ 1000 ∧
  (∀ n, GoodText x n → ∀ q l as H', H q = none → Ex H H' → H' q = some (.lst [vi n.many, .ref l]) → H' l = some (.lst (as.map V.ref)) → TiesAt H' as n.ties → Q (.ref q) H') ∧ ((¬ ∃ n, GoodText x n) → ∀ q H', H q = none → Ex H H' → H' q = some (.lst []) → Q (.ref q) H')
def sp_l_refused (K : PySem.W.Frag) (_ : Ads) : Sp := fun vs H Q _ => ∃ v, vs = [v] ∧ BadText K v H ∧ ∀ H', Ex H H' → Q (.bl true) H'
def sp_l_odd (_ : PySem.W.Frag) (_ : Ads) : Sp := fun vs H Q _ => ∃ c : Int, vs = [.int c] ∧ ∀ x H', Ex H H' → BadStr x → Q (.str x) H'
def signsS : Str := " 0123456789zyxwvutsrqponmlkjihgfedcbaZYXWVUTSRQPONMLKJIHGFEDCBA" ++ "\x0a\x09!?.,:;'\"`~|-_+*/\\=<>()[]{}#$&@^"
def sp_l_signs (_ : PySem.W.Frag) (_ : Ads) : Sp := fun vs H Q _ => vs = [] ∧ ∀ H', Ex H H' → Q (.str signsS) H'
def sp_l_sign_by (_ : PySem.W.Frag) (_ : Ads) : Sp := fun vs H Q _ => ∃ c : Int, vs = [.int c] ∧ ∀ x H', Ex H H' → x.length ≤ 1 → Q (.str x) H'
def sp_l_no_blank (_ : PySem.W.Frag) (_ : Ads) : Sp := fun vs H Q _ => ∃ i : Nat, vs = [vi i] ∧ 1 ≤ i ∧ i ≤ 4 ∧ ∀ H', Ex H H' → Q (.bl true) H'
def sp_l_good (K : PySem.W.Frag) (_ : Ads) : Sp := fun vs H Q _ => ∃ (a : Addr) (ns : List Int) (m : Nat), vs = [.ref a, vi m] ∧ SqL K H a (ns.map V.int) ∧ 2 ≤ m ∧ m ≤ 24 ∧ ∀ x H', Ex H H' → 1 ≤ x.length → x.length ≤ 400 → Q (.str x) H'
abbrev sp_law (K : PySem.W.Frag) (_ : Ads) : Sp := spLaw K
section
variable (K : PySem.W.Frag) (A : Ads)
theorem len_l_number : ∀ vs H Q E, sp_l_number K A vs H Q E → vs.length = (["_law_word"] : List Str).length := by
  rintro _ _ _ _ ⟨_, rfl, _⟩; rfl
theorem len_l_due11 : ∀ vs H Q E, sp_l_due11 K A vs H Q E → vs.length = (["_law_text"] : List Str).length := by
  rintro _ _ _ _ ⟨_, rfl, _⟩; rfl
theorem len_l_refused : ∀ vs H Q E, sp_l_refused K A vs H Q E → vs.length = (["_law_text"] : List Str).length := by
  rintro _ _ _ _ ⟨_, rfl, _⟩; rfl
theorem len_l_odd : ∀ vs H Q E, sp_l_odd K A vs H Q E → vs.length = (["_law_cell"] : List Str).length := by
  rintro _ _ _ _ ⟨_, rfl, _⟩; rfl
theorem len_l_signs : ∀ vs H Q E, sp_l_signs K A vs H Q E → vs.length = ([] : List Str).length := by
  rintro _ _ _ _ ⟨rfl, _⟩; rfl
theorem len_l_sign_by : ∀ vs H Q E, sp_l_sign_by K A vs H Q E → vs.length = (["_law_cell"] : List Str).length := by
  rintro _ _ _ _ ⟨_, rfl, _⟩; rfl
theorem len_l_no_blank : ∀ vs H Q E, sp_l_no_blank K A vs H Q E → vs.length = (["_law_at"] : List Str).length := by
  rintro _ _ _ _ ⟨_, rfl, _⟩; rfl
theorem len_l_good : ∀ vs H Q E, sp_l_good K A vs H Q E → vs.length = (["_law_script", "_law_many"] : List Str).length := by
  rintro _ _ _ _ ⟨_, _, _, rfl, _⟩; rfl
theorem len_law : ∀ vs H Q E, sp_law K A vs H Q E → vs.length = (["_law_script"] : List Str).length := by
  rintro _ _ _ _ ⟨_, _, rfl, _⟩; rfl
end

def t_l_number (K : PySem.W.Frag) (A : Ads) : TS :=
  (tSeq (tIfS (tOr (tTest (tOp rEq (tVar 0) (tC (.str "")))) (tOr (tTest (tOp rGt1 (tCB rLenStr (tCons (tVar 0) tNil)) (tC (.int 10)))) (tAnd (tTest (tOp rEq (tOp rIxS (tVar 0) (tC (.int 0))) (tC (.str "0")))) (tTest (tOp rNe (tVar 0) (tC (.str "0"))))))) (tRet (tUn rNeg (tC (.int 1)))) tNext)
    (tSeq (tFor (iStr (tVar 0)) (gName 1) (tIfS (tTest (tOp rNotInS (tVar 1) (tC (.str "0123456789")))) (tRet (tUn rNeg (tC (.int 1)))) tNext))
    (tRet (tCB rIntStr (tCons (tVar 0) tNil)))))

def t_l_due11 (K : PySem.W.Frag) (A : Ads) : TS :=
  (tSeq (tAsg (tLc (iList K (tM1 rSplit (tVar 0) (tC (.str "\x0a")))) (gName 4) tYes (tM1 rSplit (tVar 4) (tC (.str " "))) [4]) (gName 1))
    (tSeq (tIfS (tOr (tTest (tOp rNe (tCB (rLenS K) (tCons (tOp (rIxL K) (tVar 1) (tC (.int 0))) tNil)) (tC (.int 2)))) (tOr (tTest (tOp rNe (tOp (rIxL K) (tOp (rIxL K) (tVar 1) (tC (.int 0))) (tC (.int 0))) (tC (.str "places")))) (tOr (tNot (tTest (tChain rLe rLe (tC (.int 1)) (tCall (sp_l_number K A) [] E0 (tCons (tOp (rIxL K) (tOp (rIxL K) (tVar 1) (tC (.int 0))) (tC (.int 1))) tNil)) (tC (.int 24))))) (tTest (tOp rGt1 (tCB (rLenS K) (tCons (tVar 1) tNil)) (tC (.int 301))))))) (tRet (tLst tNil)) tNext)
    (tSeq (tAsg (tCall (sp_l_number K A) [] E0 (tCons (tOp (rIxL K) (tOp (rIxL K) (tVar 1) (tC (.int 0))) (tC (.int 1))) tNil)) (gName 2))
    (tSeq (tAsg (tLst tNil) (gName 3))
    (tSeq (tFor (iList K (tSl (rSlL K) (tVar 1) (tPart (tC (.int 1))) tNoPart)) (gName 4) (tSeq (tIfS (tOr (tTest (tOp rNe (tCB (rLenS K) (tCons (tVar 4) tNil)) (tC (.int 4)))) (tTest (tOp rNe (tOp (rIxL K) (tVar 4) (tC (.int 0))) (tC (.str "tie"))))) (tRet (tLst tNil)) tNext)
    (tSeq (tAsg (tTup (tCons (tCall (sp_l_number K A) [] E0 (tCons (tOp (rIxL K) (tVar 4) (tC (.int 1))) tNil)) (tCons (tCall (sp_l_number K A) [] E0 (tCons (tOp (rIxL K) (tVar 4) (tC (.int 2))) tNil)) (tCons (tCall (sp_l_number K A) [] E0 (tCons (tOp (rIxL K) (tVar 4) (tC (.int 3))) tNil)) tNil)))) (gName 5))
    (tSeq (tIfS (tOr (tNot (tTest (tChain rLe rLt (tC (.int 0)) (tOp (rIxT K) (tVar 5) (tC (.int 0))) (tVar 2)))) (tOr (tNot (tTest (tChain rLe rLt (tC (.int 0)) (tOp (rIxT K) (tVar 5) (tC (.int 1))) (tVar 2)))) (tOr (tTest (tOp rEq (tOp (rIxT K) (tVar 5) (tC (.int 0))) (tOp (rIxT K) (tVar 5) (tC (.int 1))))) (tNot (tTest (tChain rLe rLe (tC (.int 1)) (tOp (rIxT K) (tVar 5) (tC (.int 2))) (tC (.int 1000000000)))))))) (tRet (tLst tNil)) tNext)
    (tDrop (tBM K "list" rAppend (tVar 3) (tCons (tVar 5) tNil)))))))
    (tRet (tLst (tCons (tVar 2) (tCons (tVar 3) tNil)))))))))

def t_l_refused (K : PySem.W.Frag) (A : Ads) : TS :=
  (tSeq (tTryE K A.eNoText 1 2 (fun EW => (tDrop (tCall (sp_read K A) [] EW (tCons (tVar 0) tNil)))) (fun ea => (tSeq (tIfS (tB (tCB (rIsET K A.eNoText ea) (tCons (tVar 1) (tCons (tTup (tCons (tC (.ref A.eNoNet)) (tCons (tC (.ref A.eNoPlace)) (tCons (tC (.ref A.eNoSide)) tNil)))) tNil)))) (tRet (tC (.bl false))) tNext)
    (tRet (tAndV (tCB (rIsE K A.eNoText ea) (tCons (tVar 1) (tCons (tC (.ref A.eWallError)) tNil))) (tCB (rIsE K A.eNoText ea) (tCons (tVar 1) (tCons (tC (.ty "ValueError")) tNil))))))))
    (tRet (tC (.bl false))))

def t_l_odd (K : PySem.W.Frag) (A : Ads) : TS :=
  (tSeq (tAsg (tLst (tCons (tC (.str "")) (tCons (tC (.str "places")) (tCons (tC (.str "places ")) (tCons (tC (.str "places 0")) (tCons (tC (.str "places 25")) (tCons (tC (.str "places 03")) (tCons (tC (.str "places -1")) (tCons (tC (.str "places +2")) (tCons (tC (.str "places two")) tNil)))))))))) (gName 1))
    (tSeq (tAsg (tOp rCat (tVar 1) (tLst (tCons (tC (.str "Places 2")) (tCons (tC (.str "places 2 ")) (tCons (tC (.str " places 2")) (tCons (tC (.str "places  2")) (tCons (tC (.str "places 2\x0a")) (tCons (tC (.str "\x0aplaces 2")) (tCons (tC (.str "places 2\x0a\x0a")) tNil))))))))) (gName 1))
    (tSeq (tAsg (tLst (tCons (tC (.str "tie 0 1")) (tCons (tC (.str "tie 0 1 5 6")) (tCons (tC (.str "tie 0 0 5")) (tCons (tC (.str "tie 0 2 5")) (tCons (tC (.str "tie 0 1 0")) (tCons (tC (.str "tie 0 1 1000000001")) (tCons (tC (.str "tie 0 1 05")) tNil)))))))) (gName 2))
    (tSeq (tAsg (tOp rCat (tVar 2) (tLst (tCons (tC (.str "tie 0 -1 5")) (tCons (tC (.str "tie 0 1 5 ")) (tCons (tC (.str " tie 0 1 5")) (tCons (tC (.str "Tie 0 1 5")) (tCons (tC (.str "places 2")) (tCons (tC (.str "tie 0 1 5.0")) tNil)))))))) (gName 2))
    (tSeq (tAsg (tOp rCat (tOp rCat (tVar 1) (tLst (tCons (tC (.str "tie 0 1 5")) (tCons (tC (.str "places\x092")) tNil)))) (tLc (iList K (tVar 2)) (gName 3) tYes (tOp rPlusS (tC (.str "places 2\x0a")) (tVar 3)) [3])) (gName 1))
    (tRet (tOp (rIxL K) (tVar 1) (tOp rMod (tVar 0) (tC (.int 31))))))))))

def t_l_signs (K : PySem.W.Frag) (A : Ads) : TS :=
  (tSeq (tAsg (tC (.str " 0123456789zyxwvutsrqponmlkjihgfedcbaZYXWVUTSRQPONMLKJIHGFEDCBA")) (gName 0))
    (tRet (tOp rPlusS (tVar 0) (tC (.str "\x0a\x09!?.,:;'\"`~|-_+*/\\=<>()[]{}#$&@^")))))

def t_l_sign_by (K : PySem.W.Frag) (A : Ads) : TS :=
  (tSeq (tIfS (tTest (tOp rEq (tOp rMod (tVar 0) (tC (.int 2))) (tC (.int 0)))) (tRet (tOp rIxS (tC (.str " \x0a\x09015+_.tipes-#")) (tOp rMod (tOp rFdiv (tVar 0) (tC (.int 2))) (tC (.int 16))))) tNext)
    (tRet (tOp rIxS (tCall (sp_l_signs K A) [] E0 tNil) (tOp rMod (tOp rFdiv (tVar 0) (tC (.int 2))) (tC (.int 96))))))

def t_l_no_blank (K : PySem.W.Frag) (A : Ads) : TS :=
  (tSeq (tAsg (tLst (tCons (tC (.str "places")) (tCons (tC (.str "2\x0atie")) (tCons (tC (.str "0")) (tCons (tC (.str "1")) (tCons (tC (.str "5")) tNil)))))) (gName 1))
    (tSeq (tFor (iStr (tSl C8.rSlX (tCall (sp_l_signs K A) [] E0 tNil) (tPart (tC (.int 1))) tNoPart)) (gName 2) (tIfS (tNot (tB (tCall (sp_l_refused K A) [] E0 (tCons (tOp rPlusS (tOp rPlusS (tM1 (rJoin K) (tC (.str " ")) (tSl (rSlL K) (tVar 1) tNoPart (tPart (tVar 0)))) (tVar 2)) (tM1 (rJoin K) (tC (.str " ")) (tSl (rSlL K) (tVar 1) (tPart (tVar 0)) tNoPart))) tNil)))) (tRet (tC (.bl false))) tNext))
    (tRet (tC (.bl true)))))

def t_l_good (K : PySem.W.Frag) (A : Ads) : TS :=
  (tSeq (tAsg (tLst (tCons (tOp rPlusS (tC (.str "places ")) (tCB rStrI (tCons (tVar 1) tNil))) tNil)) (gName 2))
    (tSeq (tFor (iRng1 (tCons (tOp rMod (tCall (sp_l_cell_at K A) [] E0 (tCons (tVar 0) (tCons (tC (.int 2)) tNil))) (tC (.int 9))) tNil)) (gName 3) (tSeq (tAsg (tCall (sp_l_cell_at K A) [] E0 (tCons (tVar 0) (tCons (tOp rPlus (tC (.int 3)) (tVar 3)) tNil))) (gName 4))
    (tSeq (tAsg (tOp rMod (tVar 4) (tVar 1)) (gName 5))
    (tSeq (tAsg (tOp rMod (tOp rPlus (tOp rPlus (tVar 5) (tC (.int 1))) (tOp rMod (tOp rFdiv (tVar 4) (tVar 1)) (tOp rMinus (tVar 1) (tC (.int 1))))) (tVar 1)) (gName 6))
    (tSeq (tAsg (tOp rPlus (tC (.int 1)) (tOp rMod (tOp rFdiv (tVar 4) (tOp rTimes (tVar 1) (tVar 1))) (tOp (rIxL K) (tLst (tCons (tC (.int 9)) (tCons (tC (.int 1000000000)) tNil))) (tOp rMod (tVar 3) (tC (.int 2)))))) (gName 7))
    (tDrop (tBM K "list" rAppend (tVar 2) (tCons (tOp rPlusS (tOp rPlusS (tOp rPlusS (tOp rPlusS (tOp rPlusS (tC (.str "tie ")) (tCB rStrI (tCons (tVar 5) tNil))) (tC (.str " "))) (tCB rStrI (tCons (tVar 6) tNil))) (tC (.str " "))) (tCB rStrI (tCons (tVar 7) tNil))) tNil))))))))
    (tRet (tM1 (rJoin K) (tC (.str "\x0a")) (tVar 2)))))

def t_law (K : PySem.W.Frag) (A : Ads) : TS :=
  (tSeq (tAsg (tOp rMod (tCall (sp_l_cell_at K A) [] E0 (tCons (tVar 0) (tCons (tC (.int 0)) tNil))) (tC (.int 8))) (gName 1))
    (tSeq (tAsg (tCall (sp_l_cell_at K A) [] E0 (tCons (tVar 0) (tCons (tC (.int 1)) tNil))) (gName 2))
    (tSeq (tAsg (tOp rPlus (tC (.int 2)) (tOp rMod (tOp rFdiv (tCall (sp_l_cell_at K A) [] E0 (tCons (tVar 0) (tCons (tC (.int 0)) tNil))) (tC (.int 8))) (tC (.int 23)))) (gName 3))
    (tSeq (tIfS (tTest (tOp rEq (tVar 1) (tC (.int 0)))) (tRet (tAndV (tCall (sp_l_refused K A) [] E0 (tCons (tOp (rIxL K) (tLst (tCons (tC .non) (tCons (tC (.int 7)) (tCons (tC (.bl true)) (tCons (tLst (tCons (tC (.str "places 2")) tNil)) (tCons (tTup (tCons (tC (.str "tie")) tNil)) tNil)))))) (tOp rMod (tVar 2) (tC (.int 5)))) tNil)) (tCall (sp_l_no_blank K A) [] E0 (tCons (tOp rPlus (tC (.int 1)) (tOp rMod (tOp rFdiv (tVar 2) (tC (.int 5))) (tC (.int 4)))) tNil)))) tNext)
    (tSeq (tIfS (tTest (tOp rEq (tVar 1) (tC (.int 1)))) (tSeq (tAsg (tOp rPlusS (tC (.str "places 2")) (tOp rRepS (tC (.str "\x0atie 0 1 7")) (tC (.int 300)))) (gName 4))
    (tRet (tAndV (tCall (sp_l_refused K A) [] E0 (tCons (tOp rPlusS (tVar 4) (tC (.str "\x0atie 1 0 7"))) tNil)) (tOp rEq (tCB (rLenS K) (tCons (tMeth A.C "ties" (sp_ties K A) [] E0 (tCall (sp_read K A) [] E0 (tCons (tVar 4) tNil)) tNil) tNil)) (tC (.int 300)))))) tNext)
    (tSeq (tIfS (tTest (tOp rLt (tVar 1) (tC (.int 4)))) (tRet (tCall (sp_l_refused K A) [] E0 (tCons (tCall (sp_l_odd K A) [] E0 (tCons (tVar 2) tNil)) tNil))) tNext)
    (tSeq (tAsg (tCall (sp_l_good K A) [] E0 (tCons (tVar 0) (tCons (tVar 3) tNil))) (gName 4))
    (tSeq (tIfS (tTest (tOp rLt (tVar 1) (tC (.int 7)))) (tSeq (tAsg (tOp rMod (tOp rFdiv (tVar 2) (tC (.int 3))) (tCB rLenStr (tCons (tVar 4) tNil))) (gName 5))
    (tSeq (tAsg (tCall (sp_l_sign_by K A) [] E0 (tCons (tOp rMod (tOp rTimes (tVar 2) (tC (.int 48271))) (tC (.int 1000003))) tNil)) (gName 6))
    (tAsg (tOp rPlusS (tOp rPlusS (tSl C8.rSlX (tVar 4) tNoPart (tPart (tVar 5))) (tOp (rIxL K) (tLst (tCons (tVar 6) (tCons (tC (.str "")) (tCons (tVar 6) tNil)))) (tOp rMod (tVar 2) (tC (.int 3))))) (tSl C8.rSlX (tVar 4) (tPart (tOp rPlus (tVar 5) (tOp (rIxL K) (tLst (tCons (tC (.int 0)) (tCons (tC (.int 1)) (tCons (tC (.int 1)) tNil)))) (tOp rMod (tVar 2) (tC (.int 3)))))) tNoPart)) (gName 4)))) tNext)
    (tSeq (tAsg (tCall (sp_l_due11 K A) [] E0 (tCons (tVar 4) tNil)) (gName 7))
    (tSeq (tIfS (tTest (tOp (rEqD K) (tVar 7) (tLst tNil))) (tRet (tCall (sp_l_refused K A) [] E0 (tCons (tVar 4) tNil))) tNext)
    (tSeq (tAsg (tCall (sp_read K A) [] E0 (tCons (tVar 4) tNil)) (gName 8))
    (tRet (tAndV (tOp rEq (tFld K (tVar 8) "many") (tOp (rIxL K) (tVar 7) (tC (.int 0)))) (tOp (rEqD K) (tMeth A.C "ties" (sp_ties K A) [] E0 (tVar 8) tNil) (tOp (rIxL K) (tVar 7) (tC (.int 1)))))))))))))))))

/-! ### texts that write no net, by computing -/
def numP (cs : List Nat) : Option Nat := if cs ≠ [] ∧ cs.length ≤ 10 ∧ (cs.all fun c => decide (48 ≤ c) && decide (c ≤ 57)) = true ∧ (cs.head? ≠ some 48 ∨ cs = [48]) then some (NumText.digitsVal cs) else none
def numsP : List (List Nat) → Option (List Nat)
  | [] => some []
  | w :: ws => match numP w, numsP ws with
    | some n, some ns => some (n :: ns)
    | _, _ => none
def tieP (m : Nat) (row : List Nat) : Bool := match TL.spl [32] 0 [] row with
  | kw :: ws => decide (kw = tieL) && (match numsP ws with
    | some [a, b, c] => decide (a < m) && decide (b < m) && !decide (a = b) && decide (1 ≤ c) && decide (c ≤ 1000000000)
    | _ => false)
  | [] => false
def goodP (x : List Nat) : Bool := match TL.spl [10] 0 [] x with
  | r0 :: rs => (match TL.spl [32] 0 [] r0 with
    | kw :: ws => decide (kw = placesL) && (match numsP ws with
      | some [m] => decide (1 ≤ m) && decide (m ≤ 24) && decide (rs.length ≤ 300) && rs.all (tieP m)
      | _ => false)
    | [] => false)
  | [] => false
theorem numP_num {k : Nat} (h : k < 10 ^ 10) : numP (TL.numL k) = some k := by
  unfold numP
  have c3 : ((TL.numL k).all fun c => decide (48 ≤ c) && decide (c ≤ 57)) = true := List.all_eq_true.mpr fun c hc => by
    have := TL.numL_digits k c hc
    rw [Bool.and_eq_true, decide_eq_true_eq, decide_eq_true_eq]
    exact this
  have c4 : (TL.numL k).head? ≠ some 48 ∨ TL.numL k = [48] := by
    by_cases q : (TL.numL k).head? = some 48
    · right
      cases hn : TL.numL k with
      | nil => exact absurd hn (TL.numL_ne k)
      | cons c r =>
        rw [hn] at q
        have hc : c = 48 := Option.some.inj q
        subst hc
        have := numL_head k hn
        subst this
        rw [← hn]; rfl
    · exact .inl q
  rw [if_pos ⟨TL.numL_ne k, numL_10 h, c3, c4⟩, TL.numL_val]
theorem numsP_nums : ∀ {ns : List Nat}, (∀ k ∈ ns, k < 10 ^ 10) → numsP (ns.map TL.numL) = some ns
  | [], _ => rfl
  | k :: r, h => by
    show (match numP (TL.numL k), numsP (r.map TL.numL) with
      | some n, some ns => some (n :: ns)
      | _, _ => none) = some (k :: r)
    rw [numP_num (h k (by simp)), numsP_nums fun q hq => h q (by simp [hq])]
theorem goodP_txt {n : Net} (ok : n.Ok) : goodP (textL n) = true := by
  unfold goodP textL
  rw [SX.spl_join (by simp [rowsR]) (fun p hp => by
    obtain ⟨r, hr, rfl⟩ := List.mem_map.mp hp
    intro hc
    rcases mem_joinL hc with hc | ⟨z, hz, hc⟩
    · revert hc; decide
    · exact nums_free (by decide) (kw_free hr).1 z hz hc)]
  have sp : ∀ r ∈ rowsR n, TL.spl [32] 0 [] (rowL r) = rowW r := fun r hr => SX.spl_join (by simp [rowW]) (nums_free (by decide) (kw_free hr).2)
  show (match TL.spl [32] 0 [] (rowL (headR n.many)) with
    | kw :: ws => decide (kw = placesL) && (match numsP ws with
      | some [m] => decide (1 ≤ m) && decide (m ≤ 24) && decide (((n.ties.map tieR).map rowL).length ≤ 300) && ((n.ties.map tieR).map rowL).all (tieP m)
      | _ => false)
    | [] => false) = true
  rw [sp _ (List.mem_cons_self ..)]
  show (decide (placesL = placesL) && (match numsP ([n.many].map TL.numL) with
      | some [m] => decide (1 ≤ m) && decide (m ≤ 24) && decide (((n.ties.map tieR).map rowL).length ≤ 300) && ((n.ties.map tieR).map rowL).all (tieP m)
      | _ => false)) = true
  have hi := ok.hi
  rw [numsP_nums (fun k hk => by have : k = n.many := by simpa using hk
                                 omega)]
  rw [decide_eq_true rfl, Bool.true_and]
  show (decide (1 ≤ n.many) && decide (n.many ≤ 24) && decide (((n.ties.map tieR).map rowL).length ≤ 300) && ((n.ties.map tieR).map rowL).all (tieP n.many)) = true
  rw [decide_eq_true ok.lo, decide_eq_true hi, List.length_map, List.length_map, decide_eq_true ok.few]
  simp only [Bool.and_self, Bool.true_and]
  rw [List.all_eq_true]
  intro w hw
  obtain ⟨r, hr, rfl⟩ := List.mem_map.mp hw
  obtain ⟨t, ht, rfl⟩ := List.mem_map.mp hr
  obtain ⟨h1, h2, h3, h4⟩ := (ok.all t ht).small hi
  obtain ⟨o1, o2, o3, o4, o5⟩ := ok.all t ht
  unfold tieP
  rw [sp _ (List.mem_cons_of_mem _ hr)]
  show (decide (tieL = tieL) && (match numsP ([t.1, t.2.1, t.2.2.toNat].map TL.numL) with
    | some [a, b, c] => decide (a < n.many) && decide (b < n.many) && !decide (a = b) && decide (1 ≤ c) && decide (c ≤ 1000000000)
    | _ => false)) = true
  rw [numsP_nums (fun k hk => by
    have hk : k = t.1 ∨ k = t.2.1 ∨ k = t.2.2.toNat := by simpa using hk
    rcases hk with rfl | rfl | rfl
    · exact h1
    · exact h2
    · exact h3), decide_eq_true rfl, Bool.true_and]
  show (decide (t.1 < n.many) && decide (t.2.1 < n.many) && !decide (t.1 = t.2.1) && decide (1 ≤ t.2.2.toNat) && decide (t.2.2.toNat ≤ 1000000000)) = true
  rw [decide_eq_true o1, decide_eq_true o2, decide_eq_false o3, decide_eq_true (show 1 ≤ t.2.2.toNat by omega), decide_eq_true (show t.2.2.toNat ≤ 1000000000 by omega)]
  rfl
theorem bad_of {x : Str} (h : goodP x.cps.toList = false) : ¬ ∃ n, GoodText x n := by
  rintro ⟨n, ok, hx⟩
  have := goodP_txt ok
  rw [hx] at h
  rw [show (txt n).cps.toList = textL n from rfl, this] at h
  cases h
theorem badStr_of {x : Str} (h : goodP x.cps.toList = false) (hl : x.length ≤ 500) : BadStr x := ⟨by omega, by
  have := PyProof.Rows.split_le x "\n"
  omega, bad_of h⟩
section
variable {K : PySem.W.Frag} {A : Ads}
theorem pure_l_number (vs : List V) (H : Hp) (Q : VK) (E : XK) (h : sp_l_number K A vs H Q E) : t_l_number K A { nx := fun _ H' => Q .non H', rt := Q } (start ["_law_word", "_law_sign"] vs) H := by
  obtain ⟨w, rfl, hl, k1, k2⟩ := h
  unfold t_l_number
  show tSeq _ _ _ [some (.str w), none] H
  have rneg : ∀ σ G, (¬ ∃ n, isNum w n) → Ex H G → tRet (tUn rNeg (tC (.int 1))) { nx := fun _ H' => Q .non H', rt := Q } σ G := fun σ G hb e => s_ret (v := .int (-1)) ev_neg1 fun G1 e1 => k2 hb G1 (e.trans e1)
  have ew : w = SX.S w.cps.toList := (SX.S_tl w).symm
  generalize w.cps.toList = cs at ew
  subst ew
  rw [SX.S_len] at hl
  cases cs with
  | nil =>
    refine q_yes (et_is (b := true) (et_or (a := true) (b := false) (et_test (ev_is (ev_op (x := .str (SX.S [])) (y := .str "") (ev_var rfl) ev_c rv_eqS) (by rw [lit_none, decide_eq_true rfl]))) (fun q => nomatch q)) rfl) fun H1 e1 => s_ret (v := .int (-1)) ev_neg1 fun G1 e2 => k2 ?_ G1 (e1.trans e2)
    rintro ⟨n, -, hn⟩
    exact TL.numL_ne n (SX.S_inj hn).symm
  | cons c r =>
    have hi : atI (SX.S (c :: r)).cps.toList (0 : Int) = some c := atI_nat (j := 0) rfl
    refine q_when (b := false || (decide (10 < ((c :: r).length : Int)) || (decide (c = 48) && !decide (c :: r = [48])))) (et_or (a := false) (et_test (ev_is (ev_op (x := .str (SX.S (c :: r))) (y := .str "") (ev_var rfl) ev_c rv_eqS) (by rw [lit_none, S_dec]; rfl))) fun _ =>
      et_or (et_test (ev_op (y := .int 10) (ev_cb (ea_cons (ev_var rfl) ea_nil) (rc_lenStr hl)) ev_c rv_gt)) fun _ => et_and (et_test (ev_is (ev_op (x := .str ⟨#[c]⟩) (y := .str "0") (ev_op (x := .str (SX.S (c :: r))) (y := .int 0) (ev_var rfl) ev_c (rv_ixS (by rw [SX.S_len]; exact hl) hi)) ev_c rv_eqS) (by
        rw [lit_zero, show (⟨#[c]⟩ : Str) = SX.S [c] from rfl, S_dec]; simp))) fun _ => et_test (ev_is (ev_op (x := .str (SX.S (c :: r))) (y := .str "0") (ev_var rfl) ev_c rv_neS) (by rw [lit_zero, S_dec]))) (fun hb H1 e1 => s_ret (v := .int (-1)) ev_neg1 fun G1 e2 => k2 ?_ G1 (e1.trans e2)) (fun hb H1 e1 => ?_)
    · rintro ⟨n, hn, hw⟩
      have hw := SX.S_inj hw
      rw [Bool.false_or, Bool.or_eq_true, decide_eq_true_eq, Bool.and_eq_true, decide_eq_true_eq, Bool.not_eq_true', decide_eq_false_iff_not] at hb
      rcases hb with hb | ⟨rfl, hb⟩
      · have := numL_10 hn
        rw [hw] at hb
        omega
      · have := numL_head n hw.symm
        subst this
        exact hb hw
    rw [Bool.false_or, Bool.or_eq_false_iff, decide_eq_false_iff_not, Bool.and_eq_false_iff, decide_eq_false_iff_not, Bool.not_eq_false', decide_eq_true_eq] at hb
    obtain ⟨hb1, hb2⟩ := hb
    refine q_forS (x := SX.S (c :: r)) (ev_var rfl) (fun i σ G => ∃ w, σ = [some (.str (SX.S (c :: r))), w] ∧ Ex H G ∧ ∀ d ∈ (c :: r).take i, 48 ≤ d ∧ d ≤ 57) (fun G e => ⟨none, rfl, e1.trans e, fun _ q => nomatch q⟩) ?_ ?_
    · rintro i d σ G hd ⟨w, rfl, e, hall⟩
      have hd : (c :: r)[i]? = some d := hd
      show tIfS _ _ _ _ [some (.str (SX.S (c :: r))), some (.str ⟨#[d]⟩)] G
      refine s_if (b := !decide (48 ≤ d ∧ d ≤ 57)) (et_test (ev_is (v := .bl (!decide (d ∈ ("0123456789" : Str).cps.toList))) (ev_op (x := .str ⟨#[d]⟩) (y := .str "0123456789") (ev_var rfl) ev_c (rv_val fun H1 _ Q q => ⟨d, _, rfl, rfl, q⟩)) (by rw [figs]))) (fun hb G1 e1 => ?_) (fun hb G1 e1 => ?_)
      · refine s_ret (v := .int (-1)) ev_neg1 fun G2 e2 => k2 ?_ G2 ((e.trans e1).trans e2)
        rintro ⟨n, -, hw⟩
        have hw := SX.S_inj hw
        have : d ∈ TL.numL n := by rw [← hw]; exact List.mem_of_getElem? hd
        rw [Bool.not_eq_true', decide_eq_false_iff_not] at hb
        exact hb (TL.numL_digits n d this)
      · rw [Bool.not_eq_false', decide_eq_true_eq] at hb
        refine ⟨_, rfl, e.trans e1, fun d' hd' => ?_⟩
        rw [List.take_succ, hd] at hd'
        rcases List.mem_append.mp hd' with q | q
        · exact hall d' q
        · have : d' = d := by simpa using q
          rw [this]; exact hb
    · rintro σ G ⟨w, rfl, e, hall⟩
      have hall : ∀ d ∈ (c :: r), 48 ≤ d ∧ d ≤ 57 := fun d hd => hall d (by
        rw [show (SX.S (c :: r)).cps.toList.length = (c :: r).length from rfl, List.take_length]; exact hd)
      have hlen : (c :: r).length ≤ 10 := by omega
      have hval : NumText.digitsVal (c :: r) < 10 ^ 10 := Nat.lt_of_lt_of_le (digits_lt hall) (Nat.pow_le_pow_right (by decide) hlen)
      have hback : TL.numL (NumText.digitsVal (c :: r)) = c :: r := numL_back hall (by simp) fun q => by
        have : c = 48 := Option.some.inj q
        exact hb2.elim (fun z => absurd this z) id
      have := SX.int_S (a := c :: r) (List.all_eq_true.mpr fun d hd => by
        have := hall d hd
        rw [Bool.and_eq_true, decide_eq_true_eq, decide_eq_true_eq]; exact this) (by simp) (by omega)
      refine s_ret (v := vi (NumText.digitsVal (c :: r))) (ev_cb (ea_cons (ev_var rfl) ea_nil) (rc_intStr this (by rw [SX.S_len]; omega))) fun G1 e1 => k1 _ ⟨hval, by rw [hback]⟩ G1 (e.trans e1)
theorem pure_l_refused (ec : ErrC K A) (vs : List V) (H : Hp) (Q : VK) (E : XK) (h : sp_l_refused K A vs H Q E) : t_l_refused K A { nx := fun _ H' => Q .non H', rt := Q } (start ["_law_text", "e"] vs) H := by
  obtain ⟨v, rfl, bad, k⟩ := h
  unfold t_l_refused
  show tSeq _ _ _ [some v, none] H
  refine q_tryE (x := .text) (K := K) (A := A) ec (fun D' a σ' H' hD hn ha e => ?_) fun E' hE => ?_
  · match σ', hn with
    | [s0, s1], _ => exact suite_ret (x := .text) (y1 := .net) (y2 := .place) (y3 := .side) ec rfl (by decide) (by decide) (by decide) hD fun H2 e2 => k H2 (e.trans e2)
  · refine s_drop0 (c_call (vs := [v]) (ea_cons (ev_var rfl) ea_nil) fun H1 e1 => ⟨v, rfl, ?_⟩)
    rcases BadText.pm v _ _ e1 bad with ⟨x, rfl, hl, hr, hg⟩ | ⟨ty, h, q⟩
    · exact .inl ⟨x, rfl, hl, hr, fun n g => absurd ⟨n, g⟩ hg, fun _ H2 e2 => hE H2 (e1.trans e2)⟩
    · exact .inr ⟨ty, h, q, fun H2 e2 => hE H2 (e1.trans e2)⟩
theorem pure_l_signs (vs : List V) (H : Hp) (Q : VK) (E : XK) (h : sp_l_signs K A vs H Q E) : t_l_signs K A { nx := fun _ H' => Q .non H', rt := Q } (start ["_law_some"] vs) H := by
  obtain ⟨rfl, k⟩ := h
  unfold t_l_signs
  show tSeq _ _ _ [none] H
  refine q_asg (v := .str " 0123456789zyxwvutsrqponmlkjihgfedcbaZYXWVUTSRQPONMLKJIHGFEDCBA") ev_c fun H1 e1 => ?_
  exact s_ret (v := .str signsS) (ev_op (ev_var rfl) ev_c (rv_val fun H2 _ Q q => ⟨_, _, rfl, rfl, by decide +kernel, q⟩)) fun H2 e2 => k H2 (e1.trans e2)
theorem pure_l_sign_by (vs : List V) (H : Hp) (Q : VK) (E : XK) (h : sp_l_sign_by K A vs H Q E) : t_l_sign_by K A { nx := fun _ H' => Q .non H', rt := Q } (start ["_law_cell"] vs) H := by
  obtain ⟨c, rfl, k⟩ := h
  unfold t_l_sign_by
  show tSeq _ _ _ [some (.int c)] H
  have ix : ∀ (te ti : TE) σ G (x : Str) (i : Int), Ev te σ G (.str x) → Ev ti σ G (.int i) → 0 ≤ i → i < x.cps.toList.length → x.length ≤ 100000 → Ex H G → tRet (tOp rIxS te ti) { nx := fun _ H' => Q .non H', rt := Q } σ G := fun te ti σ G x i h1 h2 h3 h4 h5 e => by
    have hx : x.cps.toList[i.toNat]? = some (x.cps.toList[i.toNat]'(by omega)) := List.getElem?_eq_getElem _
    have := atI_nat hx
    rw [show ((i.toNat : Nat) : Int) = i by omega] at this
    exact s_ret (ev_op h1 h2 (rv_ixS h5 this)) fun G1 e1 => k _ G1 (e.trans e1) (by show 1 ≤ 1; decide)
  refine q_when (et_test (ev_op (ev_op (ev_var rfl) ev_c (rv_mod (by omega))) ev_c rv_eqI)) (fun _ H1 e1 => ?_) (fun _ H1 e1 => ?_)
  · have h1 := Int.emod_nonneg (c / 2) (show (16 : Int) ≠ 0 by omega)
    have h2 := Int.emod_lt_of_pos (c / 2) (show (0 : Int) < 16 by omega)
    exact ix _ _ _ _ " \n\t015+_.tipes-#" _ ev_c (ev_op (y := .int 16) (ev_op (x := .int c) (y := .int 2) (ev_var rfl) ev_c (rv_fdiv ⟨by omega, by omega⟩)) ev_c (rv_mod (by omega))) h1 (Int.lt_of_lt_of_le h2 (by decide +kernel)) (by decide +kernel) e1
  · have h1 := Int.emod_nonneg (c / 2) (show (96 : Int) ≠ 0 by omega)
    have h2 := Int.emod_lt_of_pos (c / 2) (show (0 : Int) < 96 by omega)
    exact ix _ _ _ _ signsS _ (ev_call (vs := []) ea_nil fun G e Q' q' E' => ⟨rfl, fun G2 e2 => q' G2 e2⟩) (ev_op (y := .int 96) (ev_op (x := .int c) (y := .int 2) (ev_var rfl) ev_c (rv_fdiv ⟨by omega, by omega⟩)) ev_c (rv_mod (by omega))) h1 (Int.lt_of_lt_of_le h2 (by decide +kernel)) (by decide +kernel) e1
end

section
variable {K : PySem.W.Frag} {A : Ads}
def IsBadS : V → Hp → Prop := fun v _ => ∃ x : Str, v = .str x ∧ BadStr x
theorem IsBadS.pm : PM IsBadS := fun _ _ _ _ h => h
theorem evp_bad {σ : L2.St} {H : Hp} {x : Str} (h : goodP x.cps.toList = false) (hl : x.length ≤ 500) : EvP (tC (.str x)) σ H IsBadS := evp_v ev_c fun _ _ => ⟨x, rfl, badStr_of h hl⟩
/-- a row that makes no net behind a first one -/
def rowBad (x : Str) : Bool := !goodP (("places 2\n" : Str) ++ x).cps.toList && decide ((("places 2\n" : Str) ++ x).length ≤ 500) && decide (x.length ≤ 400)
def IsBadR : V → Hp → Prop := fun v _ => ∃ x : Str, v = .str x ∧ rowBad x = true
theorem IsBadR.pm : PM IsBadR := fun _ _ _ _ h => h
theorem evp_badR {σ : L2.St} {H : Hp} {x : Str} (h : rowBad x = true) : EvP (tC (.str x)) σ H IsBadR := evp_v ev_c fun _ _ => ⟨x, rfl, h⟩
theorem pure_l_odd (vs : List V) (H : Hp) (Q : VK) (E : XK) (h : sp_l_odd K A vs H Q E) : t_l_odd K A { nx := fun _ H' => Q .non H', rt := Q } (start ["_law_cell", "_law_some", "_law_rows", "_law_row"] vs) H := by
  obtain ⟨c, rfl, k⟩ := h
  unfold t_l_odd
  show tSeq _ _ _ [some (.int c), none, none, none] H
  have pm : PM IsBadS := IsBadS.pm
  have pr : PM IsBadR := IsBadR.pm
  refine q_asgPL (n := 9) (P := IsBadS) (evpl_lst pm (evpa_cons pm (evp_bad (by decide +kernel) (by decide +kernel)) (evpa_cons pm (evp_bad (by decide +kernel) (by decide +kernel)) (evpa_cons pm (evp_bad (by decide +kernel) (by decide +kernel)) (evpa_cons pm (evp_bad (by decide +kernel) (by decide +kernel)) (evpa_cons pm (evp_bad (by decide +kernel) (by decide +kernel)) (evpa_cons pm (evp_bad (by decide +kernel) (by decide +kernel)) (evpa_cons pm (evp_bad (by decide +kernel) (by decide +kernel)) (evpa_cons pm (evp_bad (by decide +kernel) (by decide +kernel)) (evpa_cons pm (evp_bad (by decide +kernel) (by decide +kernel)) evpa_nil))))))))) (by decide)) fun l1 x1 H1 hl1 e1 h1 n1 p1 => ?_
  show tSeq _ _ _ [some (.int c), some (.ref l1), none, none] H1
  refine q_asgPL (n := 9 + 7) (P := IsBadS) (evpl_cat pm (ev_var rfl) h1 n1 p1 (evpl_lst pm (evpa_cons pm (evp_bad (by decide +kernel) (by decide +kernel)) (evpa_cons pm (evp_bad (by decide +kernel) (by decide +kernel)) (evpa_cons pm (evp_bad (by decide +kernel) (by decide +kernel)) (evpa_cons pm (evp_bad (by decide +kernel) (by decide +kernel)) (evpa_cons pm (evp_bad (by decide +kernel) (by decide +kernel)) (evpa_cons pm (evp_bad (by decide +kernel) (by decide +kernel)) (evpa_cons pm (evp_bad (by decide +kernel) (by decide +kernel)) evpa_nil))))))) (by decide)) (by decide)) fun l2 x2 H2 hl2 e2 h2 n2 p2 => ?_
  show tSeq _ _ _ [some (.int c), some (.ref l2), none, none] H2
  refine q_asgPL (n := 7) (P := IsBadR) (evpl_lst pr (evpa_cons pr (evp_badR (by decide +kernel)) (evpa_cons pr (evp_badR (by decide +kernel)) (evpa_cons pr (evp_badR (by decide +kernel)) (evpa_cons pr (evp_badR (by decide +kernel)) (evpa_cons pr (evp_badR (by decide +kernel)) (evpa_cons pr (evp_badR (by decide +kernel)) (evpa_cons pr (evp_badR (by decide +kernel)) evpa_nil))))))) (by decide)) fun l3 x3 H3 hl3 e3 h3 n3 p3 => ?_
  show tSeq _ _ _ [some (.int c), some (.ref l2), some (.ref l3), none] H3
  refine q_asgPL (n := 7 + 6) (P := IsBadR) (evpl_cat pr (ev_var rfl) h3 n3 p3 (evpl_lst pr (evpa_cons pr (evp_badR (by decide +kernel)) (evpa_cons pr (evp_badR (by decide +kernel)) (evpa_cons pr (evp_badR (by decide +kernel)) (evpa_cons pr (evp_badR (by decide +kernel)) (evpa_cons pr (evp_badR (by decide +kernel)) (evpa_cons pr (evp_badR (by decide +kernel)) evpa_nil)))))) (by decide)) (by decide)) fun l4 x4 H4 hl4 e4 h4 n4 p4 => ?_
  show tSeq _ _ _ [some (.int c), some (.ref l2), some (.ref l4), none] H4
  have h24 := e4 _ _ (e3 _ _ h2)
  refine q_asgPL (n := (9 + 7 + 2) + x4.length) (P := IsBadS) (evpl_catP pm (evpl_cat pm (ev_var rfl) h24 n2 (fun v hv => pm _ _ H4 (e3.trans e4) (p2 v hv)) (evpl_lst pm (evpa_cons pm (evp_bad (by decide +kernel) (by decide +kernel)) (evpa_cons pm (evp_bad (by decide +kernel) (by decide +kernel)) evpa_nil)) (by decide)) (by decide))
    (evpl_lcM (ev_var rfl) (sq_of h4) (by rw [n4]; decide) (fun _ => rfl) (fun _ _ _ h => h) fun v G e hv => ?_) (by rw [n4]; decide)) fun l5 x5 H5 hl5 e5 h5 n5 p5 => ?_
  · obtain ⟨r, rfl, hr⟩ := p4 v hv
    unfold rowBad at hr
    rw [Bool.and_eq_true, Bool.and_eq_true, Bool.not_eq_true', decide_eq_true_eq, decide_eq_true_eq] at hr
    refine evp_v (v := .str (("places 2\n" : Str) ++ r)) (ev_op ev_c (ev_var rfl) (rv_val fun H2 _ Q q => ⟨_, _, rfl, rfl, ?_, q⟩)) fun G1 _ => ⟨_, rfl, badStr_of hr.1.1 hr.1.2⟩
    have : (("places 2\n" : Str)).length ≤ 10 := by decide +kernel
    exact sz_of (by omega)
  show tRet _ _ [some (.int c), some (.ref l5), some (.ref l4), none] H5
  have hc := Int.emod_nonneg c (show (31 : Int) ≠ 0 by omega)
  have hc' := Int.emod_lt_of_pos c (show (0 : Int) < 31 by omega)
  have hj : (c % 31).toNat < x5.length := by rw [n5, n4]; omega
  have hx : x5[(c % 31).toNat]? = some x5[(c % 31).toNat] := List.getElem?_eq_getElem hj
  obtain ⟨z, hz, hbad⟩ := p5 _ (List.getElem_mem hj)
  refine s_ret (v := x5[(c % 31).toNat]) (ev_op (x := .ref l5) (y := .int (c % 31)) (ev_var rfl) (ev_op (x := .int c) (ev_var rfl) ev_c (rv_mod (by omega))) (rv_ixL (sq_of h5) ?_)) fun H6 e6 => ?_
  · have := atI_nat hx
    rw [show (((c % 31).toNat : Nat) : Int) = c % 31 by omega] at this
    exact this
  · rw [hz]
    exact k z H6 (((((e1.trans e2).trans e3).trans e4).trans e5).trans e6) hbad
/-! a sign in the place of a blank -/
def nbWords : List (List Nat) := [placesL, [50, 10, 116, 105, 101], [48], [49], [53]]
def nbText (i : Nat) (c : Nat) : List Nat := TL.joinL [32] (nbWords.take i) ++ [c] ++ TL.joinL [32] (nbWords.drop i)
theorem nb_bad : ∀ i ∈ [1, 2, 3, 4], ∀ c ∈ signsS.cps.toList.drop 1, goodP (nbText i c) = false ∧ (nbText i c).length ≤ 500 := by decide +kernel
theorem pure_l_no_blank (vs : List V) (H : Hp) (Q : VK) (E : XK) (h : sp_l_no_blank K A vs H Q E) : t_l_no_blank K A { nx := fun _ H' => Q .non H', rt := Q } (start ["_law_at", "_law_words", "_law_sign"] vs) H := by
  obtain ⟨i, rfl, i1, i4, k⟩ := h
  unfold t_l_no_blank
  show tSeq _ _ _ [some (vi i), none, none] H
  refine q_asgL (xs := txtsV nbWords) (el_lst (ea_cons (ev_is ev_c (congrArg V.str (by decide +kernel : ("places" : Str) = SX.S placesL))) (ea_cons (ev_is ev_c (congrArg V.str (by decide +kernel : ("2\ntie" : Str) = SX.S [50, 10, 116, 105, 101]))) (ea_cons (ev_is ev_c (congrArg V.str (by decide +kernel : ("0" : Str) = SX.S [48]))) (ea_cons (ev_is ev_c (congrArg V.str (by decide +kernel : ("1" : Str) = SX.S [49]))) (ea_cons (ev_is ev_c (congrArg V.str (by decide +kernel : ("5" : Str) = SX.S [53]))) ea_nil))))) (by show 5 ≤ 100000; decide)) fun l H1 hl e1 h1 => ?_
  show tSeq _ _ _ [some (vi i), some (.ref l), none] H1
  have hsg : Ev (tSl C8.rSlX (tCall (sp_l_signs K A) [] E0 tNil) (tPart (tC (.int 1))) tNoPart) [some (vi i), some (.ref l), none] H1 (.str (SX.S (signsS.cps.toList.drop 1))) := by
    have := ev_slX (σ := [some (vi i), some (.ref l), none]) (H := H1) (x := signsS) (ev_call (sp := sp_l_signs K A) (dvs := []) (E := E0) (vs := []) ea_nil fun G e Q' q' E' => ⟨rfl, fun G2 e2 => q' G2 e2⟩) (eo_some (te := tC (.int 1)) (i := 1) ev_c) eo_none (by decide +kernel)
    rw [show Txt.slice signsS (some 1) none = SX.S (signsS.cps.toList.drop 1) from by
      have := SX.slice_from (a := signsS.cps.toList) (i := 1) (by decide)
      rw [SX.S_tl] at this
      exact this] at this
    exact this
  have hi : i ∈ [1, 2, 3, 4] := by
    have : i = 1 ∨ i = 2 ∨ i = 3 ∨ i = 4 := by omega
    simpa using this
  refine q_forS hsg (fun j σ G => ∃ w, σ = [some (vi i), some (.ref l), w] ∧ Ex H1 G) (fun G e => ⟨none, rfl, e⟩) ?_ ?_
  · rintro j c σ G hc ⟨w, rfl, e⟩
    have hc : (signsS.cps.toList.drop 1)[j]? = some c := hc
    obtain ⟨hb, hbl⟩ := nb_bad i hi c (List.mem_of_getElem? hc)
    show tIfS _ _ _ _ [some (vi i), some (.ref l), some (.str ⟨#[c]⟩)] G
    have hG := e _ _ h1
    have hsum : ∀ ys : List (List Nat), ys.length ≤ 5 → (∀ y ∈ ys, y.length ≤ 6) → (ys.map (·.length)).sum + ys.length * ([32] : List Nat).length ≤ 100 := fun ys hl hy => by
      have := sum_le (l := ys.map (·.length)) (c := 6) fun x hx => by
        obtain ⟨y, hy', rfl⟩ := List.mem_map.mp hx
        exact hy y hy'
      rw [List.length_map] at this
      rw [show ([32] : List Nat).length = 1 from rfl]
      omega
    have hmem : ∀ y ∈ nbWords, y.length ≤ 6 := by decide
    have j1 := hsum (nbWords.take i) (by rw [List.length_take]; exact Nat.le_trans (Nat.min_le_right _ _) (by decide)) fun y hy => hmem y (List.mem_of_mem_take hy)
    have j2 := hsum (nbWords.drop i) (by rw [List.length_drop]; exact Nat.le_trans (Nat.sub_le _ _) (by decide)) fun y hy => hmem y (List.mem_of_mem_drop hy)
    have t1 : EvL (tSl (rSlL K) (tVar 1) tNoPart (tPart (tVar 0))) [some (vi i), some (.ref l), some (.str ⟨#[c]⟩)] G (((nbWords.take i).map SX.S).map V.str) := by
      have := el_sl (K := K) (σ := [some (vi i), some (.ref l), some (.str ⟨#[c]⟩)]) (te := tVar 1) (ev_var rfl) eo_none (eo_some (te := tVar 0) (i := (i : Int)) (ev_var rfl)) (sq_of hG)
      rw [cutV_take] at this
      unfold txtsV at this
      rw [← List.map_take, ← List.map_take] at this
      exact this
    have t2 : EvL (tSl (rSlL K) (tVar 1) (tPart (tVar 0)) tNoPart) [some (vi i), some (.ref l), some (.str ⟨#[c]⟩)] G (((nbWords.drop i).map SX.S).map V.str) := by
      have := el_sl (K := K) (σ := [some (vi i), some (.ref l), some (.str ⟨#[c]⟩)]) (te := tVar 1) (ev_var rfl) (eo_some (te := tVar 0) (i := (i : Int)) (ev_var rfl)) eo_none (sq_of hG)
      rw [cutV_dropN] at this
      unfold txtsV at this
      rw [← List.map_drop, ← List.map_drop] at this
      exact this
    have l1 := joinL_len [32] (nbWords.take i)
    have l2 := joinL_len [32] (nbWords.drop i)
    have tx : Ev (tOp rPlusS (tOp rPlusS (tM1 (rJoin K) (tC (.str " ")) (tSl (rSlL K) (tVar 1) tNoPart (tPart (tVar 0)))) (tVar 2)) (tM1 (rJoin K) (tC (.str " ")) (tSl (rSlL K) (tVar 1) (tPart (tVar 0)) tNoPart))) [some (vi i), some (.ref l), some (.str ⟨#[c]⟩)] G (.str (SX.S (nbText i c))) :=
      ev_op (ev_op (y := .str (SX.S [c])) (ev_joinL (a := [32]) (ev_is ev_c lit_blank) t1 (Nat.le_trans j1 (by decide))) (ev_var rfl) (rv_plusS (by omega) (by show 1 ≤ 50000; decide))) (ev_joinL (a := [32]) (ev_is ev_c lit_blank) t2 (Nat.le_trans j2 (by decide))) (rv_plusS (by rw [List.length_append]; show _ + 1 ≤ 50000; omega) (by omega))
    refine s_no (et_not (a := true) (et_B (ev_call (vs := [.str (SX.S (nbText i c))]) (ea_cons tx ea_nil) fun G1 e1 Q' q' E' => ⟨_, rfl, .inl ⟨_, rfl, badStr_of hb (by rw [SX.S_len]; exact hbl)⟩, fun G2 e2 => q' G2 e2⟩))) fun G1 e1 => ⟨_, rfl, e.trans e1⟩
  · rintro σ G ⟨w, rfl, e⟩
    exact s_ret ev_c fun G1 e2 => k G1 ((e1.trans e).trans e2)
theorem pure_l_good (vs : List V) (H : Hp) (Q : VK) (E : XK) (h : sp_l_good K A vs H Q E) : t_l_good K A { nx := fun _ H' => Q .non H', rt := Q } (start ["_law_script", "_law_many", "_law_rows", "_law_k", "_law_cell", "_law_one", "_law_other", "_law_price"] vs) H := by
  obtain ⟨a, ns, m, rfl, hs, m2, m24, k⟩ := h
  unfold t_l_good
  show tSeq _ _ _ [some (.ref a), some (vi m), none, none, none, none, none, none] H
  have cell : ∀ (kk : Nat) (te : TE) σ G, σ[0]? = some (some (.ref a)) → Ev te σ G (vi kk) → Ex H G → Ev (tCall (sp_l_cell_at K A) [] E0 (tCons (tVar 0) (tCons te tNil))) σ G (.int (cellAt ns kk)) := fun kk te σ G h0 h1 e => ev_call (vs := [.ref a, vi kk]) (ea_cons (ev_var h0) (ea_cons h1 ea_nil)) (spv_l_cell_at (ex_l e hs))
  refine q_asgL (xs := txtsV [rowL (headR m)]) (el_lst (ea_cons (ev_headR (ev_var rfl) m24) ea_nil) (by show 1 ≤ 100000; decide)) fun l H1 hl e1 h1 => ?_
  show tSeq _ _ _ [some (.ref a), some (vi m), some (.ref l), none, none, none, none, none] H1
  have h9 := Int.emod_nonneg (cellAt ns 2) (show (9 : Int) ≠ 0 by omega)
  have h9' := Int.emod_lt_of_pos (cellAt ns 2) (show (0 : Int) < 9 by omega)
  have hh : (rowL (headR m)).length ≤ 40 := by
    have := numL_10 (n := m) (by omega)
    rw [rowL_head, List.length_append]
    have : (placesL ++ [32]).length = 7 := rfl
    omega
  refine q_forR1 (n := cellAt ns 2 % 9) (ea_cons (ev_op (y := .int 9) (cell 2 _ _ _ rfl ev_c e1) ev_c (rv_mod (by omega))) ea_nil) (by omega) (fun i σ G => ∃ (w3 w4 w5 w6 w7 : Option V) (rs : List (List Nat)), σ = [some (.ref a), some (vi m), some (.ref l), w3, w4, w5, w6, w7] ∧ Ex H G ∧ G l = some (.lst (txtsV (rowL (headR m) :: rs))) ∧ rs.length = i ∧ ∀ r ∈ rs, r.length ≤ 40) (fun G e => ⟨none, none, none, none, none, [], rfl, e1.trans e, e _ _ h1, rfl, fun _ q => nomatch q⟩) ?_ ?_
  · rintro i σ G hi ⟨w3, w4, w5, w6, w7, rs, rfl, e, hG, hrl, hr⟩
    show tSeq _ _ _ [some (.ref a), some (vi m), some (.ref l), some (vi i), w4, w5, w6, w7] G
    refine q_asg (v := .int (cellAt ns (3 + i))) (cell (3 + i) _ _ _ rfl (ev_is (ev_op (x := .int 3) (y := .int (i : Int)) ev_c (ev_var rfl) rv_plus) (by show V.int (3 + (i : Int)) = V.int ((3 + i : Nat) : Int); congr 1)) e) fun G1 e1 => ?_
    show tSeq _ _ _ [some (.ref a), some (.int (m : Int)), some (.ref l), some (vi i), some (.int (cellAt ns (3 + i))), w5, w6, w7] G1
    generalize cellAt ns (3 + i) = c
    have hone := Int.emod_nonneg c (show (m : Int) ≠ 0 by omega)
    have hone' := Int.emod_lt_of_pos c (show (0 : Int) < m by omega)
    refine q_asg (v := .int (c % (m : Int))) (by walk_at "ev") fun G2 e2 => ?_
    show tSeq _ _ _ [some (.ref a), some (.int (m : Int)), some (.ref l), some (vi i), some (.int c), some (.int (c % (m : Int))), w6, w7] G2
    generalize c % (m : Int) = one at hone hone'
    have hoth := Int.emod_nonneg (one + 1 + c / (m : Int) % ((m : Int) - 1)) (show (m : Int) ≠ 0 by omega)
    have hoth' := Int.emod_lt_of_pos (one + 1 + c / (m : Int) % ((m : Int) - 1)) (show (0 : Int) < m by omega)
    refine q_asg (v := .int ((one + 1 + c / (m : Int) % ((m : Int) - 1)) % (m : Int))) (by walk_at "ev") fun G3 e3 => ?_
    show tSeq _ _ _ [some (.ref a), some (.int (m : Int)), some (.ref l), some (vi i), some (.int c), some (.int one), some (.int ((one + 1 + c / (m : Int) % ((m : Int) - 1)) % (m : Int))), w7] G3
    generalize (one + 1 + c / (m : Int) % ((m : Int) - 1)) % (m : Int) = other at hoth hoth'
    obtain ⟨top, t1, t2, htop⟩ : ∃ top : Int, 1 ≤ top ∧ top ≤ 1000000000 ∧ Ev (tOp (rIxL K) (tLst (tCons (tC (.int 9)) (tCons (tC (.int 1000000000)) tNil))) (tOp rMod (tVar 3) (tC (.int 2)))) [some (.ref a), some (.int (m : Int)), some (.ref l), some (vi i), some (.int c), some (.int one), some (.int other), w7] G3 (.int top) := by
      have key : ∀ (kk : Nat) (top : Int), (i : Int) % 2 = (kk : Int) → ([.int 9, .int 1000000000] : List V)[kk]? = some (.int top) → Ev (tOp (rIxL K) (tLst (tCons (tC (.int 9)) (tCons (tC (.int 1000000000)) tNil))) (tOp rMod (tVar 3) (tC (.int 2)))) [some (.ref a), some (.int (m : Int)), some (.ref l), some (vi i), some (.int c), some (.int one), some (.int other), w7] G3 (.int top) := fun kk top hk hv =>
        ev_opL1 (xs := [.int 9, .int 1000000000]) (el_lst (ea_cons ev_c (ea_cons ev_c ea_nil)) (by show 2 ≤ 100000; decide)) (fun H2 e2 => ev_op (x := .int (i : Int)) (y := .int 2) (ev_var rfl) ev_c (rv_mod (by omega))) fun p H1 hp e => rv_ixL (sq_of hp) (by rw [hk]; exact atI_nat hv)
      by_cases q0 : (i : Int) % 2 = 0
      · exact ⟨9, by omega, by omega, key 0 9 q0 rfl⟩
      · exact ⟨1000000000, by omega, by omega, key 1 1000000000 (by omega) rfl⟩
    have hsq : (m : Int) * (m : Int) ≤ 24 * 24 := Int.mul_le_mul (by omega) (by omega) (by omega) (by omega)
    have hsq' : 2 * 2 ≤ (m : Int) * (m : Int) := Int.mul_le_mul (by omega) (by omega) (by omega) (by omega)
    have hp := Int.emod_nonneg (c / ((m : Int) * (m : Int))) (show top ≠ 0 by omega)
    have hp' := Int.emod_lt_of_pos (c / ((m : Int) * (m : Int))) (show 0 < top by omega)
    refine q_asg (v := .int (1 + c / ((m : Int) * (m : Int)) % top)) (ev_op ev_c (ev_op (x := .int (c / ((m : Int) * (m : Int)))) (y := .int top) (ev_op (x := .int c) (y := .int ((m : Int) * (m : Int))) (ev_var rfl) (ev_op (x := .int (m : Int)) (y := .int (m : Int)) (ev_var rfl) (ev_var rfl) (rv_times (.inl ⟨by omega, by omega⟩))) (rv_fdiv ⟨by omega, by omega⟩)) htop (rv_mod (by omega))) rv_plus) fun G4 e4 => ?_
    show tDrop _ _ [some (.ref a), some (.int (m : Int)), some (.ref l), some (vi i), some (.int c), some (.int one), some (.int other), some (.int (1 + c / ((m : Int) * (m : Int)) % top))] G4
    generalize c / ((m : Int) * (m : Int)) % top = pr at hp hp'
    have e14 := ((e1.trans e2).trans e3).trans e4
    have q1 : ((one.toNat : Nat) : Int) = one := by omega
    have q2 : ((other.toNat : Nat) : Int) = other := by omega
    have hrow : Ev (tOp rPlusS (tOp rPlusS (tOp rPlusS (tOp rPlusS (tOp rPlusS (tC (.str "tie ")) (tCB rStrI (tCons (tVar 5) tNil))) (tC (.str " "))) (tCB rStrI (tCons (tVar 6) tNil))) (tC (.str " "))) (tCB rStrI (tCons (tVar 7) tNil))) [some (.ref a), some (.int (m : Int)), some (.ref l), some (vi i), some (.int c), some (.int one), some (.int other), some (.int (1 + pr))] G4 (.str (SX.S (rowL (tieR (one.toNat, other.toNat, 1 + pr))))) := by
      have l1 := numL_10 (n := one.toNat) (by omega)
      have l2 := numL_10 (n := other.toNat) (by omega)
      have l3 := numL_10 (n := (1 + pr).toNat) (by omega)
      rw [rowL_tie]
      have e1 : (tieL ++ [32]).length = 4 := rfl
      have e2 : ([32] : List Nat).length = 1 := rfl
      refine ev_op (ev_op (ev_op (ev_op (ev_op (ev_is ev_c lit_tie) (ev_cb (ea_cons (ev_is (ev_var rfl) (by unfold vi; rw [q1])) ea_nil) (rc_strN (n := one.toNat) (by omega))) (rv_plusS ?_ ?_)) (ev_is ev_c lit_blank) (rv_plusS ?_ ?_)) (ev_cb (ea_cons (ev_is (ev_var rfl) (by unfold vi; rw [q2])) ea_nil) (rc_strN (n := other.toNat) (by omega))) (rv_plusS ?_ ?_)) (ev_is ev_c lit_blank) (rv_plusS ?_ ?_)) (ev_cb (ea_cons (ev_is (ev_var rfl) (by unfold vi; congr 1; omega)) ea_nil) (rc_strN (n := (1 + pr).toNat) (by omega))) (rv_plusS ?_ ?_) <;> (try simp only [List.length_append, e1, e2]) <;> omega
    refine s_app (e14 _ _ hG) (ev_var rfl) hrow (by unfold txtsV; rw [List.length_map, List.length_map, List.length_cons, hrl]; omega) fun G5 e5 => ?_
    refine ⟨_, _, _, _, _, rs ++ [rowL (tieR (one.toNat, other.toNat, 1 + pr))], rfl, ((e.trans e14).trans e5).mut hl, ?_, by rw [List.length_append, hrl]; rfl, fun r hr' => ?_⟩
    · rw [← List.cons_append]
      unfold txtsV
      rw [List.map_append, List.map_append]
      exact upd_same
    · rcases List.mem_append.mp hr' with z | z
      · exact hr r z
      · rw [List.mem_singleton] at z
        rw [z, rowL_tie]
        have l1 := numL_10 (n := one.toNat) (by omega)
        have l2 := numL_10 (n := other.toNat) (by omega)
        have l3 := numL_10 (n := (1 + pr).toNat) (by omega)
        show (((((tieL ++ [32]) ++ TL.numL one.toNat ++ [32]) ++ TL.numL other.toNat) ++ [32]) ++ TL.numL (1 + pr).toNat).length ≤ 40
        simp only [List.length_append, show tieL.length = 3 from rfl, show ([32] : List Nat).length = 1 from rfl]
        omega
  · rintro σ G ⟨w3, w4, w5, w6, w7, rs, rfl, e, hG, hrl, hr⟩
    have hsum := sum_le (l := (rowL (headR m) :: rs).map (·.length)) (c := 40) fun x hx => by
      obtain ⟨y, hy, rfl⟩ := List.mem_map.mp hx
      rcases List.mem_cons.mp hy with rfl | hy
      · exact hh
      · exact hr y hy
    rw [List.length_map, List.length_cons, hrl] at hsum
    have hn : (cellAt ns 2 % 9).toNat ≤ 8 := by omega
    have hone : ([10] : List Nat).length = 1 := rfl
    have hb : ((rowL (headR m) :: rs).map (·.length)).sum + (rowL (headR m) :: rs).length * ([10] : List Nat).length ≤ 400 := by
      rw [List.length_cons, hrl, hone]
      omega
    have hjl := joinL_len [10] (rowL (headR m) :: rs)
    have hpos : 1 ≤ (TL.joinL [10] (rowL (headR m) :: rs)).length := by
      have h1 : 1 ≤ (rowL (headR m)).length := by
        rw [rowL_head, List.length_append]
        have : (placesL ++ [32]).length = 7 := rfl
        omega
      cases rs with
      | nil => exact h1
      | cons q r =>
        show 1 ≤ (rowL (headR m) ++ ([10] ++ TL.joinL [10] (q :: r))).length
        rw [List.length_append]
        omega
    exact s_ret (ev_join (a := [10]) (ev_is ev_c lit_line) (ev_var rfl) (.inl (sq_of hG)) (Nat.le_trans hb (by decide))) fun G1 e2 => k _ G1 (e.trans e2) (by rw [SX.S_len]; exact hpos) (by rw [SX.S_len]; omega)
end

section
variable {K : PySem.W.Frag} {A : Ads}
/-- a list of words at q -/
def WordsAt (H : Hp) (q : Addr) (w : Str) : Prop := H q = some (.lst ((Txt.split w " ").map V.str))
theorem c_rows {σ : L2.St} {H : Hp} {Q : VK} {tl : TE} {j : Nat} {vs : List Nat} {ws : List Str} (hl : EvL tl σ H (ws.map V.str)) (hz : ws.length ≤ 1000) (hw : ∀ x, wipe ((wipe σ vs).set j (some x)) vs = wipe σ vs) (hv : ∀ x : V, ((wipe σ vs).set j (some x))[j]? = some (some x)) (hlen : ∀ w ∈ ws, w.length ≤ 99998)
    (k : ∀ D qs H', H D = none → Ex H H' → H' D = some (.lst (qs.map V.ref)) → Paired (WordsAt H') qs ws → Q (.ref D) H') : tLc (iList K tl) (gName j) tYes (tM1 rSplit (tVar j) (tC (.str " "))) vs σ H Q := by
  refine hl H (Ex.refl H) _ fun p H1 hp e1 h1 => ⟨p, rfl, ⟨_, sq_of h1⟩, fun D hD => ?_⟩
  refine lc_it (walk_list (K := K) (a := p) (xs := ws.map V.str)) (fun i H' => Ex H1 H' ∧ ∃ qs : List Addr, Paired (WordsAt H') qs (ws.take i) ∧ H' D = some (.lst (qs.map V.ref)) ∧ ∀ q ∈ qs, q ≠ D) ⟨Ex.new hD, [], .nil, upd_same, fun _ h => nomatch h⟩ (fun i H' _ q => sq_of (q.1 _ _ h1)) ?_ ?_
  · rintro i x H2 H3 hi ⟨e, qs, pn, hn, hq⟩ ⟨rfl, hx⟩
    rw [List.getElem?_map] at hx
    cases hwi : ws[i]? with
    | none => rw [hwi] at hx; cases hx
    | some w =>
    rw [hwi] at hx
    have hx : V.str w = x := Option.some.inj hx
    subst hx
    refine ⟨hw _, ty_go ?_⟩
    rw [if_pos rfl]
    refine (el_split (x := w) (y := " ") (ev_var (hv _)) ev_c (by decide +kernel) (hlen w (List.mem_of_getElem? hwi))) _ (Ex.refl _) _ fun q H4 hqn e4 h4 => ?_
    have pl := Paired.length pn
    rw [List.length_map] at hi
    rw [List.length_take] at pl
    have hqD : q ≠ D := fun z => by rw [z, hn] at hqn; cases hqn
    refine ⟨_, e4 _ _ hn, by rw [List.length_map]; exact sz_lt (by omega), (e.trans e4).mut hD, qs ++ [q], ?_, ?_, fun z hz => ?_⟩
    · rw [take_succ_of hwi]
      have keep : ∀ {as : List Addr} {bs : List Str}, Paired (WordsAt H3) as bs → (∀ z ∈ as, z ≠ D) → Paired (WordsAt (upd H4 D (.lst (qs.map V.ref ++ [.ref q])))) as bs := fun {as bs} h => by
        induction h with
        | nil => intro _; exact .nil
        | cons r t ih => intro hz; exact .cons ((upd_ne (hz _ (by simp))).trans (e4 _ _ r)) (ih fun z hz' => hz z (by simp [hz']))
      exact paired_snoc (keep pn hq) ((upd_ne hqD).trans h4)
    · rw [List.map_append]; exact upd_same
    · rcases List.mem_append.mp hz with z1 | z1
      · exact hq z z1
      · rw [List.mem_singleton] at z1
        rw [z1]; exact hqD
  · rintro H' ⟨e, qs, pn, hn, _⟩
    rw [List.length_map, List.take_length] at pn
    exact k D qs H' (fresh_back e1 hD) (e1.trans e) hn pn
theorem words_mono {H H' : Hp} (e : Ex H H') {qs : List Addr} {ws : List Str} (h : Paired (WordsAt H) qs ws) : Paired (WordsAt H') qs ws := Paired.mapP h fun a b q => e _ _ q
/-- a word's number, or -1 -/
noncomputable def numV (w : Str) : Int := by
  classical exact if h : ∃ n, isNum w n then ((Classical.choose h : Nat) : Int) else -1
theorem isNum_inj {w : Str} {a b : Nat} (h1 : isNum w a) (h2 : isNum w b) : a = b := TL.numL_inj (SX.S_inj (h1.2.symm.trans h2.2))
theorem numV_num {w : Str} {n : Nat} (h : isNum w n) : numV w = (n : Int) := by
  unfold numV
  have hx : ∃ n, isNum w n := ⟨n, h⟩
  rw [dif_pos hx, isNum_inj (Classical.choose_spec hx) h]
theorem numV_no {w : Str} (h : ¬ ∃ n, isNum w n) : numV w = -1 := by
  unfold numV
  rw [dif_neg h]
theorem numV_ge {w : Str} (h : 0 ≤ numV w) : isNum w (numV w).toNat := by
  by_cases hx : ∃ n, isNum w n
  · obtain ⟨n, hn⟩ := hx
    rw [numV_num hn]
    exact hn
  · rw [numV_no hx] at h
    omega
theorem spv_l_number {w : Str} {H : Hp} (h : w.length ≤ 100000) : SpV (sp_l_number K A) [.str w] H (.int (numV w)) := fun H1 e Q q E => ⟨w, rfl, h, fun n hn H2 e2 => by
  have := q H2 e2
  rw [numV_num hn] at this
  exact this, fun hn H2 e2 => by
  have := q H2 e2
  rw [numV_no hn] at this
  exact this⟩
theorem split_len3 {w : Str} {a b c d : Str} (h : Txt.split w " " = [a, b, c, d]) : a.length ≤ w.length ∧ b.length ≤ w.length ∧ c.length ≤ w.length ∧ d.length ≤ w.length := by
  have := part_len w " "
  rw [h] at this
  exact ⟨this a (by simp), this b (by simp), this c (by simp), this d (by simp)⟩
theorem pure_l_due11 (vs : List V) (H : Hp) (Q : VK) (E : XK) (h : sp_l_due11 K A vs H Q E) : t_l_due11 K A { nx := fun _ H' => Q .non H', rt := Q } (start ["_law_text", "_law_rows", "_law_many", "_law_ties", "_law_row", "_law_tie"] vs) H := by
  obtain ⟨x, rfl, hxl, hrl, k1, k2⟩ := h
  unfold t_l_due11
  show tSeq _ _ _ [some (.str x), none, none, none, none, none] H
  have rnil : ∀ σ G, (¬ ∃ n, GoodText x n) → Ex H G → tRet (tLst tNil) { nx := fun _ H' => Q .non H', rt := Q } σ G := fun σ G hb e => s_retL (xs := []) (el_lst ea_nil (by decide)) fun q G1 hq e1 h1 => k2 hb q G1 (fresh_back e hq) (e.trans e1) h1
  refine q_asg0 (c_rows (K := K) (ws := Txt.split x "\n") (el_split (x := x) (y := "\n") (ev_var rfl) ev_c (by decide +kernel) hxl) hrl (fun _ => rfl) (fun _ => rfl) (fun w hw => Nat.le_trans (part_len x _ w hw) hxl) fun R qs H1 hR e1 h1 hqs => ?_)
  show tSeq _ _ _ [some (.str x), some (.ref R), none, none, none, none] H1
  obtain ⟨w0, ws, hsp⟩ := split_ne x "\n"
  have hqsl := Paired.length hqs
  match qs, hqsl with
  | [], h => rw [hsp] at h; cases h
  | q0 :: qr, hqsl =>
  have hw0 : WordsAt H1 q0 w0 := paired_get hqs (i := 0) rfl (by rw [hsp]; rfl)
  obtain ⟨u0, us, hu⟩ := split_ne w0 " "
  have hw0' : H1 q0 = some (.lst ((u0 :: us).map V.str)) := by rw [← hu]; exact hw0
  have hx0 : (Txt.split x "\n")[0]? = some w0 := by rw [hsp]; rfl
  have hlw0 : w0.length ≤ 99998 := Nat.le_trans (part_len x _ w0 (by rw [hsp]; simp)) hxl
  have ix0 : ∀ σ G, σ[1]? = some (some (.ref R)) → Ex H1 G → Ev (tOp (rIxL K) (tVar 1) (tC (.int 0))) σ G (.ref q0) := fun σ G hσ e => ev_op (x := .ref R) (y := .int 0) (ev_var hσ) ev_c (rv_ixL (sq_of (e _ _ h1)) (atI_nat (j := 0) rfl))
  -- the first row
  have rowsLen : Ev (tCB (rLenS K) (tCons (tVar 1) tNil)) [some (.str x), some (.ref R), none, none, none, none] H1 (.int ((Txt.split x "\n").length : Int)) := ev_is (ev_cb (ea_cons (ev_var rfl) ea_nil) (rc_lenL (sq_of h1))) (by rw [List.length_map, hqsl])
  by_cases h2 : us.length = 1
  case neg =>
    refine q_yes (et_is (b := true) (et_or (a := true) (b := false) (et_test (ev_is (ev_op (x := .int (((u0 :: us).map V.str).length : Int)) (y := .int 2) (ev_cb (ea_cons (ix0 _ _ rfl (Ex.refl _)) ea_nil) (rc_lenL (sq_of hw0'))) ev_c rv_neI) (by rw [List.length_map, List.length_cons, decide_eq_false (by omega)]; rfl))) fun q => nomatch q) rfl) fun H2 e2 => rnil _ H2 ?_ (e1.trans e2)
    rintro ⟨n, g⟩
    obtain ⟨r, _, _, hspw, _, hct, _⟩ := good_row g hx0
    rw [hu] at hspw
    have := congrArg List.length (List.cons.inj hspw).2
    simp only [List.length_map] at this
    have hct : r.2.length + 1 = 2 := hct
    omega
  match us, h2 with
  | [u1], _ =>
  have hlu := part_len w0 " "
  rw [hu] at hlu
  have hlu1 : u1.length ≤ 100000 := Nat.le_trans (hlu u1 (by simp)) (by omega)
  have e00 : ∀ σ G, σ[1]? = some (some (.ref R)) → Ex H1 G → Ev (tOp (rIxL K) (tOp (rIxL K) (tVar 1) (tC (.int 0))) (tC (.int 0))) σ G (.str u0) := fun σ G hσ e => ev_op (x := .ref q0) (y := .int 0) (ix0 σ G hσ e) ev_c (rv_ixL (sq_of (e _ _ hw0')) (atI_nat (j := 0) rfl))
  have e01 : ∀ σ G, σ[1]? = some (some (.ref R)) → Ex H1 G → Ev (tOp (rIxL K) (tOp (rIxL K) (tVar 1) (tC (.int 0))) (tC (.int 1))) σ G (.str u1) := fun σ G hσ e => ev_op (x := .ref q0) (y := .int 1) (ix0 σ G hσ e) ev_c (rv_ixL (sq_of (e _ _ hw0')) (atI_nat (j := 1) rfl))
  have enum : ∀ σ G, σ[1]? = some (some (.ref R)) → Ex H1 G → Ev (tCall (sp_l_number K A) [] E0 (tCons (tOp (rIxL K) (tOp (rIxL K) (tVar 1) (tC (.int 0))) (tC (.int 1))) tNil)) σ G (.int (numV u1)) := fun σ G hσ e => ev_call (vs := [.str u1]) (ea_cons (e01 σ G hσ e) ea_nil) (spv_l_number hlu1)
  refine q_when (b := false || ((!decide (u0 = "places")) || ((!(decide (1 ≤ numV u1) && decide (numV u1 ≤ 24))) || decide ((301 : Int) < ((Txt.split x "\n").length : Int))))) (et_or (a := false) (et_test (ev_is (ev_op (x := .int (((u0 :: [u1]).map V.str).length : Int)) (y := .int 2) (ev_cb (ea_cons (ix0 _ _ rfl (Ex.refl _)) ea_nil) (rc_lenL (sq_of hw0'))) ev_c rv_neI) rfl)) fun _ => et_or (et_test (ev_op (e00 _ _ rfl (Ex.refl _)) ev_c rv_neS)) fun _ =>
    et_or (et_not (et_test (ev_chain ev_c (enum _ _ rfl (Ex.refl _)) rv_le (fun _ => ev_c) fun _ => rv_le))) fun _ => et_test (ev_op rowsLen ev_c rv_gt)) (fun hb H2 e2 => rnil _ H2 ?_ (e1.trans e2)) (fun hb H2 e2 => ?_)
  · rintro ⟨n, g⟩
    obtain ⟨r, hr, _, hspw, hkw, _, hkb⟩ := good_row g hx0
    have hr0 : headR n.many = r := Option.some.inj hr
    subst hr0
    rw [hu] at hspw
    have hs1 := List.cons.inj hspw
    have hs2 := List.cons.inj hs1.2
    have hnum : isNum u1 n.many := ⟨hkb _ (by simp [headR]), hs2.1⟩
    have hlen : (Txt.split x "\n").length ≤ 301 := by
      rw [g.2, split_txt, List.length_map, List.length_map]
      show (headR n.many :: n.ties.map tieR).length ≤ 301
      rw [List.length_cons, List.length_map]
      have := g.1.few
      omega
    rw [hs1.1, numV_num hnum] at hb
    have hlo := g.1.lo
    have hhi := g.1.hi
    rw [show decide (SX.S (headR n.many).1 = ("places" : Str)) = true from decide_eq_true lit_places3.symm, decide_eq_true (show (1 : Int) ≤ n.many by omega), decide_eq_true (show (n.many : Int) ≤ 24 by omega), decide_eq_false (show ¬ (301 : Int) < ((Txt.split x "\n").length : Int) by omega)] at hb
    cases hb
  have hb0 := Bool.or_eq_false_iff.mp (Bool.or_eq_false_iff.mp hb).2
  have hpl := of_decide_eq_true (bnf hb0.1)
  have hb1 := Bool.or_eq_false_iff.mp hb0.2
  have hb2 := Bool.and_eq_true_iff.mp (bnf hb1.1)
  have m1 := of_decide_eq_true hb2.1
  have m24 := of_decide_eq_true hb2.2
  have hrow := of_decide_eq_false hb1.2
  obtain ⟨m, hmm⟩ : ∃ m : Nat, numV u1 = (m : Int) := ⟨(numV u1).toNat, by omega⟩
  have hmn := numV_ge (w := u1) (by omega)
  rw [hmm, Int.toNat_natCast] at hmn
  have hrow0 : w0 = SX.S (rowL (headR m)) := join_row (by rw [hu, hpl, lit_places3, hmn.2]; rfl)
  refine q_asg (v := vi m) (ev_is (enum _ _ rfl e2) (by rw [hmm]; rfl)) fun H3 e3 => ?_
  refine q_asgL (xs := []) (el_lst ea_nil (by decide)) fun l H4 hl e4 h4 => ?_
  show tSeq _ _ _ [some (.str x), some (.ref R), some (vi m), some (.ref l), none, none] H4
  have e14 := (e2.trans e3).trans e4
  have hlH : H l = none := fresh_back ((e1.trans e2).trans e3) hl
  have hR4 := e14 _ _ h1
  refine q_forNLn (xs := qr.map V.ref) (by
    have := el_sl (K := K) (σ := [some (.str x), some (.ref R), some (vi m), some (.ref l), none, none]) (te := tVar 1) (ev_var rfl) (eo_some (te := tC (.int 1)) (i := 1) ev_c) eo_none (sq_of hR4)
    rw [List.map_cons, cutV_drop1] at this
    exact this) (fun p i σ G => ∃ (w4 w5 : Option V) (as : List Addr) (ts : List Tie), σ = [some (.str x), some (.ref R), some (vi m), some (.ref l), w4, w5] ∧ Ex H G ∧ G l = some (.lst (as.map V.ref)) ∧ TiesAt G as ts ∧ (∀ t ∈ ts, okTie m t) ∧ ts.length = i ∧ ws.take i = ts.map (fun t => SX.S (rowL (tieR t))) ∧ G p = some (.lst (qr.map V.ref)) ∧ p ≠ l ∧ Paired (WordsAt G) qr ws)
    (fun p G hp e hG => ⟨none, none, [], [], rfl, (e1.trans e14).trans e, e _ _ h4, .nil, (fun _ q => nomatch q), rfl, rfl, hG, (fun q => by rw [q] at hp; rw [hp] at h4; cases h4), by
      have := words_mono (e14.trans e) hqs
      rw [hsp] at this
      cases this with
      | cons _ t => exact t⟩) (fun p i σ G _ ⟨_, _, _, _, _, _, _, _, _, _, _, hG, _⟩ => sq_of hG) ?_ ?_
  · rintro p i v σ G hv ⟨w4, w5, as, ts, rfl, e, hG, hta, hok, htl, hrows, hp, hne, hwd⟩
    obtain ⟨q, hq, rfl⟩ := list_at_ref hv
    obtain ⟨w, hw, hwq⟩ := paired_at hwd hq
    have hxw : (Txt.split x "\n")[i + 1]? = some w := by rw [hsp]; exact hw
    have hlw : w.length ≤ 99998 := Nat.le_trans (part_len x _ w (List.mem_of_getElem? hxw)) hxl
    show tSeq _ _ _ [some (.str x), some (.ref R), some (vi m), some (.ref l), some (.ref q), w5] G
    obtain ⟨v0, vs, hvs⟩ := split_ne w " "
    have hwq' : G q = some (.lst ((v0 :: vs).map V.str)) := by rw [← hvs]; exact hwq
    by_cases hv4 : vs.length = 3
    case neg =>
      refine q_yes (et_is (b := true) (et_or (a := true) (b := false) (et_test (ev_is (ev_op (x := .int (((v0 :: vs).map V.str).length : Int)) (y := .int 4) (ev_cb (ea_cons (ev_var rfl) ea_nil) (rc_lenL (sq_of hwq'))) ev_c rv_neI) (by rw [List.length_map, List.length_cons, decide_eq_false (by omega)]; rfl))) fun q => nomatch q) rfl) fun G2 e2 => rnil _ G2 ?_ (e.trans e2)
      rintro ⟨n, g⟩
      obtain ⟨r, _, _, hspw, _, hct, _⟩ := good_row g hxw
      rw [hvs] at hspw
      have := congrArg List.length (List.cons.inj hspw).2
      simp only [List.length_map] at this
      have hct : r.2.length + 1 = 4 := hct
      omega
    match vs, hv4 with
    | [v1, v2, v3], _ =>
    obtain ⟨lv0, lv1, lv2, lv3⟩ := split_len3 hvs
    have eix : ∀ (k : Nat) (u : Str) σ G', σ[4]? = some (some (.ref q)) → Ex G G' → [v0, v1, v2, v3][k]? = some u → Ev (tOp (rIxL K) (tVar 4) (tC (.int (k : Int)))) σ G' (.str u) := fun k u σ G' hσ e hu => ev_op (x := .ref q) (y := .int (k : Int)) (ev_var hσ) ev_c (rv_ixL (sq_of (e _ _ hwq')) (atI_nat (by rw [List.getElem?_map, hu]; rfl)))
    refine q_when (b := false || !decide (v0 = "tie")) (et_or (a := false) (et_test (ev_is (ev_op (x := .int (([v0, v1, v2, v3].map V.str).length : Int)) (y := .int 4) (ev_cb (ea_cons (ev_var rfl) ea_nil) (rc_lenL (sq_of hwq'))) ev_c rv_neI) rfl)) fun _ => et_test (ev_op (eix 0 v0 _ _ rfl (Ex.refl _) rfl) ev_c rv_neS)) (fun hb G2 e2 => rnil _ G2 ?_ (e.trans e2)) (fun hb G2 e2 => ?_)
    · rintro ⟨n, g⟩
      obtain ⟨r, _, _, hspw, hkw, _, _⟩ := good_row g hxw
      rw [hvs] at hspw
      have h0 := (List.cons.inj hspw).1
      have hkw : r.1 = tieL := hkw
      rw [h0, hkw, show decide (SX.S tieL = ("tie" : Str)) = true from decide_eq_true lit_tie3.symm] at hb
      cases hb
    have hv0 := of_decide_eq_true (bnf (Bool.or_eq_false_iff.mp hb).2)
    have en : ∀ (k : Nat) (u : Str) σ G', σ[4]? = some (some (.ref q)) → Ex G G' → [v0, v1, v2, v3][k]? = some u → u.length ≤ 100000 → Ev (tCall (sp_l_number K A) [] E0 (tCons (tOp (rIxL K) (tVar 4) (tC (.int (k : Int)))) tNil)) σ G' (.int (numV u)) := fun k u σ G' hσ e hu hl => ev_call (vs := [.str u]) (ea_cons (eix k u σ G' hσ e hu) ea_nil) (spv_l_number hl)
    refine q_asgU (xs := [.int (numV v1), .int (numV v2), .int (numV v3)]) (eu_tup (ea_cons (en 1 v1 _ _ rfl e2 rfl (by omega)) (ea_cons (en 2 v2 _ _ rfl e2 rfl (by omega)) (ea_cons (en 3 v3 _ _ rfl e2 rfl (by omega)) ea_nil))) (by show 3 ≤ 100000; decide)) fun tp G3 htp e3 h3 => ?_
    show tSeq _ _ _ [some (.str x), some (.ref R), some (vi m), some (.ref l), some (.ref q), some (.ref tp)] G3
    have tix : ∀ (k : Nat) (z : Int), ([.int (numV v1), .int (numV v2), .int (numV v3)] : List V)[k]? = some (.int z) → Ev (tOp (rIxT K) (tVar 5) (tC (.int (k : Int)))) [some (.str x), some (.ref R), some (vi m), some (.ref l), some (.ref q), some (.ref tp)] G3 (.int z) := fun k z hz => ev_op (x := .ref tp) (y := .int (k : Int)) (ev_var rfl) ev_c (rv_ixT (st_of h3) (atI_nat hz))
    have e03 := (e.trans e2).trans e3
    refine q_when (b := (!(decide (0 ≤ numV v1) && decide (numV v1 < (m : Int)))) || ((!(decide (0 ≤ numV v2) && decide (numV v2 < (m : Int)))) || (decide (numV v1 = numV v2) || !(decide (1 ≤ numV v3) && decide (numV v3 ≤ 1000000000))))) (et_or (et_not (et_test (ev_chain ev_c (tix 0 _ rfl) rv_le (fun _ => ev_var rfl) fun _ => rv_lt))) fun _ => et_or (et_not (et_test (ev_chain ev_c (tix 1 _ rfl) rv_le (fun _ => ev_var rfl) fun _ => rv_lt))) fun _ =>
      et_or (et_test (ev_op (tix 0 _ rfl) (tix 1 _ rfl) rv_eqI)) fun _ => et_not (et_test (ev_chain ev_c (tix 2 _ rfl) rv_le (fun _ => ev_c) fun _ => rv_le))) (fun hb G4 e4 => rnil _ G4 ?_ (e03.trans e4)) (fun hb G4 e4 => ?_)
    · rintro ⟨n, g⟩
      obtain ⟨r0, hr0, _, hspw0, _, _, hkb0⟩ := good_row g hx0
      have hr0 : headR n.many = r0 := Option.some.inj hr0
      subst hr0
      rw [hu] at hspw0
      have hs2 := List.cons.inj (List.cons.inj hspw0).2
      have hmany : n.many = m := isNum_inj ⟨hkb0 _ (by simp [headR]), hs2.1⟩ hmn
      obtain ⟨r, hr, _, hspw, _, _, hkb⟩ := good_row g hxw
      have hr : (n.ties.map tieR)[i]? = some r := hr
      rw [List.getElem?_map] at hr
      cases ht : n.ties[i]? with
      | none => rw [ht] at hr; cases hr
      | some t =>
      rw [ht] at hr
      have hr : tieR t = r := Option.some.inj hr
      subst hr
      rw [hvs] at hspw
      have s1 := List.cons.inj (List.cons.inj hspw).2
      have s2 := List.cons.inj s1.2
      have s3 := List.cons.inj s2.2
      have n1 : numV v1 = (t.1 : Int) := numV_num ⟨hkb _ (by simp [tieR]), s1.1⟩
      have n2 : numV v2 = (t.2.1 : Int) := numV_num ⟨hkb _ (by simp [tieR]), s2.1⟩
      have n3 : numV v3 = (t.2.2.toNat : Int) := numV_num ⟨hkb _ (by simp [tieR]), s3.1⟩
      obtain ⟨o1, o2, o3, o4, o5⟩ := g.1.all t (List.mem_of_getElem? ht)
      have o1 : t.1 < n.many := o1
      have o2 : t.2.1 < n.many := o2
      rw [n1, n2, n3, decide_eq_true (show (0 : Int) ≤ (t.1 : Int) by omega), decide_eq_true (show (t.1 : Int) < (m : Int) by omega), decide_eq_true (show (0 : Int) ≤ (t.2.1 : Int) by omega), decide_eq_true (show (t.2.1 : Int) < (m : Int) by omega), decide_eq_false (show ¬ (t.1 : Int) = (t.2.1 : Int) by omega), decide_eq_true (show (1 : Int) ≤ (t.2.2.toNat : Int) by omega), decide_eq_true (show (t.2.2.toNat : Int) ≤ 1000000000 by omega)] at hb
      cases hb
    have c0 := Bool.or_eq_false_iff.mp hb
    have c1 := Bool.and_eq_true_iff.mp (bnf c0.1)
    have c2 := Bool.or_eq_false_iff.mp c0.2
    have c3 := Bool.and_eq_true_iff.mp (bnf c2.1)
    have c4 := Bool.or_eq_false_iff.mp c2.2
    have c5 := Bool.and_eq_true_iff.mp (bnf c4.2)
    have d1 := of_decide_eq_true c1.1
    have d2 := of_decide_eq_true c1.2
    have d3 := of_decide_eq_true c3.1
    have d4 := of_decide_eq_true c3.2
    have d5 := of_decide_eq_false c4.1
    have d6 := of_decide_eq_true c5.1
    have d7 := of_decide_eq_true c5.2
    have hn1 := numV_ge d1
    have hn2 := numV_ge d3
    have hn3 := numV_ge (w := v3) (by omega)
    have htie : tieV ((numV v1).toNat, (numV v2).toNat, numV v3) = [.int (numV v1), .int (numV v2), .int (numV v3)] := by
      show [V.int (((numV v1).toNat : Nat) : Int), V.int (((numV v2).toNat : Nat) : Int), V.int (numV v3)] = _
      rw [Int.toNat_of_nonneg d1, Int.toNat_of_nonneg d3]
    have hwrow : w = SX.S (rowL (tieR ((numV v1).toNat, (numV v2).toNat, numV v3))) := join_row (by
      show Txt.split w " " = SX.S tieL :: [SX.S (TL.numL (numV v1).toNat), SX.S (TL.numL (numV v2).toNat), SX.S (TL.numL (numV v3).toNat)]
      rw [hvs, hv0, lit_tie3, ← hn1.2, ← hn2.2, ← hn3.2])
    have e34 := e3.trans e4
    have e24 := e2.trans e34
    refine s_app (e24 _ _ hG) (ev_var rfl) (v := .ref tp) (ev_var rfl) (by
      have := Paired.length hta
      have hil := (List.getElem?_eq_some_iff.mp hw).1
      have := congrArg List.length hsp
      rw [List.length_cons] at this
      rw [List.length_map]; omega) fun G5 e5 => ?_
    have e25 := e24.trans e5
    have htp5 := e5 _ _ (e4 _ _ h3)
    refine ⟨_, _, as ++ [tp], ts ++ [((numV v1).toNat, (numV v2).toNat, numV v3)], rfl, (e.trans e25).mut hlH, ?_, ?_, fun t ht => ?_, by rw [List.length_append, htl]; rfl, ?_, (upd_ne hne).trans (e25 _ _ hp), hne, ?_⟩
    · rw [List.map_append]; exact upd_same
    · exact paired_snoc ((hta.mono e25).upd (e25 _ _ hG)) (by rw [upd_ne (ne_of htp5 (e25 _ _ hG) (by intro z; cases z)), htie]; exact htp5)
    · rcases List.mem_append.mp ht with z | z
      · exact hok t z
      · rw [List.mem_singleton] at z
        subst z
        exact ⟨by show (numV v1).toNat < m; omega, by show (numV v2).toNat < m; omega, by show (numV v1).toNat ≠ (numV v2).toNat; omega, d6, d7⟩
    · rw [take_succ_of hw, hrows, hwrow, List.map_append]
      rfl
    · have key : ∀ {cs : List Addr} {bs : List Str}, Paired (WordsAt G) cs bs → (∀ b ∈ bs, b ∈ Txt.split x "\n") → Paired (fun a b => WordsAt G a b ∧ a ≠ l) cs bs := fun {cs bs} h => by
        induction h with
        | nil => intro _; exact .nil
        | @cons a b _ _ r t ih =>
          intro hz
          refine .cons ⟨r, fun ha => ?_⟩ (ih fun z hz' => hz z (by simp [hz']))
          rw [ha] at r
          have r : G l = some (.lst ((Txt.split b " ").map V.str)) := r
          rw [hG] at r
          obtain ⟨y0, ys, hy⟩ := split_ne b " "
          rw [hy] at r
          have := HO.lst.inj (Option.some.inj r)
          cases as with
          | nil => cases this
          | cons _ _ => cases this
      exact Paired.mapP (key hwd fun b hb => by rw [hsp]; exact List.mem_cons_of_mem _ hb) fun a b h => (upd_ne h.2).trans (e25 _ _ h.1)
  · rintro p σ G ⟨w4, w5, as, ts, rfl, e, hG, hta, hok, htl, hrows, -, -, -⟩
    have hlen : (qr.map V.ref).length = ws.length := by
      have := hqsl
      rw [hsp, List.length_cons, List.length_cons] at this
      rw [List.length_map]
      omega
    rw [hlen, List.take_length] at hrows
    have hgood : GoodText x ⟨m, ts⟩ := by
      refine ⟨⟨by show 1 ≤ m; omega, by show m ≤ 24; omega, ?_, hok⟩, join_rows ?_⟩
      · show ts.length ≤ 300
        have := congrArg List.length hsp
        rw [List.length_cons] at this
        rw [htl, hlen]
        omega
      · rw [hsp, hrow0, hrows]
        show _ = SX.S (rowL (headR m)) :: ((ts.map tieR).map rowL).map SX.S
        rw [List.map_map, List.map_map]
        rfl
    exact s_retL (xs := [vi m, .ref l]) (el_lst (ea_cons (ev_var rfl) (ea_cons (ev_var rfl) ea_nil)) (by show 2 ≤ 100000; decide)) fun q G1 hq e2 h2 => k1 _ hgood q l as G1 (fresh_back e hq) (e.trans e2) h2 (e2 _ _ hG) (hta.mono e2)
end

section
variable {K : PySem.W.Frag} {A : Ads} {σ : L2.St} {H : Hp} {t1 te : TE} {P : V → Hp → Prop} {z : V}
theorem ev_callP1 {sp : Sp} {E : XK} (hb : EvP t1 σ H P) (hs : ∀ y H1, Ex H H1 → P y H1 → SpV sp [y] H1 z) : Ev (tCall sp [] E (tCons t1 tNil)) σ H z := fun H1 e Q q =>
  hb H1 e _ fun y H3 e3 hy => hs y H3 (e.trans e3) hy H3 (Ex.refl H3) _ (fun H4 e4 => q H4 (e3.trans e4)) E
theorem spv_refused11 {v : V} (h : BadText K v H) : SpV (sp_l_refused K A) [v] H (.bl true) := fun H1 e Q q E => ⟨v, rfl, BadText.pm _ _ _ e h, fun H2 e2 => q H2 e2⟩
theorem sp_read_good {x : Str} {n : Net} {Q : VK} {E : XK} (g : GoodText x n) (hl : x.length ≤ 99998) (hr : (Txt.split x "\n").length ≤ 1000) (k : ∀ p s H', NetX A H' p n s → Ex H H' → Q (.ref p) H') : sp_read K A [.str x] H Q E :=
  ⟨.str x, rfl, .inl ⟨x, rfl, hl, hr, fun m g' p s H' N e => k p s H' (by
    have : m = n := txt_inj g'.1 g.1 (g'.2.symm.trans g.2)
    rw [← this]; exact N) e, fun hn => absurd ⟨n, g⟩ hn⟩⟩
def repTie (a : Str) (n : Int) : Str := ⟨(List.replicate n.toNat a.cps).foldl (· ++ ·) #[]⟩
def manyN (n : Nat) : Net := ⟨2, List.replicate n (0, 1, 7)⟩
def manyM (n : Nat) : Net := ⟨2, List.replicate n (0, 1, 7) ++ [(1, 0, 7)]⟩
theorem tie_ok : okTie 2 (0, 1, 7) := ⟨by decide, by decide, by decide, by decide, by decide⟩
theorem okN {n : Nat} (h : n ≤ 300) : (manyN n).Ok := ⟨Nat.le_of_ble_eq_true rfl, Nat.le_of_ble_eq_true rfl, by
  show (List.replicate n _).length ≤ 300
  rw [List.length_replicate]; exact h, fun t ht => by
  have h2 : t = (0, 1, 7) := (List.mem_replicate.mp ht).2
  rw [h2]
  exact tie_ok⟩
theorem tiesN (n : Nat) : (manyN n).ties.length = n := List.length_replicate
theorem tiesM (n : Nat) : (manyM n).ties.length = n + 1 := by
  show (List.replicate n _ ++ [_]).length = n + 1
  rw [List.length_append, List.length_replicate]
  rfl
theorem repTie_S (a : List Nat) (n : Nat) : repTie (SX.S a) (n : Int) = SX.S (List.replicate n a).flatten := by
  unfold repTie
  have h := fold_rep (SX.S a).cps n #[]
  rw [Int.toNat_natCast]
  have : (List.foldl (fun x y => x ++ y) #[] (List.replicate n (SX.S a).cps)) = ((List.replicate n a).flatten).toArray := by
    apply Array.toList_inj.mp
    rw [h]
    simp
  rw [this]
theorem joinL_snoc (s y : List Nat) : ∀ (p : List Nat) (xs : List (List Nat)), TL.joinL s ((p :: xs) ++ [y]) = TL.joinL s (p :: xs) ++ (s ++ y)
  | p, [] => rfl
  | p, q :: r => by
    show p ++ (s ++ TL.joinL s ((q :: r) ++ [y])) = (p ++ (s ++ TL.joinL s (q :: r))) ++ (s ++ y)
    rw [joinL_snoc s y q r]
    simp only [List.append_assoc]
theorem joinL_rep (s p r : List Nat) : ∀ n : Nat, TL.joinL s (p :: List.replicate n r) = p ++ (List.replicate n (s ++ r)).flatten
  | 0 => by simp [TL.joinL]
  | n + 1 => by
    have e : p :: List.replicate (n + 1) r = (p :: List.replicate n r) ++ [r] := by
      rw [List.cons_append, ← List.replicate_succ']
    rw [e, joinL_snoc, joinL_rep s p r n, List.replicate_succ', List.flatten_append, List.append_assoc]
    simp
theorem lit_p2 : ("places 2" : Str) = SX.S (rowL (headR 2)) := by decide +kernel
theorem lit_t7 : ("\ntie 0 1 7" : Str) = SX.S ([10] ++ rowL (tieR (0, 1, 7))) := by decide +kernel
theorem lit_t8 : ("\ntie 1 0 7" : Str) = SX.S ([10] ++ rowL (tieR (1, 0, 7))) := by decide +kernel
theorem txtN (n : Nat) : ("places 2" : Str) ++ repTie "\ntie 0 1 7" (n : Int) = txt (manyN n) := by
  have h := repTie_S ([10] ++ rowL (tieR (0, 1, 7))) n
  rw [lit_p2, lit_t7, h, SX.S_cat]
  unfold txt textL rowsR manyN
  rw [List.map_replicate, List.map_cons, List.map_replicate, joinL_rep]
theorem txtM (n : Nat) : txt (manyN n) ++ "\ntie 1 0 7" = txt (manyM n) := by
  rw [lit_t8]
  unfold txt
  rw [SX.S_cat]
  unfold textL rowsR manyN manyM
  rw [List.map_append, ← List.cons_append, List.map_append]
  exact congrArg SX.S (joinL_snoc [10] (rowL (tieR (1, 0, 7))) (rowL (headR 2)) _).symm
theorem lenN {n : Nat} (h : n ≤ 300) : (txt (manyN n)).length ≤ 12341 := by
  unfold txt
  rw [SX.S_len]
  exact txt_len (okN h)
theorem str_len_app (a b : Str) : (a ++ b).length = a.length + b.length := by
  have h := SX.S_cat a.cps.toList b.cps.toList
  rw [SX.S_tl, SX.S_tl] at h
  rw [h, SX.S_len, List.length_append]
  rfl
theorem len_t8 : ("\ntie 1 0 7" : Str).length ≤ 20 := by decide +kernel
theorem rows_txt (n : Net) : (Txt.split (txt n) "\n").length = n.ties.length + 1 := by
  rw [split_txt, List.length_map, List.length_map]
  show (headR n.many :: n.ties.map tieR).length = _
  rw [List.length_cons, List.length_map]
theorem badM {k : Nat} (h : k = 300) : BadStr (txt (manyM k)) := ⟨by
  have h1 := lenN (n := k) (by omega)
  have h2 := len_t8
  have h3 := str_len_app (txt (manyN k)) "\ntie 1 0 7"
  rw [← txtM]
  omega, by rw [rows_txt, tiesM]; omega, fun ⟨n, ok, hx⟩ => by
  have h1 := rows_txt (manyM k)
  rw [hx, rows_txt, tiesM] at h1
  have := ok.few
  omega⟩
/-- what due tells -/
def dueD (m : Int) (ts : List Tie) : PyData := .list [.int m, tiesD ts]
theorem shaped_due (m : Int) (ts : List Tie) : SeqAt.shaped (dueD m ts) = true := by
  have h1 : PyData.canLay0 (tiesD ts) = true := lay_ties ts
  have h2 : PyData.depth (tiesD ts) ≤ 2 := by
    have := depth_ties ts
    show PyData.depthAll (ts.map tieD) + 1 ≤ 2
    omega
  unfold SeqAt.shaped
  rw [Bool.and_eq_true]
  refine ⟨?_, decide_eq_true ?_⟩
  · show (true && (PyData.canLay0 (tiesD ts) && true)) = true
    rw [h1]; rfl
  · show max 0 (max (PyData.depth (tiesD ts)) 0) + 1 ≤ 64
    omega
theorem eqv_due (m : Int) (ts : List Tie) : PyData.eqv (dueD m ts) (intD []) = false := rfl
end

section
variable {K : PySem.W.Frag} {A : Ads}
theorem pure_law (nc : NetC K A) (vs : List V) (H : Hp) (Q : VK) (E : XK) (h : sp_law K A vs H Q E) : t_law K A { nx := fun _ H' => Q .non H', rt := Q } (start ["_law_script", "_law_way", "_law_cell", "_law_many", "_law_text", "_law_at", "_law_sign", "_law_due_here", "_law_net"] vs) H := by
  obtain ⟨a, ns, rfl, hs, hlen, k⟩ := h
  unfold t_law
  show tSeq _ _ _ [some (.ref a), none, none, none, none, none, none, none, none] H
  have cell : ∀ (kk : Nat) σ G, σ[0]? = some (some (.ref a)) → Ex H G → Ev (tCall (sp_l_cell_at K A) [] E0 (tCons (tVar 0) (tCons (tC (.int (kk : Int))) tNil))) σ G (.int (cellAt ns kk)) := fun kk σ G h0 e => ev_call (vs := [.ref a, vi kk]) (ea_cons (ev_var h0) (ea_cons ev_c ea_nil)) (spv_l_cell_at (ex_l e hs))
  have md : ∀ (x y : Int), 0 < y → 0 ≤ x % y ∧ x % y < y := fun x y hy => ⟨Int.emod_nonneg _ (by omega), Int.emod_lt_of_pos _ hy⟩
  refine q_asg (v := .int (cellAt ns 0 % 8)) (ev_op (y := .int 8) (cell 0 _ _ rfl (Ex.refl H)) ev_c (rv_mod (by omega))) fun H1 e1 => ?_
  refine q_asg (v := .int (cellAt ns 1)) (cell 1 _ _ rfl e1) fun H2 e2 => ?_
  obtain ⟨m, hm, m2, m24⟩ : ∃ m : Nat, 2 + cellAt ns 0 / 8 % 23 = (m : Int) ∧ 2 ≤ m ∧ m ≤ 24 := by
    have h1 := md (cellAt ns 0 / 8) 23 (by omega)
    exact ⟨(2 + cellAt ns 0 / 8 % 23).toNat, by omega, by omega, by omega⟩
  refine q_asg (v := vi m) (ev_is (ev_op ev_c (ev_op (y := .int 23) (ev_op (y := .int 8) (cell 0 _ _ rfl (e1.trans e2)) ev_c (rv_fdiv ⟨by omega, by omega⟩)) ev_c (rv_mod (by omega))) rv_plus) (by rw [hm]; rfl)) fun H3 e3 => ?_
  have F3 := (e1.trans e2).trans e3
  show tSeq _ _ _ [some (.ref a), some (.int (cellAt ns 0 % 8)), some (.int (cellAt ns 1)), some (vi m), none, none, none, none, none] H3
  generalize cellAt ns 0 % 8 = way
  generalize cellAt ns 1 = c
  have pmB : PM (BadText K) := BadText.pm
  refine q_when (et_test (ev_op (ev_var rfl) ev_c rv_eqI)) (fun hb H4 e4 => ?_) (fun hb H4 e4 => ?_)
  · -- no text
    have nostr : ∀ (v : V) (ty : String) (G : Hp), Vt K G v ty → kitB ty "str" = some false → BadText K v G := fun v ty G h q => .inr ⟨ty, h, q⟩
    obtain ⟨j, hj, j1, j4⟩ : ∃ j : Nat, 1 + c / 5 % 4 = (j : Int) ∧ 1 ≤ j ∧ j ≤ 4 := by
      have := md (c / 5) 4 (by omega)
      exact ⟨(1 + c / 5 % 4).toNat, by omega, by omega, by omega⟩
    refine s_ret (v := .bl true) (ev_is (ev_andV (a := true) (b := true) (ev_callP1 (P := BadText K) (evp_ix (n := 5) (i := c % 5) (evpl_lst pmB (evpa_cons pmB (evp_v ev_c fun G _ => nostr _ _ G vt_non (by decide +kernel)) (evpa_cons pmB (evp_v ev_c fun G _ => nostr _ _ G vt_int (by decide +kernel)) (evpa_cons pmB (evp_v ev_c fun G _ => nostr _ _ G vt_bl (by decide +kernel))
      (evpa_cons pmB (evp_L (el_lst (ea_cons ev_c ea_nil) (by show 1 ≤ 100000; decide)) fun p G hp _ => nostr _ _ G (vt_lst hp) (by decide +kernel)) (evpa_cons pmB (evp_U (eu_tup (ea_cons ev_c ea_nil) (by show 1 ≤ 100000; decide)) fun p G hp _ => nostr _ _ G (vt_tup hp) (by decide +kernel)) evpa_nil))))) (by decide)) (ev_op (x := .int c) (ev_var rfl) ev_c (rv_mod (by omega))) (md _ _ (by omega)).1 (md _ _ (by omega)).2 pmB) fun y G e hy => spv_refused11 hy) fun _ =>
      ev_call (vs := [vi j]) (ea_cons (ev_is (ev_op ev_c (ev_op (x := .int (c / 5)) (ev_op (x := .int c) (ev_var rfl) ev_c (rv_fdiv ⟨by omega, by omega⟩)) ev_c (rv_mod (by omega))) rv_plus) (by rw [hj]; rfl)) ea_nil) fun G e Q' q' E' => ⟨j, rfl, j1, j4, fun G2 e2 => q' G2 e2⟩) rfl) fun G e => k _
  clear hb
  have F4 := F3.trans e4
  refine q_when (et_test (ev_op (ev_var rfl) ev_c rv_eqI)) (fun hb H5 e5 => ?_) (fun hb H5 e5 => ?_)
  · -- 300 and 301 ties
    obtain ⟨n3, hn3⟩ : ∃ n : Nat, n = 300 := ⟨300, rfl⟩
    have hn3' : (300 : Int) = (n3 : Int) := by omega
    have hl3 := lenN (n := n3) (by omega)
    have ht8 := len_t8
    refine q_asg (v := .str (txt (manyN n3))) (ev_is (ev_op (x := .str "places 2") (y := .str (repTie "\ntie 0 1 7" (n3 : Int))) ev_c (ev_op (x := .str "\ntie 0 1 7") (y := .int (n3 : Int)) ev_c (ev_is ev_c (congrArg V.int hn3')) (rv_val fun G _ Q q => ⟨"\ntie 0 1 7", (n3 : Int), rfl, rfl, by omega, by omega, by decide +kernel, by decide +kernel, q⟩)) (rv_val fun G _ Q q => ⟨_, _, rfl, rfl, by rw [← str_len_app, txtN]; exact sz_of (by omega), q⟩)) (congrArg V.str (txtN n3))) fun H6 e6 => ?_
    show tRet _ _ [some (.ref a), some (.int way), some (.int c), some (vi m), some (.str (txt (manyN n3))), none, none, none, none] H6
    have hg3 : GoodText (txt (manyN n3)) (manyN n3) := ⟨okN (by omega), rfl⟩
    have hr3 := rows_txt (manyN n3)
    rw [tiesN] at hr3
    have htl := tiesN n3
    have hbm := badM hn3
    have hjn := txtM n3
    generalize manyN n3 = nn at hl3 hg3 hr3 htl hjn
    generalize manyM n3 = mm at hbm hjn
    refine s_ret (v := .bl true) (ev_is (ev_andV (a := true) (b := true) (ev_callP1 (P := BadText K) (evp_v (v := .str (txt mm)) (ev_is (ev_op (x := .str (txt nn)) (y := .str "\ntie 1 0 7") (ev_var rfl) ev_c (rv_val fun G _ Q q => ⟨_, _, rfl, rfl, sz_of (by omega), q⟩)) (congrArg V.str hjn)) fun G _ => .inl ⟨_, rfl, hbm⟩) fun y G e hy => spv_refused11 hy) fun _ =>
      ev_is (ev_op (x := .int (n3 : Int)) (y := .int (n3 : Int)) (fun G e Q' q' => ?_) (ev_is ev_c (congrArg V.int hn3')) rv_eqI) (by rw [decide_eq_true rfl])) rfl) fun G e => k _
    refine (ev_var (i := 4) (v := .str (txt nn)) rfl) G e _ fun G1 g1 => sp_read_good (n := nn) hg3 (by omega) (by omega) fun p s G2 N g2 => ⟨p, s.dx, _, rfl, N.ob, lk_no ⟨by decide +kernel, by decide +kernel, by decide +kernel, by decide +kernel⟩, ⟨p, _, s, rfl, N, fun q G3 hq g3 h3 => ⟨q, _, rfl, .inl (sq_of h3), ?_⟩⟩⟩
    have : (s.as.map V.ref).length = n3 := by
      rw [List.length_map, Paired.length N.ta]
      exact htl
    rw [this]
    exact q' G3 ((g1.trans g2).trans g3)
  clear hb
  have F5 := F4.trans e5
  refine q_when (et_test (ev_op (ev_var rfl) ev_c rv_lt)) (fun hb H6 e6 => ?_) (fun hb H6 e6 => ?_)
  · exact s_ret (v := .bl true) (ev_callP1 (P := BadText K) (fun G e Q' q' => (ev_var (i := 2) (v := .int c) rfl) G e _ fun G1 g1 => ⟨c, rfl, fun x G2 g2 hx => q' _ G2 (g1.trans g2) (.inl ⟨x, rfl, hx⟩)⟩) fun y G e hy => spv_refused11 hy) fun G e => k _
  clear hb
  have F6 := F5.trans e6
  refine q_asg0 (c_call (vs := [.ref a, vi m]) (ea_cons (ev_var rfl) (ea_cons (ev_var rfl) ea_nil)) fun H7 e7 => ⟨a, ns, m, rfl, ex_l (F6.trans e7) hs, m2, m24, fun x H8 e8 x1 x5 => ?_⟩)
  have F8 := (F6.trans e7).trans e8
  show tSeq _ _ _ [some (.ref a), some (.int way), some (.int c), some (vi m), some (.str x), none, none, none, none] H8
  refine q_ifM (fun σ G => ∃ (y : Str) (w5 w6 : Option V), σ = [some (.ref a), some (.int way), some (.int c), some (vi m), some (.str y), w5, w6, none, none] ∧ y.length ≤ 801 ∧ Ex H G) (et_test (ev_op (ev_var rfl) ev_c rv_lt)) ?_ (fun _ H9 e9 N kk => ?_) (fun _ H9 e9 N kk => kk _ _ ⟨x, none, none, rfl, by omega, F8.trans e9⟩)
  case refine_2 =>
    have hat := md (c / 3) (x.length : Int) (by omega)
    have ex : x = SX.S x.cps.toList := (SX.S_tl x).symm
    have hxl : Ev (tCB rLenStr (tCons (tVar 4) tNil)) [some (.ref a), some (.int way), some (.int c), some (vi m), some (.str x), none, none, none, none] H9 (.int (x.length : Int)) := ev_cb (ea_cons (ev_var rfl) ea_nil) fun G _ Q q => ⟨x, rfl, sz_of (by omega), q G (Ex.refl G)⟩
    refine q_asg (v := .int (c / 3 % (x.length : Int))) (ev_op (x := .int (c / 3)) (y := .int (x.length : Int)) (ev_op (x := .int c) (ev_var rfl) ev_c (rv_fdiv ⟨by omega, by omega⟩)) hxl (rv_mod (by omega))) fun G1 g1 => ?_
    generalize c / 3 % (x.length : Int) = at_ at hat
    refine q_asg0 (c_call (vs := [.int (c * 48271 % 1000003)]) (ea_cons (ev_op (x := .int (c * 48271)) (ev_op (x := .int c) (y := .int 48271) (ev_var rfl) ev_c (rv_times (.inr ⟨by omega, by omega⟩))) ev_c (rv_mod (by omega))) ea_nil) fun G2 g2 => ⟨_, rfl, fun sg G3 g3 hsg => ?_⟩)
    show tAsg _ _ _ [some (.ref a), some (.int way), some (.int c), some (vi m), some (.str x), some (.int at_), some (.str sg), none, none] G3
    obtain ⟨j, j0, hj⟩ : ∃ j : Int, 0 ≤ j ∧ Ev (tOp (rIxL K) (tLst (tCons (tC (.int 0)) (tCons (tC (.int 1)) (tCons (tC (.int 1)) tNil)))) (tOp rMod (tVar 2) (tC (.int 3)))) [some (.ref a), some (.int way), some (.int c), some (vi m), some (.str x), some (.int at_), some (.str sg), none, none] G3 (.int j) := by
      have h3 := md c 3 (by omega)
      have key : ∀ (kk : Nat) (top : Int), c % 3 = (kk : Int) → ([.int 0, .int 1, .int 1] : List V)[kk]? = some (.int top) → Ev (tOp (rIxL K) (tLst (tCons (tC (.int 0)) (tCons (tC (.int 1)) (tCons (tC (.int 1)) tNil)))) (tOp rMod (tVar 2) (tC (.int 3)))) [some (.ref a), some (.int way), some (.int c), some (vi m), some (.str x), some (.int at_), some (.str sg), none, none] G3 (.int top) := fun kk top hk hv =>
        ev_opL1 (xs := [.int 0, .int 1, .int 1]) (el_lst (ea_cons ev_c (ea_cons ev_c (ea_cons ev_c ea_nil))) (by show 3 ≤ 100000; decide)) (fun H2 e2 => ev_op (x := .int c) (y := .int 3) (ev_var rfl) ev_c (rv_mod (by omega))) fun p H1 hp e => rv_ixL (sq_of hp) (by rw [hk]; exact atI_nat hv)
      by_cases q0 : c % 3 = 0
      · exact ⟨0, by omega, key 0 0 q0 rfl⟩
      · by_cases q1 : c % 3 = 1
        · exact ⟨1, by omega, key 1 1 q1 rfl⟩
        · exact ⟨1, by omega, key 2 1 (by omega) rfl⟩
    have s1 : EvP (tSl C8.rSlX (tVar 4) tNoPart (tPart (tVar 5))) [some (.ref a), some (.int way), some (.int c), some (vi m), some (.str x), some (.int at_), some (.str sg), none, none] G3 (LenS 400) := evp_v (ev_slX (x := x) (ev_var rfl) eo_none (eo_some (i := at_) (ev_var rfl)) (by omega)) fun _ _ => ⟨_, rfl, by
      rw [ex, SX.slice_to hat.1, SX.S_len, List.length_take]
      have : x.cps.toList.length = x.length := rfl
      omega⟩
    have s3 : EvP (tSl C8.rSlX (tVar 4) (tPart (tOp rPlus (tVar 5) (tOp (rIxL K) (tLst (tCons (tC (.int 0)) (tCons (tC (.int 1)) (tCons (tC (.int 1)) tNil)))) (tOp rMod (tVar 2) (tC (.int 3)))))) tNoPart) [some (.ref a), some (.int way), some (.int c), some (vi m), some (.str x), some (.int at_), some (.str sg), none, none] G3 (LenS 400) := evp_v (ev_slX (x := x) (ev_var rfl) (eo_some (i := at_ + j) (ev_op (x := .int at_) (ev_var rfl) hj rv_plus)) eo_none (by omega)) fun _ _ => ⟨_, rfl, by
      rw [ex, SX.slice_from (by omega), SX.S_len, List.length_drop]
      have : x.cps.toList.length = x.length := rfl
      omega⟩
    have pml : PM (LenS 1) := LenS.pm
    have s2 : EvP (tOp (rIxL K) (tLst (tCons (tVar 6) (tCons (tC (.str "")) (tCons (tVar 6) tNil)))) (tOp rMod (tVar 2) (tC (.int 3)))) [some (.ref a), some (.int way), some (.int c), some (vi m), some (.str x), some (.int at_), some (.str sg), none, none] G3 (LenS 1) :=
      evp_ix (n := 3) (i := c % 3) (evpl_lst pml (evpa_cons pml (evp_v (v := .str sg) (ev_var rfl) fun _ _ => ⟨sg, rfl, hsg⟩) (evpa_cons pml (evp_v ev_c fun _ _ => ⟨"", rfl, by decide +kernel⟩) (evpa_cons pml (evp_v (v := .str sg) (ev_var rfl) fun _ _ => ⟨sg, rfl, hsg⟩) evpa_nil))) (by decide)) (ev_op (x := .int c) (ev_var rfl) ev_c (rv_mod (by omega))) (md _ _ (by omega)).1 (md _ _ (by omega)).2 pml
    refine (evp_plusS (evp_plusS s1 s2 (by decide)) s3 (by decide)) G3 (Ex.refl _) _ fun v G4 g4 hv => ?_
    obtain ⟨y, rfl, hy⟩ := hv
    have hy : y.length ≤ 801 := hy
    exact kk _ _ ⟨y, _, _, rfl, hy, ((((F8.trans e9).trans g1).trans g2).trans g3).trans g4⟩
  rintro σ G ⟨y, w5, w6, rfl, hy, e⟩
  have hyl : y.length ≤ 99998 := by omega
  have hyr : (Txt.split y "\n").length ≤ 1000 := by
    have := PyProof.Rows.split_le y "\n"
    omega
  by_cases g : ∃ n, GoodText y n
  · obtain ⟨n, g⟩ := g
    refine q_asg0 (c_call (vs := [.str y]) (ea_cons (ev_var rfl) ea_nil) fun G1 g1 => ⟨y, rfl, hyl, hyr, fun n' g' q l as G2 hq g2 h2 hl2 hta => ?_, fun hn => absurd ⟨n, g⟩ hn⟩)
    have : n' = n := txt_inj g'.1 g.1 (g'.2.symm.trans g.2)
    subst this
    show tSeq _ _ _ [some (.ref a), some (.int way), some (.int c), some (vi m), some (.str y), w5, w6, some (.ref q), none] G2
    refine q_skip (et_test (ev_opL (x := .ref q) (xs := []) (z := .bl false) (ev_var rfl) (el_lst ea_nil (by decide)) fun p G3 hp g3 => ?_)) fun G3 g3 => ?_
    · have d1 : Dp K G3 (.ref q) (dueD n'.many n'.ties) := .lst (sq_of (g3 _ _ h2)) (.cons (.int _) (.cons (dp_ties (sq_of (g3 _ _ hl2)) (hta.mono g3)) .nil))
      have := rv_eqD (K := K) d1 (dp_ints (ns := []) (sq_of hp)) (shaped_due _ _) (shaped_ints [])
      rw [eqv_due] at this
      exact this
    refine q_asg0 (c_call (vs := [.str y]) (ea_cons (ev_var rfl) ea_nil) fun G4 g4 => sp_read_good (n := n') g' hyl hyr fun p s G5 N g5 => ?_)
    show tRet _ _ [some (.ref a), some (.int way), some (.int c), some (vi m), some (.str y), w5, w6, some (.ref q), some (.ref p)] G5
    have g25 := (g3.trans g4).trans g5
    have h5 := g25 _ _ h2
    refine s_ret (v := .bl true) (ev_is (ev_andV (a := true) (b := true) (ev_is (ev_op (x := .int (n'.many : Int)) (y := .int (n'.many : Int)) (ev_fld (ev_var rfl) N.ob nc.cl nc.nM lk_many) (ev_op (x := .ref q) (y := .int 0) (ev_var rfl) ev_c (rv_ixL (sq_of h5) (atI_nat (j := 0) rfl))) rv_eqI) (by rw [decide_eq_true rfl])) fun _ =>
      ev_opL1 (y := .ref l) (el_meth (vs := []) (ev_var rfl) N.ob (by walk_at "lk") ea_nil (spl_ties N)) (fun G6 g6 => ev_op (x := .ref q) (y := .int 1) (ev_var rfl) ev_c (rv_ixL (sq_of (g6 _ _ h5)) (atI_nat (j := 1) rfl))) fun p' G6 hp g6 => ?_) rfl) fun G6 g6 => k _
    have := rv_eqD (K := K) (dp_ties (sq_of hp) (N.ta.mono g6)) (dp_ties (sq_of ((g25.trans g6) _ _ hl2)) (hta.mono (g25.trans g6))) (shaped_ties n'.ties) (shaped_ties n'.ties)
    rw [eqv_self _ (shaped_ties n'.ties)] at this
    exact this
  · refine q_asg0 (c_call (vs := [.str y]) (ea_cons (ev_var rfl) ea_nil) fun G1 g1 => ⟨y, rfl, hyl, hyr, fun n' g' => absurd ⟨n', g'⟩ g, fun _ q G2 hq g2 h2 => ?_⟩)
    show tSeq _ _ _ [some (.ref a), some (.int way), some (.int c), some (vi m), some (.str y), w5, w6, some (.ref q), none] G2
    refine q_yes (et_test (ev_opL (x := .ref q) (xs := []) (z := .bl true) (ev_var rfl) (el_lst ea_nil (by decide)) fun p G3 hp g3 => ?_)) fun G3 g3 => ?_
    · have := rv_eqD (K := K) (dp_ints (ns := []) (sq_of (g3 _ _ h2))) (dp_ints (ns := []) (sq_of hp)) (shaped_ints []) (shaped_ints [])
      rw [eqv_ints, decide_eq_true rfl] at this
      exact this
    · exact s_ret (v := .bl true) (ev_call (vs := [.str y]) (ea_cons (ev_var rfl) ea_nil) (spv_refused11 (.inl ⟨y, rfl, hyl, hyr, g⟩))) fun G4 g4 => k _
end

def topS (i : Nat) : Stmt := PySem.Challenge.pw_onewalls_k11_texts_refused.main.body.getD i (.Pass ⟨0, 0, 0, 0⟩)
abbrev s_is_whole : Stmt := topS 11
abbrev s_has : Stmt := inClass (topS 12) 1
abbrev s_cost : Stmt := inClass (topS 12) 5
abbrev s_init : Stmt := inClass (topS 12) 0
abbrev s_ties : Stmt := inClass (topS 12) 4
abbrev s_number_of : Stmt := topS 15
abbrev s_read : Stmt := topS 16
abbrev s_l_cell_at : Stmt := topS 18
abbrev s_l_number : Stmt := topS 19
abbrev s_l_due11 : Stmt := topS 20
abbrev s_l_refused : Stmt := topS 21
abbrev s_l_odd : Stmt := topS 22
abbrev s_l_signs : Stmt := topS 23
abbrev s_l_sign_by : Stmt := topS 24
abbrev s_l_no_blank : Stmt := topS 25
abbrev s_l_good : Stmt := topS 26
abbrev s_law : Stmt := topS 27
structure Fs where
  f_is_whole : Addr
  d_is_whole : FuncData
  f_has : Addr
  d_has : FuncData
  f_cost : Addr
  d_cost : FuncData
  f_init : Addr
  d_init : FuncData
  f_ties : Addr
  d_ties : FuncData
  f_number_of : Addr
  d_number_of : FuncData
  f_read : Addr
  d_read : FuncData
  f_l_cell_at : Addr
  d_l_cell_at : FuncData
  f_l_number : Addr
  d_l_number : FuncData
  f_l_due11 : Addr
  d_l_due11 : FuncData
  f_l_refused : Addr
  d_l_refused : FuncData
  f_l_odd : Addr
  d_l_odd : FuncData
  f_l_signs : Addr
  d_l_signs : FuncData
  f_l_sign_by : Addr
  d_l_sign_by : FuncData
  f_l_no_blank : Addr
  d_l_no_blank : FuncData
  f_l_good : Addr
  d_l_good : FuncData
  f_law : Addr
  d_law : FuncData
structure Txt (K : PySem.W.Frag) (mg : Str → Option Value) (A : Ads) (F : Fs) : Prop where
  ec : ErrC K A
  nc : NetC K A
  mgC : mg "Net" = some (.ref A.C)
  mkN : Mk K A.C F.f_init
  F_is_whole : Fun K "is_whole" "is_whole" s_is_whole F.f_is_whole F.d_is_whole
  B_is_whole : Binds K F.d_is_whole ["thing"] []
  g_is_whole : mg "is_whole" = some (.ref F.f_is_whole)
  F_has : Fun K "has" "Net.has" s_has F.f_has F.d_has
  B_has : Binds K F.d_has ["self", "place"] []
  m_has : Meth K A.C "has" F.f_has
  F_cost : Fun K "cost" "Net.cost" s_cost F.f_cost F.d_cost
  B_cost : Binds K F.d_cost ["self", "one", "other"] []
  m_cost : Meth K A.C "cost" F.f_cost
  F_init : Fun K "__init__" "Net.__init__" s_init F.f_init F.d_init
  B_init : Binds K F.d_init ["self", "many", "ties"] []
  F_ties : Fun K "ties" "Net.ties" s_ties F.f_ties F.d_ties
  B_ties : Binds K F.d_ties ["self"] []
  m_ties : Meth K A.C "ties" F.f_ties
  F_number_of : Fun K "number_of" "number_of" s_number_of F.f_number_of F.d_number_of
  B_number_of : Binds K F.d_number_of ["word"] []
  g_number_of : mg "number_of" = some (.ref F.f_number_of)
  F_read : Fun K "read" "read" s_read F.f_read F.d_read
  B_read : Binds K F.d_read ["text"] []
  g_read : mg "read" = some (.ref F.f_read)
  F_l_cell_at : Fun K "_law_cell_at" "_law_cell_at" s_l_cell_at F.f_l_cell_at F.d_l_cell_at
  B_l_cell_at : Binds K F.d_l_cell_at ["_law_script", "_law_k"] []
  g_l_cell_at : mg "_law_cell_at" = some (.ref F.f_l_cell_at)
  F_l_number : Fun K "_law_number" "_law_number" s_l_number F.f_l_number F.d_l_number
  B_l_number : Binds K F.d_l_number ["_law_word"] []
  g_l_number : mg "_law_number" = some (.ref F.f_l_number)
  F_l_due11 : Fun K "_law_due" "_law_due" s_l_due11 F.f_l_due11 F.d_l_due11
  B_l_due11 : Binds K F.d_l_due11 ["_law_text"] []
  g_l_due11 : mg "_law_due" = some (.ref F.f_l_due11)
  F_l_refused : Fun K "_law_refused" "_law_refused" s_l_refused F.f_l_refused F.d_l_refused
  B_l_refused : Binds K F.d_l_refused ["_law_text"] []
  g_l_refused : mg "_law_refused" = some (.ref F.f_l_refused)
  F_l_odd : Fun K "_law_odd" "_law_odd" s_l_odd F.f_l_odd F.d_l_odd
  B_l_odd : Binds K F.d_l_odd ["_law_cell"] []
  g_l_odd : mg "_law_odd" = some (.ref F.f_l_odd)
  F_l_signs : Fun K "_law_signs" "_law_signs" s_l_signs F.f_l_signs F.d_l_signs
  B_l_signs : Binds K F.d_l_signs [] []
  g_l_signs : mg "_law_signs" = some (.ref F.f_l_signs)
  F_l_sign_by : Fun K "_law_sign_by" "_law_sign_by" s_l_sign_by F.f_l_sign_by F.d_l_sign_by
  B_l_sign_by : Binds K F.d_l_sign_by ["_law_cell"] []
  g_l_sign_by : mg "_law_sign_by" = some (.ref F.f_l_sign_by)
  F_l_no_blank : Fun K "_law_no_blank" "_law_no_blank" s_l_no_blank F.f_l_no_blank F.d_l_no_blank
  B_l_no_blank : Binds K F.d_l_no_blank ["_law_at"] []
  g_l_no_blank : mg "_law_no_blank" = some (.ref F.f_l_no_blank)
  F_l_good : Fun K "_law_good" "_law_good" s_l_good F.f_l_good F.d_l_good
  B_l_good : Binds K F.d_l_good ["_law_script", "_law_many"] []
  g_l_good : mg "_law_good" = some (.ref F.f_l_good)
  F_law : Fun K "law" "law" s_law F.f_law F.d_law
  B_law : Binds K F.d_law ["_law_script"] []
  g_law : mg "law" = some (.ref F.f_law)
  b_ValueError : mg "ValueError" = none
  b_bool : mg "bool" = none
  b_enumerate : mg "enumerate" = none
  b_int : mg "int" = none
  b_isinstance : mg "isinstance" = none
  b_len : mg "len" = none
  b_list : mg "list" = none
  b_max : mg "max" = none
  b_min : mg "min" = none
  b_range : mg "range" = none
  b_str : mg "str" = none
  b_tuple : mg "tuple" = none
  c_MOST_PLACES : ∃ t, mg "MOST_PLACES" = some (.int 24 t)
  c_MOST_TIES : ∃ t, mg "MOST_TIES" = some (.int 300 t)
  c_MOST_PRICE : ∃ t, mg "MOST_PRICE" = some (.int 1000000000 t)
  c_FIGURES : ∃ t, mg "FIGURES" = some (.str "0123456789" t)
  x_WallError : ExcT K mg "WallError" A.eWallError
  x_NoNet : ExcT K mg "NoNet" A.eNoNet
  x_NoPlace : ExcT K mg "NoPlace" A.eNoPlace
  x_NoSide : ExcT K mg "NoSide" A.eNoSide
  x_NoText : ExcT K mg "NoText" A.eNoText
section
variable {P : Program} {w : World} {K : PySem.W.Frag} {mg : Str → Option Value} {base : Heap}
theorem sc_is_whole : FnScope ["thing"] ["thing"] (defScope s_is_whole) := ⟨rfl, rfl, rfl, by decide +kernel, rfl, by decide +kernel, by decide +kernel⟩
theorem ok_is_whole {A : Ads} {F : Fs} (T : Txt K mg A F) : FnOk P w K mg base CX0 1 F.f_is_whole F.d_is_whole ["thing"] (sp_is_whole K A) := by
  refine Fun.ok T.F_is_whole sc_is_whole (len_is_whole K A) (fun cdv Ar outer s H vs Q E hr h => ⟨t_is_whole K A, ?_, pure_is_whole T.nc vs H Q E h⟩)
  exact (pss_one (ps_ret (pe_and (pe_callB call_isi (by rfl) T.b_isinstance (by decide +kernel) (pa_cons (pv 0) (pa_cons (pe_bltn (v := .ty "int") (by rfl) T.b_int (by decide +kernel) rfl) pa_nil))) (pe_one (pe_not (pe_callB call_isi (by rfl) T.b_isinstance (by decide +kernel) (pa_cons (pv 0) (pa_cons (pe_bltn (v := .ty "bool") (by rfl) T.b_bool (by decide +kernel) rfl) pa_nil))))))))

theorem sc_has : FnScope ["self", "place"] ["self", "place"] (defScope s_has) := ⟨rfl, rfl, rfl, by decide +kernel, rfl, by decide +kernel, by decide +kernel⟩
theorem ok_has {A : Ads} {F : Fs} (T : Txt K mg A F) : FnOk P w K mg base CX0 2 F.f_has F.d_has ["self", "place"] (sp_has K A) := by
  refine Fun.ok T.F_has sc_has (len_has K A) (fun cdv Ar outer s H vs Q E hr h => ⟨t_has K A, ?_, pure_has T.nc vs H Q E h⟩)
  exact (pss_one (ps_ret (pe_and (pe_call (ok_is_whole T) (hr.mono (by decide)) (by rfl) T.g_is_whole T.F_is_whole.kp T.B_is_whole .nil pass0 (pa_cons (pv 1) pa_nil)) (pe_one (pe_chain op_le op_lt pe_int (pv 1) (pe_fld (pv 0) rfl))))))

theorem sc_cost : FnScope ["self", "one", "other"] ["self", "one", "other"] (defScope s_cost) := ⟨rfl, rfl, rfl, by decide +kernel, rfl, by decide +kernel, by decide +kernel⟩
theorem ok_cost {A : Ads} {F : Fs} (T : Txt K mg A F) : FnOk P w K mg base CX0 1 F.f_cost F.d_cost ["self", "one", "other"] (sp_cost K A) := by
  refine Fun.ok T.F_cost sc_cost (len_cost K A) (fun cdv Ar outer s H vs Q E hr h => ⟨t_cost K A, ?_, pure_cost T.nc vs H Q E h⟩)
  exact (pss_one (ps_ret (pe_dget2 (hu_of hr) (pe_fld (pv 0) rfl) (pe_tup (pa_cons (pe_callB (call_min2 rfl) (by rfl) T.b_min (by decide +kernel) (pa_cons (pv 1) (pa_cons (pv 2) pa_nil))) (pa_cons (pe_callB (call_max2 rfl) (by rfl) T.b_max (by decide +kernel) (pa_cons (pv 1) (pa_cons (pv 2) pa_nil))) pa_nil))) pe_int ⟨rfl, rfl, rfl, rfl⟩)))

theorem sc_init : FnScope ["self", "many", "ties", "tie", "pair", "place"] ["self", "many", "ties"] (defScope s_init) := ⟨rfl, rfl, rfl, by decide +kernel, rfl, by decide +kernel, by decide +kernel⟩
theorem ok_init {A : Ads} {F : Fs} (T : Txt K mg A F) : FnOk P w K mg base (L2N.CX P w) 3 F.f_init F.d_init ["self", "many", "ties"] (sp_init K A) := by
  refine fun_okN T.F_init sc_init (len_init K A) (fun cdv Ar outer s H vs Q E hr h => ⟨t_init K A E, ?_, pure_init T.nc vs H Q E h⟩)
  exact (pss_cons (ps_if (PW.pt (pw_or (pt_not (pt_val (pe_call (ok_is_whole T) (hr.mono (by decide)) (by rfl) T.g_is_whole T.F_is_whole.kp T.B_is_whole .nil pass0 (pa_cons (pv 1) pa_nil)))) (pw_or1 (pt_not (pt_chain op_le op_le pe_int (pv 1) (pe_gi T.c_MOST_PLACES)))))) (pss_one (L2N.ps_raise rfl (L2N.takes_of rfl rfl rfl rfl) (T.x_NoNet.pmk (by rfl)))) pss_nil)
    (pss_cons (ps_if (PW.pt (pw_or (pt_not (pt_val (pe_callB call_isi (by rfl) T.b_isinstance (by decide +kernel) (pa_cons (pv 2) (pa_cons (pe_bltn (v := .ty "list") (by rfl) T.b_list (by decide +kernel) rfl) pa_nil))))) (pw_or1 (pt_cmpR op_gt (pe_callB call_len_seq (by rfl) T.b_len PySem.boot_len (pa_cons (pv 2) pa_nil)) (pe_gi T.c_MOST_TIES) (nomark _))))) (pss_one (L2N.ps_raise rfl (L2N.takes_of rfl rfl rfl rfl) (T.x_NoNet.pmk (by rfl)))) pss_nil)
    (pss_cons (ps_fld (pv 0) (pv 1) rfl)
    (pss_cons (ps_fld (pv 0) (pe_lst pa_nil) rfl)
    (pss_cons (ps_fld (pv 0) pe_dnewT rfl)
    (pss_cons (ps_fld (pv 0) (pe_lc (own := [("place", 5)]) (g := (gName 5)) (tt := tYes) rfl sc_init.nd (pi_range1 (by rfl) T.b_range (pa_cons (pv 1) pa_nil)) (blkOk_by (own := [("place", 5)]) (N := ["self", "many", "ties", "tie", "pair", "place"]) (sc := defScope s_init) (by decide +kernel)) (fun _ _ _ _ _ => (pg_name (i := 5) sc_init.nd rfl (by first | exact Or.inl rfl | exact Or.inr rfl))) (fun _ _ _ _ _ => pts_nil) (fun _ _ _ _ _ => (pe_lst pa_nil))) rfl)
    (pss_one (ps_for (L2.passes_of rfl) rfl (pi_list (pv 2)) (pg_name (i := 3) sc_init.nd rfl (by first | exact Or.inl rfl | exact Or.inr rfl)) (pss_cons (ps_if (PW.pt (pw_or (pt_not (pt_val (pe_callB call_isi (by rfl) T.b_isinstance (by decide +kernel) (pa_cons (pv 3) (pa_cons (pe_bltn (v := .ty "tuple") (by rfl) T.b_tuple (by decide +kernel) rfl) pa_nil))))) (pw_or (pt_cmpR op_ne (pe_callB call_len_seq (by rfl) T.b_len PySem.boot_len (pa_cons (pv 3) pa_nil)) pe_int (nomark _)) (pw_or (pt_not (pt_val (pe_meth (pv 0) T.nc.cl T.m_has (ok_has T) (hr.mono (by decide)) T.B_has .nil pass0 (pa_cons (pe_ix ix_tup (pv 3) pe_int (fun _ _ => rfl)) pa_nil)))) (pw_or1 (pt_not (pt_val (pe_meth (pv 0) T.nc.cl T.m_has (ok_has T) (hr.mono (by decide)) T.B_has .nil pass0 (pa_cons (pe_ix ix_tup (pv 3) pe_int (fun _ _ => rfl)) pa_nil))))))))) (pss_one (L2N.ps_raise rfl (L2N.takes_of rfl rfl rfl rfl) (T.x_NoNet.pmk (by rfl)))) pss_nil)
    (pss_cons (ps_if (PW.pt (pw_or (pt_cmpR op_eq (pe_ix ix_tup (pv 3) pe_int (fun _ _ => rfl)) (pe_ix ix_tup (pv 3) pe_int (fun _ _ => rfl)) (nomark _)) (pw_or (pt_not (pt_val (pe_call (ok_is_whole T) (hr.mono (by decide)) (by rfl) T.g_is_whole T.F_is_whole.kp T.B_is_whole .nil pass0 (pa_cons (pe_ix ix_tup (pv 3) pe_int (fun _ _ => rfl)) pa_nil)))) (pw_or1 (pt_not (pt_chain op_le op_le pe_int (pe_ix ix_tup (pv 3) pe_int (fun _ _ => rfl)) (pe_gi T.c_MOST_PRICE))))))) (pss_one (L2N.ps_raise rfl (L2N.takes_of rfl rfl rfl rfl) (T.x_NoNet.pmk (by rfl)))) pss_nil)
    (pss_cons (ps_set (i := 4) sc_init.nd rfl (by first | exact Or.inl rfl | exact Or.inr rfl) (pe_tup (pa_cons (pe_callB (call_min2 rfl) (by rfl) T.b_min (by decide +kernel) (pa_cons (pe_ix ix_tup (pv 3) pe_int (fun _ _ => rfl)) (pa_cons (pe_ix ix_tup (pv 3) pe_int (fun _ _ => rfl)) pa_nil))) (pa_cons (pe_callB (call_max2 rfl) (by rfl) T.b_max (by decide +kernel) (pa_cons (pe_ix ix_tup (pv 3) pe_int (fun _ _ => rfl)) (pa_cons (pe_ix ix_tup (pv 3) pe_int (fun _ _ => rfl)) pa_nil))) pa_nil))))
    (pss_cons (ps_expr (pe_bm PySem.F.plainAttrs_list PySem.F.slot_list_append PySem.F.type_list_append mt_append (pe_fld (pv 0) rfl) (pa_cons (pv 3) pa_nil)))
    (pss_cons (ps_if (pt_cmp (pc_dnotin (hu_of hr) (pv 4) (pe_fld (pv 0) rfl))) (pss_cons (ps_expr (pe_bm PySem.F.plainAttrs_list PySem.F.slot_list_append PySem.F.type_list_append mt_append (pe_ix ix_list (pe_fld (pv 0) rfl) (pe_ix ix_tup (pv 4) pe_int (fun _ _ => rfl)) (fun _ _ => rfl)) (pa_cons (pe_ix ix_tup (pv 4) pe_int (fun _ _ => rfl)) pa_nil)))
    (pss_one (ps_expr (pe_bm PySem.F.plainAttrs_list PySem.F.slot_list_append PySem.F.type_list_append mt_append (pe_ix ix_list (pe_fld (pv 0) rfl) (pe_ix ix_tup (pv 4) pe_int (fun _ _ => rfl)) (fun _ _ => rfl)) (pa_cons (pe_ix ix_tup (pv 4) pe_int (fun _ _ => rfl)) pa_nil))))) pss_nil)
    (pss_one (ps_dput (hu_of hr) (pe_fld (pv 0) rfl) (pv 4) (pe_op op_add (pe_meth (pv 0) T.nc.cl T.m_cost (ok_cost T) (hr.mono (by decide)) T.B_cost .nil pass0 (pa_cons (pe_ix ix_tup (pv 4) pe_int (fun _ _ => rfl)) (pa_cons (pe_ix ix_tup (pv 4) pe_int (fun _ _ => rfl)) pa_nil))) (pe_ix ix_tup (pv 3) pe_int (fun _ _ => rfl))) rfl)))))))))))))))

theorem sc_ties : FnScope ["self"] ["self"] (defScope s_ties) := ⟨rfl, rfl, rfl, by decide +kernel, rfl, by decide +kernel, by decide +kernel⟩
theorem ok_ties {A : Ads} {F : Fs} (T : Txt K mg A F) : FnOk P w K mg base CX0 1 F.f_ties F.d_ties ["self"] (sp_ties K A) := by
  refine Fun.ok T.F_ties sc_ties (len_ties K A) (fun cdv Ar outer s H vs Q E hr h => ⟨t_ties K A, ?_, pure_ties T.nc vs H Q E h⟩)
  exact (pss_one (ps_ret (pe_callTy call_list_of (by rfl) T.b_list (by decide +kernel) (pa_cons (pe_fld (pv 0) rfl) pa_nil))))

theorem sc_number_of : FnScope ["word", "sign"] ["word"] (defScope s_number_of) := ⟨rfl, rfl, rfl, by decide +kernel, rfl, by decide +kernel, by decide +kernel⟩
theorem ok_number_of {A : Ads} {F : Fs} (T : Txt K mg A F) : FnOk P w K mg base (L2N.CX P w) 1 F.f_number_of F.d_number_of ["word"] (sp_number_of K A) := by
  refine fun_okN T.F_number_of sc_number_of (len_number_of K A) (fun cdv Ar outer s H vs Q E hr h => ⟨t_number_of K A E, ?_, pure_number_of T.nc vs H Q E h⟩)
  exact (pss_cons (ps_if (PW.pt (pw_or (pt_cmpR op_eq (pv 0) pe_str (nomark _)) (pw_or (pt_cmpR op_gt (pe_callB call_len_str (by rfl) T.b_len PySem.boot_len (pa_cons (pv 0) pa_nil)) pe_int (nomark _)) (pw_or1 (PW.pt (pw_and (pt_cmpR op_eq (pe_ix ix_str (pv 0) pe_int (fun _ _ => rfl)) pe_str (nomark _)) (pw_and1 (pt_cmpR op_ne (pv 0) pe_str (nomark _))))))))) (pss_one (L2N.ps_raise rfl (L2N.takes_of rfl rfl rfl rfl) (T.x_NoText.pmk (by rfl)))) pss_nil)
    (pss_cons (ps_for (L2.passes_of rfl) rfl (pi_str (pv 0)) (pg_name (i := 1) sc_number_of.nd rfl (by first | exact Or.inl rfl | exact Or.inr rfl)) (pss_one (ps_if (pt_cmpR op_notInS (pv 1) (pe_gs T.c_FIGURES) (by rfl)) (pss_one (L2N.ps_raise rfl (L2N.takes_of rfl rfl rfl rfl) (T.x_NoText.pmk (by rfl)))) pss_nil)))
    (pss_one (ps_ret (pe_callTy call_int_str (by rfl) T.b_int (by decide +kernel) (pa_cons (pv 0) pa_nil))))))

theorem sc_read : FnScope ["text", "ties", "many", "at", "row", "words", "numbers", "word"] ["text"] (defScope s_read) := ⟨rfl, rfl, rfl, by decide +kernel, rfl, by decide +kernel, by decide +kernel⟩
theorem ok_read {A : Ads} {F : Fs} (T : Txt K mg A F) : FnOk P w K mg base (L2.CX P w) 5 F.f_read F.d_read ["text"] (sp_read K A) := by
  refine fun_okX T.F_read sc_read (len_read K A) (fun cdv Ar outer s H vs Q E hr h => ⟨t_read K A E, ?_, pure_read T.nc T.ec vs H Q E h⟩)
  exact (pss_cons (ps_if (pt_not (pt_val (pe_callB call_isi (by rfl) T.b_isinstance (by decide +kernel) (pa_cons (pv 0) (pa_cons (pe_bltn (v := .ty "str") (by rfl) T.b_str (by decide +kernel) rfl) pa_nil))))) (pss_one (L2.ps_raise rfl (L2.takes_of rfl rfl rfl rfl) (T.x_NoText.pmk2 (by rfl)))) pss_nil)
    (pss_cons (ps_set (i := 1) sc_read.nd rfl (by first | exact Or.inl rfl | exact Or.inr rfl) (pe_lst pa_nil))
    (pss_cons (ps_set (i := 2) sc_read.nd rfl (by first | exact Or.inl rfl | exact Or.inr rfl) pe_int)
    (pss_cons (ps_for (L2.passes_of rfl) rfl (pi_enum (by rfl) T.b_enumerate (pa_cons (pe_split (pv 0) pe_str) pa_nil)) (pg_tup rfl (pgs_cons (pg_name (i := 3) sc_read.nd rfl (by first | exact Or.inl rfl | exact Or.inr rfl)) (pgs_cons (pg_name (i := 4) sc_read.nd rfl (by first | exact Or.inl rfl | exact Or.inr rfl)) pgs_nil))) (pss_cons (ps_set (i := 5) sc_read.nd rfl (by first | exact Or.inl rfl | exact Or.inr rfl) (pe_split (pv 4) pe_str))
    (pss_cons (ps_if (PW.pt (pw_or (pt_cmpR op_ne (pe_ix ix_list (pv 5) pe_int (fun _ _ => rfl)) (pe_ix ix_list (pe_lst (pa_cons pe_str (pa_cons pe_str pa_nil))) (pe_callTy call_int1 (by rfl) T.b_int (by decide +kernel) (pa_cons (pe_cmpR op_eq (pv 3) pe_int (nomark _)) pa_nil)) (fun _ _ => rfl)) (nomark _)) (pw_or1 (pt_cmpR op_ne (pe_callB call_len_seq (by rfl) T.b_len PySem.boot_len (pa_cons (pv 5) pa_nil)) (pe_ix ix_list (pe_lst (pa_cons pe_int (pa_cons pe_int pa_nil))) (pe_callTy call_int1 (by rfl) T.b_int (by decide +kernel) (pa_cons (pe_cmpR op_eq (pv 3) pe_int (nomark _)) pa_nil)) (fun _ _ => rfl)) (nomark _))))) (pss_one (L2.ps_raise rfl (L2.takes_of rfl rfl rfl rfl) (T.x_NoText.pmk2 (by rfl)))) pss_nil)
    (pss_cons (ps_setLcX (i := 6) (own := [("word", 7)]) (g := (gName 7)) (E := E) rfl rfl (L2.takes_of rfl rfl rfl rfl) rfl sc_read.nd rfl rfl (sw_true rfl rfl rfl (by decide +kernel)) (pi_list (pe_slice sl_list (pv 5) (po_some pe_int) po_none)) (blkOk_by (own := [("word", 7)]) (N := ["text", "ties", "many", "at", "row", "words", "numbers", "word"]) (sc := defScope s_read) (by decide +kernel)) (fun _ _ _ _ _ _ => (pg_name (i := 7) sc_read.nd rfl (by first | exact Or.inl rfl | exact Or.inr rfl))) (fun _ _ _ _ _ _ hp => (pe_call (ok_number_of T) (hr.mono (by decide)) (by rfl) T.g_number_of T.F_number_of.kp T.B_number_of .nil (passW hp) (pa_cons (pv 7) pa_nil))))
    (pss_one (ps_if (pt_cmpR op_eq (pv 3) pe_int (nomark _)) (pss_one (ps_set (i := 2) sc_read.nd rfl (by first | exact Or.inl rfl | exact Or.inr rfl) (pe_ix ix_list (pv 6) pe_int (fun _ _ => rfl)))) (pss_one (ps_expr (pe_bm PySem.F.plainAttrs_list PySem.F.slot_list_append PySem.F.type_list_append mt_append (pv 1) (pa_cons (pe_tup (pa_cons (pe_ix ix_list (pv 6) pe_int (fun _ _ => rfl)) (pa_cons (pe_ix ix_list (pv 6) pe_int (fun _ _ => rfl)) (pa_cons (pe_ix ix_list (pv 6) pe_int (fun _ _ => rfl)) pa_nil)))) pa_nil))))))))))
    (pss_one (L2H.ps_try_onlyX (tb := fun W => (fun EW => (tRet (tMake A.C (sp_init K A) [] EW (tCons (tVar 2) (tCons (tVar 1) tNil))))) (anyS 8 W)) (ts := fun _ _ _ _ _ H' => E (.ref A.eNoText) none H') (Wout := fun cls d _ H' => E cls d H') rfl rfl ⟨rfl, by decide, Or.inl T.x_NoNet.gC⟩ (fun hd => L2H.passesAt_of rfl hd) (L2.takes_of rfl rfl rfl rfl) (fun W pn xe tk _ _ => (pss_one (ps_ret (pe_make T.mkN (ok_init T) (hr.mono (by decide)) (by rfl) T.mgC T.B_init .nil (passL tk) (pa_cons (pv 2) (pa_cons (pv 1) pa_nil)))))) (fun ea oe cls d pn hz hf tk2 hot => pss_one (L2H.ps_raiseHN hot tk2 (T.x_NoText.pmk5 (by rfl))))))))))

theorem sc_l_cell_at : FnScope ["_law_script", "_law_k"] ["_law_script", "_law_k"] (defScope s_l_cell_at) := ⟨rfl, rfl, rfl, by decide +kernel, rfl, by decide +kernel, by decide +kernel⟩
theorem ok_l_cell_at {A : Ads} {F : Fs} (T : Txt K mg A F) : FnOk P w K mg base CX0 1 F.f_l_cell_at F.d_l_cell_at ["_law_script", "_law_k"] (sp_l_cell_at K A) := by
  refine Fun.ok T.F_l_cell_at sc_l_cell_at (len_l_cell_at K A) (fun cdv Ar outer s H vs Q E hr h => ⟨t_l_cell_at K A, ?_, pure_l_cell_at vs H Q E h⟩)
  exact (pss_cons (ps_if (pt_cmpR op_lt (pv 1) (pe_callB call_len_seq (by rfl) T.b_len PySem.boot_len (pa_cons (pv 0) pa_nil)) (nomark _)) (pss_one (ps_ret (pe_ix ix_list (pv 0) (pv 1) (fun _ _ => rfl)))) pss_nil)
    (pss_one (ps_ret pe_int)))

theorem sc_l_number : FnScope ["_law_word", "_law_sign"] ["_law_word"] (defScope s_l_number) := ⟨rfl, rfl, rfl, by decide +kernel, rfl, by decide +kernel, by decide +kernel⟩
theorem ok_l_number {A : Ads} {F : Fs} (T : Txt K mg A F) : FnOk P w K mg base CX0 1 F.f_l_number F.d_l_number ["_law_word"] (sp_l_number K A) := by
  refine Fun.ok T.F_l_number sc_l_number (len_l_number K A) (fun cdv Ar outer s H vs Q E hr h => ⟨t_l_number K A, ?_, pure_l_number vs H Q E h⟩)
  exact (pss_cons (ps_if (PW.pt (pw_or (pt_cmpR op_eq (pv 0) pe_str (nomark _)) (pw_or (pt_cmpR op_gt (pe_callB call_len_str (by rfl) T.b_len PySem.boot_len (pa_cons (pv 0) pa_nil)) pe_int (nomark _)) (pw_or1 (PW.pt (pw_and (pt_cmpR op_eq (pe_ix ix_str (pv 0) pe_int (fun _ _ => rfl)) pe_str (nomark _)) (pw_and1 (pt_cmpR op_ne (pv 0) pe_str (nomark _))))))))) (pss_one (ps_ret (pe_un un_neg pe_int))) pss_nil)
    (pss_cons (ps_for PassesOwn.never rfl (pi_str (pv 0)) (pg_name (i := 1) sc_l_number.nd rfl (by first | exact Or.inl rfl | exact Or.inr rfl)) (pss_one (ps_if (pt_cmpR op_notInS (pv 1) pe_str (by rfl)) (pss_one (ps_ret (pe_un un_neg pe_int))) pss_nil)))
    (pss_one (ps_ret (pe_callTy call_int_str (by rfl) T.b_int (by decide +kernel) (pa_cons (pv 0) pa_nil))))))

theorem sc_l_due11 : FnScope ["_law_text", "_law_rows", "_law_many", "_law_ties", "_law_row", "_law_tie"] ["_law_text"] (defScope s_l_due11) := ⟨rfl, rfl, rfl, by decide +kernel, rfl, by decide +kernel, by decide +kernel⟩
theorem ok_l_due11 {A : Ads} {F : Fs} (T : Txt K mg A F) : FnOk P w K mg base CX0 2 F.f_l_due11 F.d_l_due11 ["_law_text"] (sp_l_due11 K A) := by
  refine Fun.ok T.F_l_due11 sc_l_due11 (len_l_due11 K A) (fun cdv Ar outer s H vs Q E hr h => ⟨t_l_due11 K A, ?_, pure_l_due11 vs H Q E h⟩)
  exact (pss_cons (ps_setLc (i := 1) (own := [("_law_row", 4)]) (g := (gName 4)) (tt := tYes) rfl sc_l_due11.nd rfl rfl (sw_true rfl rfl rfl (by decide +kernel)) (pi_list (pe_split (pv 0) pe_str)) (blkOk_by (own := [("_law_row", 4)]) (N := ["_law_text", "_law_rows", "_law_many", "_law_ties", "_law_row", "_law_tie"]) (sc := defScope s_l_due11) (by decide +kernel)) (fun _ _ _ _ _ => (pg_name (i := 4) sc_l_due11.nd rfl (by first | exact Or.inl rfl | exact Or.inr rfl))) (fun _ _ _ _ _ => pts_nil) (fun _ _ _ _ _ => (pe_split (pv 4) pe_str)))
    (pss_cons (ps_if (PW.pt (pw_or (pt_cmpR op_ne (pe_callB call_len_seq (by rfl) T.b_len PySem.boot_len (pa_cons (pe_ix ix_list (pv 1) pe_int (fun _ _ => rfl)) pa_nil)) pe_int (nomark _)) (pw_or (pt_cmpR op_ne (pe_ix ix_list (pe_ix ix_list (pv 1) pe_int (fun _ _ => rfl)) pe_int (fun _ _ => rfl)) pe_str (nomark _)) (pw_or (pt_not (pt_chain op_le op_le pe_int (pe_call (ok_l_number T) (hr.mono (by decide)) (by rfl) T.g_l_number T.F_l_number.kp T.B_l_number .nil pass0 (pa_cons (pe_ix ix_list (pe_ix ix_list (pv 1) pe_int (fun _ _ => rfl)) pe_int (fun _ _ => rfl)) pa_nil)) pe_int)) (pw_or1 (pt_cmpR op_gt (pe_callB call_len_seq (by rfl) T.b_len PySem.boot_len (pa_cons (pv 1) pa_nil)) pe_int (nomark _))))))) (pss_one (ps_ret (pe_lst pa_nil))) pss_nil)
    (pss_cons (ps_set (i := 2) sc_l_due11.nd rfl (by first | exact Or.inl rfl | exact Or.inr rfl) (pe_call (ok_l_number T) (hr.mono (by decide)) (by rfl) T.g_l_number T.F_l_number.kp T.B_l_number .nil pass0 (pa_cons (pe_ix ix_list (pe_ix ix_list (pv 1) pe_int (fun _ _ => rfl)) pe_int (fun _ _ => rfl)) pa_nil)))
    (pss_cons (ps_set (i := 3) sc_l_due11.nd rfl (by first | exact Or.inl rfl | exact Or.inr rfl) (pe_lst pa_nil))
    (pss_cons (ps_for PassesOwn.never rfl (pi_list (pe_slice sl_list (pv 1) (po_some pe_int) po_none)) (pg_name (i := 4) sc_l_due11.nd rfl (by first | exact Or.inl rfl | exact Or.inr rfl)) (pss_cons (ps_if (PW.pt (pw_or (pt_cmpR op_ne (pe_callB call_len_seq (by rfl) T.b_len PySem.boot_len (pa_cons (pv 4) pa_nil)) pe_int (nomark _)) (pw_or1 (pt_cmpR op_ne (pe_ix ix_list (pv 4) pe_int (fun _ _ => rfl)) pe_str (nomark _))))) (pss_one (ps_ret (pe_lst pa_nil))) pss_nil)
    (pss_cons (ps_set (i := 5) sc_l_due11.nd rfl (by first | exact Or.inl rfl | exact Or.inr rfl) (pe_tup (pa_cons (pe_call (ok_l_number T) (hr.mono (by decide)) (by rfl) T.g_l_number T.F_l_number.kp T.B_l_number .nil pass0 (pa_cons (pe_ix ix_list (pv 4) pe_int (fun _ _ => rfl)) pa_nil)) (pa_cons (pe_call (ok_l_number T) (hr.mono (by decide)) (by rfl) T.g_l_number T.F_l_number.kp T.B_l_number .nil pass0 (pa_cons (pe_ix ix_list (pv 4) pe_int (fun _ _ => rfl)) pa_nil)) (pa_cons (pe_call (ok_l_number T) (hr.mono (by decide)) (by rfl) T.g_l_number T.F_l_number.kp T.B_l_number .nil pass0 (pa_cons (pe_ix ix_list (pv 4) pe_int (fun _ _ => rfl)) pa_nil)) pa_nil)))))
    (pss_cons (ps_if (PW.pt (pw_or (pt_not (pt_chain op_le op_lt pe_int (pe_ix ix_tup (pv 5) pe_int (fun _ _ => rfl)) (pv 2))) (pw_or (pt_not (pt_chain op_le op_lt pe_int (pe_ix ix_tup (pv 5) pe_int (fun _ _ => rfl)) (pv 2))) (pw_or (pt_cmpR op_eq (pe_ix ix_tup (pv 5) pe_int (fun _ _ => rfl)) (pe_ix ix_tup (pv 5) pe_int (fun _ _ => rfl)) (nomark _)) (pw_or1 (pt_not (pt_chain op_le op_le pe_int (pe_ix ix_tup (pv 5) pe_int (fun _ _ => rfl)) pe_int))))))) (pss_one (ps_ret (pe_lst pa_nil))) pss_nil)
    (pss_one (ps_expr (pe_bm PySem.F.plainAttrs_list PySem.F.slot_list_append PySem.F.type_list_append mt_append (pv 3) (pa_cons (pv 5) pa_nil))))))))
    (pss_one (ps_ret (pe_lst (pa_cons (pv 2) (pa_cons (pv 3) pa_nil))))))))))

theorem sc_l_refused : FnScope ["_law_text", "e"] ["_law_text"] (defScope s_l_refused) := ⟨rfl, rfl, rfl, by decide +kernel, rfl, by decide +kernel, by decide +kernel⟩
theorem ok_l_refused {A : Ads} {F : Fs} (T : Txt K mg A F) : FnOk P w K mg base CX0 6 F.f_l_refused F.d_l_refused ["_law_text"] (sp_l_refused K A) := by
  refine Fun.ok T.F_l_refused sc_l_refused (len_l_refused K A) (fun cdv Ar outer s H vs Q E hr h => ⟨t_l_refused K A, ?_, pure_l_refused T.ec vs H Q E h⟩)
  exact (pss_cons (L2.ps_try_as (i := 1) (tb := fun W => (fun EW => (tDrop (tCall (sp_read K A) [] EW (tCons (tVar 0) tNil)))) (anyS 2 W)) (ts := tsOnly A.eNoText (fun ea => (tSeq (tIfS (tB (tCB (rIsET K A.eNoText ea) (tCons (tVar 1) (tCons (tTup (tCons (tC (.ref A.eNoNet)) (tCons (tC (.ref A.eNoPlace)) (tCons (tC (.ref A.eNoSide)) tNil)))) tNil)))) (tRet (tC (.bl false))) tNext)
    (tRet (tAndV (tCB (rIsE K A.eNoText ea) (tCons (tVar 1) (tCons (tC (.ref A.eWallError)) tNil))) (tCB (rIsE K A.eNoText ea) (tCons (tVar 1) (tCons (tC (.ty "ValueError")) tNil)))))))) (Wout := fun _ _ _ _ => False) rfl rfl sc_l_refused.nd rfl rfl ⟨rfl, by decide, Or.inl T.x_NoText.gC⟩ take0X (fun W pn xe tk _ => (pss_one (ps_expr (pe_call (ok_read T) (hr.mono (by decide)) (by rfl) T.g_read T.F_read.kp T.B_read .nil (passLX tk) (pa_cons (pv 0) pa_nil))))) (fun ea oe cls d pn hz hf => pss_onlyX hz fun hzc => (pss_cons (ps_if (pt_val (pe_callB (call_isET (T.ec.cc .text) hzc hf) (by rfl) T.b_isinstance (by decide +kernel) (pa_cons (pv 1) (pa_cons (pe_tup (pa_cons (pe_glob (v := .ref A.eNoNet) (by rfl) T.x_NoNet.gC rfl) (pa_cons (pe_glob (v := .ref A.eNoPlace) (by rfl) T.x_NoPlace.gC rfl) (pa_cons (pe_glob (v := .ref A.eNoSide) (by rfl) T.x_NoSide.gC rfl) pa_nil)))) pa_nil)))) (pss_one (ps_ret pe_bl)) pss_nil)
    (pss_one (ps_ret (pe_and (pe_callB (call_isE (T.ec.cc .text) hzc hf) (by rfl) T.b_isinstance (by decide +kernel) (pa_cons (pv 1) (pa_cons (pe_glob (v := .ref A.eWallError) (by rfl) T.x_WallError.gC rfl) pa_nil))) (pe_one (pe_callB (call_isE (T.ec.cc .text) hzc hf) (by rfl) T.b_isinstance (by decide +kernel) (pa_cons (pv 1) (pa_cons (pe_bltn (v := .ty "ValueError") (by rfl) T.b_ValueError (by decide +kernel) rfl) pa_nil))))))))))
    (pss_one (ps_ret pe_bl)))

theorem sc_l_odd : FnScope ["_law_cell", "_law_some", "_law_rows", "_law_row"] ["_law_cell"] (defScope s_l_odd) := ⟨rfl, rfl, rfl, by decide +kernel, rfl, by decide +kernel, by decide +kernel⟩
theorem ok_l_odd {A : Ads} {F : Fs} (T : Txt K mg A F) : FnOk P w K mg base CX0 1 F.f_l_odd F.d_l_odd ["_law_cell"] (sp_l_odd K A) := by
  refine Fun.ok T.F_l_odd sc_l_odd (len_l_odd K A) (fun cdv Ar outer s H vs Q E hr h => ⟨t_l_odd K A, ?_, pure_l_odd vs H Q E h⟩)
  exact (pss_cons (ps_set (i := 1) sc_l_odd.nd rfl (by first | exact Or.inl rfl | exact Or.inr rfl) (pe_lst (pa_cons pe_str (pa_cons pe_str (pa_cons pe_str (pa_cons pe_str (pa_cons pe_str (pa_cons pe_str (pa_cons pe_str (pa_cons pe_str (pa_cons pe_str pa_nil)))))))))))
    (pss_cons (ps_set (i := 1) sc_l_odd.nd rfl (by first | exact Or.inl rfl | exact Or.inr rfl) (pe_op op_cat (pv 1) (pe_lst (pa_cons pe_str (pa_cons pe_str (pa_cons pe_str (pa_cons pe_str (pa_cons pe_str (pa_cons pe_str (pa_cons pe_str pa_nil))))))))))
    (pss_cons (ps_set (i := 2) sc_l_odd.nd rfl (by first | exact Or.inl rfl | exact Or.inr rfl) (pe_lst (pa_cons pe_str (pa_cons pe_str (pa_cons pe_str (pa_cons pe_str (pa_cons pe_str (pa_cons pe_str (pa_cons pe_str pa_nil)))))))))
    (pss_cons (ps_set (i := 2) sc_l_odd.nd rfl (by first | exact Or.inl rfl | exact Or.inr rfl) (pe_op op_cat (pv 2) (pe_lst (pa_cons pe_str (pa_cons pe_str (pa_cons pe_str (pa_cons pe_str (pa_cons pe_str (pa_cons pe_str pa_nil)))))))))
    (pss_cons (ps_set (i := 1) sc_l_odd.nd rfl (by first | exact Or.inl rfl | exact Or.inr rfl) (pe_op op_cat (pe_op op_cat (pv 1) (pe_lst (pa_cons pe_str (pa_cons pe_str pa_nil)))) (pe_lc (own := [("_law_row", 3)]) (g := (gName 3)) (tt := tYes) rfl sc_l_odd.nd (pi_list (pv 2)) (blkOk_by (own := [("_law_row", 3)]) (N := ["_law_cell", "_law_some", "_law_rows", "_law_row"]) (sc := defScope s_l_odd) (by decide +kernel)) (fun _ _ _ _ _ => (pg_name (i := 3) sc_l_odd.nd rfl (by first | exact Or.inl rfl | exact Or.inr rfl))) (fun _ _ _ _ _ => pts_nil) (fun _ _ _ _ _ => (pe_op op_add_str pe_str (pv 3))))))
    (pss_one (ps_ret (pe_ix ix_list (pv 1) (pe_op op_mod (pv 0) pe_int) (fun _ _ => rfl)))))))))

theorem sc_l_signs : FnScope ["_law_some"] [] (defScope s_l_signs) := ⟨rfl, rfl, rfl, by decide +kernel, rfl, by decide +kernel, by decide +kernel⟩
theorem ok_l_signs {A : Ads} {F : Fs} (T : Txt K mg A F) : FnOk P w K mg base CX0 1 F.f_l_signs F.d_l_signs [] (sp_l_signs K A) := by
  refine Fun.ok T.F_l_signs sc_l_signs (len_l_signs K A) (fun cdv Ar outer s H vs Q E hr h => ⟨t_l_signs K A, ?_, pure_l_signs vs H Q E h⟩)
  exact (pss_cons (ps_set (i := 0) sc_l_signs.nd rfl (by first | exact Or.inl rfl | exact Or.inr rfl) pe_str)
    (pss_one (ps_ret (pe_op op_add_str (pv 0) pe_str))))

theorem sc_l_sign_by : FnScope ["_law_cell"] ["_law_cell"] (defScope s_l_sign_by) := ⟨rfl, rfl, rfl, by decide +kernel, rfl, by decide +kernel, by decide +kernel⟩
theorem ok_l_sign_by {A : Ads} {F : Fs} (T : Txt K mg A F) : FnOk P w K mg base CX0 2 F.f_l_sign_by F.d_l_sign_by ["_law_cell"] (sp_l_sign_by K A) := by
  refine Fun.ok T.F_l_sign_by sc_l_sign_by (len_l_sign_by K A) (fun cdv Ar outer s H vs Q E hr h => ⟨t_l_sign_by K A, ?_, pure_l_sign_by vs H Q E h⟩)
  exact (pss_cons (ps_if (pt_cmpR op_eq (pe_op op_mod (pv 0) pe_int) pe_int (nomark _)) (pss_one (ps_ret (pe_ix ix_str pe_str (pe_op op_mod (pe_op op_fdiv (pv 0) pe_int) pe_int) (fun _ _ => rfl)))) pss_nil)
    (pss_one (ps_ret (pe_ix ix_str (pe_call0 (ok_l_signs T) (hr.mono (by decide)) (by rfl) T.g_l_signs T.F_l_signs.kp T.B_l_signs .nil pass0) (pe_op op_mod (pe_op op_fdiv (pv 0) pe_int) pe_int) (fun _ _ => rfl)))))

theorem sc_l_no_blank : FnScope ["_law_at", "_law_words", "_law_sign"] ["_law_at"] (defScope s_l_no_blank) := ⟨rfl, rfl, rfl, by decide +kernel, rfl, by decide +kernel, by decide +kernel⟩
theorem ok_l_no_blank {A : Ads} {F : Fs} (T : Txt K mg A F) : FnOk P w K mg base CX0 7 F.f_l_no_blank F.d_l_no_blank ["_law_at"] (sp_l_no_blank K A) := by
  refine Fun.ok T.F_l_no_blank sc_l_no_blank (len_l_no_blank K A) (fun cdv Ar outer s H vs Q E hr h => ⟨t_l_no_blank K A, ?_, pure_l_no_blank vs H Q E h⟩)
  exact (pss_cons (ps_set (i := 1) sc_l_no_blank.nd rfl (by first | exact Or.inl rfl | exact Or.inr rfl) (pe_lst (pa_cons pe_str (pa_cons pe_str (pa_cons pe_str (pa_cons pe_str (pa_cons pe_str pa_nil)))))))
    (pss_cons (ps_for PassesOwn.never rfl (pi_str (pe_slice C8.sl_txt (pe_call0 (ok_l_signs T) (hr.mono (by decide)) (by rfl) T.g_l_signs T.F_l_signs.kp T.B_l_signs .nil pass0) (po_some pe_int) po_none)) (pg_name (i := 2) sc_l_no_blank.nd rfl (by first | exact Or.inl rfl | exact Or.inr rfl)) (pss_one (ps_if (pt_not (pt_val (pe_call (ok_l_refused T) (hr.mono (by decide)) (by rfl) T.g_l_refused T.F_l_refused.kp T.B_l_refused .nil pass0 (pa_cons (pe_op op_add_str (pe_op op_add_str (pe_join pe_str (pe_slice sl_list (pv 1) po_none (po_some (pv 0)))) (pv 2)) (pe_join pe_str (pe_slice sl_list (pv 1) (po_some (pv 0)) po_none))) pa_nil)))) (pss_one (ps_ret pe_bl)) pss_nil)))
    (pss_one (ps_ret pe_bl))))

theorem sc_l_good : FnScope ["_law_script", "_law_many", "_law_rows", "_law_k", "_law_cell", "_law_one", "_law_other", "_law_price"] ["_law_script", "_law_many"] (defScope s_l_good) := ⟨rfl, rfl, rfl, by decide +kernel, rfl, by decide +kernel, by decide +kernel⟩
theorem ok_l_good {A : Ads} {F : Fs} (T : Txt K mg A F) : FnOk P w K mg base CX0 2 F.f_l_good F.d_l_good ["_law_script", "_law_many"] (sp_l_good K A) := by
  refine Fun.ok T.F_l_good sc_l_good (len_l_good K A) (fun cdv Ar outer s H vs Q E hr h => ⟨t_l_good K A, ?_, pure_l_good vs H Q E h⟩)
  exact (pss_cons (ps_set (i := 2) sc_l_good.nd rfl (by first | exact Or.inl rfl | exact Or.inr rfl) (pe_lst (pa_cons (pe_op op_add_str pe_str (pe_callTy call_str_int (by rfl) T.b_str (by decide +kernel) (pa_cons (pv 1) pa_nil))) pa_nil)))
    (pss_cons (ps_for PassesOwn.never rfl (pi_range1 (by rfl) T.b_range (pa_cons (pe_op op_mod (pe_call (ok_l_cell_at T) (hr.mono (by decide)) (by rfl) T.g_l_cell_at T.F_l_cell_at.kp T.B_l_cell_at .nil pass0 (pa_cons (pv 0) (pa_cons pe_int pa_nil))) pe_int) pa_nil)) (pg_name (i := 3) sc_l_good.nd rfl (by first | exact Or.inl rfl | exact Or.inr rfl)) (pss_cons (ps_set (i := 4) sc_l_good.nd rfl (by first | exact Or.inl rfl | exact Or.inr rfl) (pe_call (ok_l_cell_at T) (hr.mono (by decide)) (by rfl) T.g_l_cell_at T.F_l_cell_at.kp T.B_l_cell_at .nil pass0 (pa_cons (pv 0) (pa_cons (pe_op op_add pe_int (pv 3)) pa_nil))))
    (pss_cons (ps_set (i := 5) sc_l_good.nd rfl (by first | exact Or.inl rfl | exact Or.inr rfl) (pe_op op_mod (pv 4) (pv 1)))
    (pss_cons (ps_set (i := 6) sc_l_good.nd rfl (by first | exact Or.inl rfl | exact Or.inr rfl) (pe_op op_mod (pe_op op_add (pe_op op_add (pv 5) pe_int) (pe_op op_mod (pe_op op_fdiv (pv 4) (pv 1)) (pe_op op_sub (pv 1) pe_int))) (pv 1)))
    (pss_cons (ps_set (i := 7) sc_l_good.nd rfl (by first | exact Or.inl rfl | exact Or.inr rfl) (pe_op op_add pe_int (pe_op op_mod (pe_op op_fdiv (pv 4) (pe_op op_mul (pv 1) (pv 1))) (pe_ix ix_list (pe_lst (pa_cons pe_int (pa_cons pe_int pa_nil))) (pe_op op_mod (pv 3) pe_int) (fun _ _ => rfl)))))
    (pss_one (ps_expr (pe_bm PySem.F.plainAttrs_list PySem.F.slot_list_append PySem.F.type_list_append mt_append (pv 2) (pa_cons (pe_op op_add_str (pe_op op_add_str (pe_op op_add_str (pe_op op_add_str (pe_op op_add_str pe_str (pe_callTy call_str_int (by rfl) T.b_str (by decide +kernel) (pa_cons (pv 5) pa_nil))) pe_str) (pe_callTy call_str_int (by rfl) T.b_str (by decide +kernel) (pa_cons (pv 6) pa_nil))) pe_str) (pe_callTy call_str_int (by rfl) T.b_str (by decide +kernel) (pa_cons (pv 7) pa_nil))) pa_nil)))))))))
    (pss_one (ps_ret (pe_join pe_str (pv 2))))))

theorem sc_law : FnScope ["_law_script", "_law_way", "_law_cell", "_law_many", "_law_text", "_law_at", "_law_sign", "_law_due_here", "_law_net"] ["_law_script"] (defScope s_law) := ⟨rfl, rfl, rfl, by decide +kernel, rfl, by decide +kernel, by decide +kernel⟩
theorem ok_law {A : Ads} {F : Fs} (T : Txt K mg A F) : FnOk P w K mg base CX0 8 F.f_law F.d_law ["_law_script"] (sp_law K A) := by
  refine Fun.ok T.F_law sc_law (len_law K A) (fun cdv Ar outer s H vs Q E hr h => ⟨t_law K A, ?_, pure_law T.nc vs H Q E h⟩)
  exact (pss_cons (ps_set (i := 1) sc_law.nd rfl (by first | exact Or.inl rfl | exact Or.inr rfl) (pe_op op_mod (pe_call (ok_l_cell_at T) (hr.mono (by decide)) (by rfl) T.g_l_cell_at T.F_l_cell_at.kp T.B_l_cell_at .nil pass0 (pa_cons (pv 0) (pa_cons pe_int pa_nil))) pe_int))
    (pss_cons (ps_set (i := 2) sc_law.nd rfl (by first | exact Or.inl rfl | exact Or.inr rfl) (pe_call (ok_l_cell_at T) (hr.mono (by decide)) (by rfl) T.g_l_cell_at T.F_l_cell_at.kp T.B_l_cell_at .nil pass0 (pa_cons (pv 0) (pa_cons pe_int pa_nil))))
    (pss_cons (ps_set (i := 3) sc_law.nd rfl (by first | exact Or.inl rfl | exact Or.inr rfl) (pe_op op_add pe_int (pe_op op_mod (pe_op op_fdiv (pe_call (ok_l_cell_at T) (hr.mono (by decide)) (by rfl) T.g_l_cell_at T.F_l_cell_at.kp T.B_l_cell_at .nil pass0 (pa_cons (pv 0) (pa_cons pe_int pa_nil))) pe_int) pe_int)))
    (pss_cons (ps_if (pt_cmpR op_eq (pv 1) pe_int (nomark _)) (pss_one (ps_ret (pe_and (pe_call (ok_l_refused T) (hr.mono (by decide)) (by rfl) T.g_l_refused T.F_l_refused.kp T.B_l_refused .nil pass0 (pa_cons (pe_ix ix_list (pe_lst (pa_cons pe_non (pa_cons pe_int (pa_cons pe_bl (pa_cons (pe_lst (pa_cons pe_str pa_nil)) (pa_cons (pe_tup (pa_cons pe_str pa_nil)) pa_nil)))))) (pe_op op_mod (pv 2) pe_int) (fun _ _ => rfl)) pa_nil)) (pe_one (pe_call (ok_l_no_blank T) (hr.mono (by decide)) (by rfl) T.g_l_no_blank T.F_l_no_blank.kp T.B_l_no_blank .nil pass0 (pa_cons (pe_op op_add pe_int (pe_op op_mod (pe_op op_fdiv (pv 2) pe_int) pe_int)) pa_nil)))))) pss_nil)
    (pss_cons (ps_if (pt_cmpR op_eq (pv 1) pe_int (nomark _)) (pss_cons (ps_set (i := 4) sc_law.nd rfl (by first | exact Or.inl rfl | exact Or.inr rfl) (pe_op op_add_str pe_str (pe_op op_repS pe_str pe_int)))
    (pss_one (ps_ret (pe_and (pe_call (ok_l_refused T) (hr.mono (by decide)) (by rfl) T.g_l_refused T.F_l_refused.kp T.B_l_refused .nil pass0 (pa_cons (pe_op op_add_str (pv 4) pe_str) pa_nil)) (pe_one (pe_cmpR op_eq (pe_callB call_len_seq (by rfl) T.b_len PySem.boot_len (pa_cons (pe_meth0 (pe_call (ok_read T) (hr.mono (by decide)) (by rfl) T.g_read T.F_read.kp T.B_read .nil passX (pa_cons (pv 4) pa_nil)) T.nc.cl T.m_ties (ok_ties T) (hr.mono (by decide)) T.B_ties .nil pass0) pa_nil)) pe_int (nomark _))))))) pss_nil)
    (pss_cons (ps_if (pt_cmpR op_lt (pv 1) pe_int (nomark _)) (pss_one (ps_ret (pe_call (ok_l_refused T) (hr.mono (by decide)) (by rfl) T.g_l_refused T.F_l_refused.kp T.B_l_refused .nil pass0 (pa_cons (pe_call (ok_l_odd T) (hr.mono (by decide)) (by rfl) T.g_l_odd T.F_l_odd.kp T.B_l_odd .nil pass0 (pa_cons (pv 2) pa_nil)) pa_nil)))) pss_nil)
    (pss_cons (ps_set (i := 4) sc_law.nd rfl (by first | exact Or.inl rfl | exact Or.inr rfl) (pe_call (ok_l_good T) (hr.mono (by decide)) (by rfl) T.g_l_good T.F_l_good.kp T.B_l_good .nil pass0 (pa_cons (pv 0) (pa_cons (pv 3) pa_nil))))
    (pss_cons (ps_if (pt_cmpR op_lt (pv 1) pe_int (nomark _)) (pss_cons (ps_set (i := 5) sc_law.nd rfl (by first | exact Or.inl rfl | exact Or.inr rfl) (pe_op op_mod (pe_op op_fdiv (pv 2) pe_int) (pe_callB call_len_str (by rfl) T.b_len PySem.boot_len (pa_cons (pv 4) pa_nil))))
    (pss_cons (ps_set (i := 6) sc_law.nd rfl (by first | exact Or.inl rfl | exact Or.inr rfl) (pe_call (ok_l_sign_by T) (hr.mono (by decide)) (by rfl) T.g_l_sign_by T.F_l_sign_by.kp T.B_l_sign_by .nil pass0 (pa_cons (pe_op op_mod (pe_op op_mul (pv 2) pe_int) pe_int) pa_nil)))
    (pss_one (ps_set (i := 4) sc_law.nd rfl (by first | exact Or.inl rfl | exact Or.inr rfl) (pe_op op_add_str (pe_op op_add_str (pe_slice C8.sl_txt (pv 4) po_none (po_some (pv 5))) (pe_ix ix_list (pe_lst (pa_cons (pv 6) (pa_cons pe_str (pa_cons (pv 6) pa_nil)))) (pe_op op_mod (pv 2) pe_int) (fun _ _ => rfl))) (pe_slice C8.sl_txt (pv 4) (po_some (pe_op op_add (pv 5) (pe_ix ix_list (pe_lst (pa_cons pe_int (pa_cons pe_int (pa_cons pe_int pa_nil)))) (pe_op op_mod (pv 2) pe_int) (fun _ _ => rfl)))) po_none)))))) pss_nil)
    (pss_cons (ps_set (i := 7) sc_law.nd rfl (by first | exact Or.inl rfl | exact Or.inr rfl) (pe_call (ok_l_due11 T) (hr.mono (by decide)) (by rfl) T.g_l_due11 T.F_l_due11.kp T.B_l_due11 .nil pass0 (pa_cons (pv 4) pa_nil)))
    (pss_cons (ps_if (pt_cmpR (op_eqD hr.units) (pv 7) (pe_lst pa_nil) (nomark _)) (pss_one (ps_ret (pe_call (ok_l_refused T) (hr.mono (by decide)) (by rfl) T.g_l_refused T.F_l_refused.kp T.B_l_refused .nil pass0 (pa_cons (pv 4) pa_nil)))) pss_nil)
    (pss_cons (ps_set (i := 8) sc_law.nd rfl (by first | exact Or.inl rfl | exact Or.inr rfl) (pe_call (ok_read T) (hr.mono (by decide)) (by rfl) T.g_read T.F_read.kp T.B_read .nil passX (pa_cons (pv 4) pa_nil)))
    (pss_one (ps_ret (pe_and (pe_cmpR op_eq (pe_fld (pv 8) rfl) (pe_ix ix_list (pv 7) pe_int (fun _ _ => rfl)) (nomark _)) (pe_one (pe_cmpR (op_eqD hr.units) (pe_meth0 (pv 8) T.nc.cl T.m_ties (ok_ties T) (hr.mono (by decide)) T.B_ties .nil pass0) (pe_ix ix_list (pv 7) pe_int (fun _ _ => rfl)) (nomark _)))))))))))))))))

end
theorem all_mk {l : PySem.W.OpenLaw} {w : World} {K : PySem.W.Frag} {h : Heap} {mg : Str → Option Value} {fa : Addr} (X : K.In h) (G : h.Ns mainGlobals mg) (hfa : mg "law" = some (.ref fa))
    {C : Addr}
    {od_is_whole an_is_whole : Option Addr} {sl_is_whole : Array (Option Value)} {oc_is_whole kV_is_whole dc_is_whole pm_is_whole cd_is_whole ct_is_whole : Value} {f_is_whole : Addr}
    {od_has an_has : Option Addr} {sl_has : Array (Option Value)} {oc_has kV_has dc_has pm_has cd_has ct_has : Value} {f_has : Addr}
    {od_cost an_cost : Option Addr} {sl_cost : Array (Option Value)} {oc_cost kV_cost dc_cost pm_cost cd_cost ct_cost : Value} {f_cost : Addr}
    {od_init an_init : Option Addr} {sl_init : Array (Option Value)} {oc_init kV_init dc_init pm_init cd_init ct_init : Value} {f_init : Addr}
    {od_ties an_ties : Option Addr} {sl_ties : Array (Option Value)} {oc_ties kV_ties dc_ties pm_ties cd_ties ct_ties : Value} {f_ties : Addr}
    {od_number_of an_number_of : Option Addr} {sl_number_of : Array (Option Value)} {oc_number_of kV_number_of dc_number_of pm_number_of cd_number_of ct_number_of : Value} {f_number_of : Addr}
    {od_read an_read : Option Addr} {sl_read : Array (Option Value)} {oc_read kV_read dc_read pm_read cd_read ct_read : Value} {f_read : Addr}
    {od_l_cell_at an_l_cell_at : Option Addr} {sl_l_cell_at : Array (Option Value)} {oc_l_cell_at kV_l_cell_at dc_l_cell_at pm_l_cell_at cd_l_cell_at ct_l_cell_at : Value} {f_l_cell_at : Addr}
    {od_l_number an_l_number : Option Addr} {sl_l_number : Array (Option Value)} {oc_l_number kV_l_number dc_l_number pm_l_number cd_l_number ct_l_number : Value} {f_l_number : Addr}
    {od_l_due11 an_l_due11 : Option Addr} {sl_l_due11 : Array (Option Value)} {oc_l_due11 kV_l_due11 dc_l_due11 pm_l_due11 cd_l_due11 ct_l_due11 : Value} {f_l_due11 : Addr}
    {od_l_refused an_l_refused : Option Addr} {sl_l_refused : Array (Option Value)} {oc_l_refused kV_l_refused dc_l_refused pm_l_refused cd_l_refused ct_l_refused : Value} {f_l_refused : Addr}
    {od_l_odd an_l_odd : Option Addr} {sl_l_odd : Array (Option Value)} {oc_l_odd kV_l_odd dc_l_odd pm_l_odd cd_l_odd ct_l_odd : Value} {f_l_odd : Addr}
    {od_l_signs an_l_signs : Option Addr} {sl_l_signs : Array (Option Value)} {oc_l_signs kV_l_signs dc_l_signs pm_l_signs cd_l_signs ct_l_signs : Value} {f_l_signs : Addr}
    {od_l_sign_by an_l_sign_by : Option Addr} {sl_l_sign_by : Array (Option Value)} {oc_l_sign_by kV_l_sign_by dc_l_sign_by pm_l_sign_by cd_l_sign_by ct_l_sign_by : Value} {f_l_sign_by : Addr}
    {od_l_no_blank an_l_no_blank : Option Addr} {sl_l_no_blank : Array (Option Value)} {oc_l_no_blank kV_l_no_blank dc_l_no_blank pm_l_no_blank cd_l_no_blank ct_l_no_blank : Value} {f_l_no_blank : Addr}
    {od_l_good an_l_good : Option Addr} {sl_l_good : Array (Option Value)} {oc_l_good kV_l_good dc_l_good pm_l_good cd_l_good ct_l_good : Value} {f_l_good : Addr}
    {od_law an_law : Option Addr} {sl_law : Array (Option Value)} {oc_law kV_law dc_law pm_law cd_law ct_law : Value} {f_law : Addr}
    {t_MOST_PLACES : Tok}
    {t_MOST_TIES : Tok}
    {t_MOST_PRICE : Tok}
    {t_FIGURES : Tok}
    {e_WallError : Addr}
    {e_NoNet : Addr}
    {e_NoPlace : Addr}
    {e_NoSide : Addr}
    {e_NoText : Addr}
    (aC : PySem.W.nsIn K mainGlobals "Net" = some (some (.ref C)))
    (pg : PySem.W.plainGet K C Str.empty = true)
    (hd : PySem.W.hasDictIn K C = true)
    (po : PySem.W.plainOver K C = true)
    (sa : PySem.W.findIn K (.ref C) "__setattr__" = some (some (.builtin "object.__setattr__")))
    (mk : PySem.W.makesIn K C = true)
    (kc : PySem.W.keepIn K (.ref C) = true)
    (n_many : PySem.W.findIn K (.ref C) "many" = some none)
    (n_kept : PySem.W.findIn K (.ref C) "kept" = some none)
    (n_summed : PySem.W.findIn K (.ref C) "summed" = some none)
    (n_near : PySem.W.findIn K (.ref C) "near" = some none)
    (a_is_whole : PySem.W.nsIn K mainGlobals "is_whole" = some (some (.ref f_is_whole)))
    (l_is_whole : K.lookup f_is_whole = some ⟨oc_is_whole, od_is_whole, .func (PySem.W.fnOf "is_whole" "is_whole" (defArgs s_is_whole) (defBody s_is_whole) (defScope s_is_whole) .none kV_is_whole dc_is_whole pm_is_whole an_is_whole cd_is_whole ct_is_whole), sl_is_whole⟩)
    (c_is_whole : PySem.W.codeIn K cd_is_whole "is_whole" = true)
    (k_is_whole : PySem.W.keepIn K (.ref f_is_whole) = true)
    (a_has : PySem.W.findIn K (.ref C) "has" = some (some (.ref f_has)))
    (i_has : PySem.W.isFn K (.ref f_has) = true)
    (l_has : K.lookup f_has = some ⟨oc_has, od_has, .func (PySem.W.fnOf "has" "Net.has" (defArgs s_has) (defBody s_has) (defScope s_has) .none kV_has dc_has pm_has an_has cd_has ct_has), sl_has⟩)
    (c_has : PySem.W.codeIn K cd_has "Net.has" = true)
    (k_has : PySem.W.keepIn K (.ref f_has) = true)
    (a_cost : PySem.W.findIn K (.ref C) "cost" = some (some (.ref f_cost)))
    (i_cost : PySem.W.isFn K (.ref f_cost) = true)
    (l_cost : K.lookup f_cost = some ⟨oc_cost, od_cost, .func (PySem.W.fnOf "cost" "Net.cost" (defArgs s_cost) (defBody s_cost) (defScope s_cost) .none kV_cost dc_cost pm_cost an_cost cd_cost ct_cost), sl_cost⟩)
    (c_cost : PySem.W.codeIn K cd_cost "Net.cost" = true)
    (k_cost : PySem.W.keepIn K (.ref f_cost) = true)
    (a_init : PySem.W.findIn K (.ref C) "__init__" = some (some (.ref f_init)))
    (i_init : PySem.W.isFn K (.ref f_init) = true)
    (l_init : K.lookup f_init = some ⟨oc_init, od_init, .func (PySem.W.fnOf "__init__" "Net.__init__" (defArgs s_init) (defBody s_init) (defScope s_init) .none kV_init dc_init pm_init an_init cd_init ct_init), sl_init⟩)
    (c_init : PySem.W.codeIn K cd_init "Net.__init__" = true)
    (k_init : PySem.W.keepIn K (.ref f_init) = true)
    (a_ties : PySem.W.findIn K (.ref C) "ties" = some (some (.ref f_ties)))
    (i_ties : PySem.W.isFn K (.ref f_ties) = true)
    (l_ties : K.lookup f_ties = some ⟨oc_ties, od_ties, .func (PySem.W.fnOf "ties" "Net.ties" (defArgs s_ties) (defBody s_ties) (defScope s_ties) .none kV_ties dc_ties pm_ties an_ties cd_ties ct_ties), sl_ties⟩)
    (c_ties : PySem.W.codeIn K cd_ties "Net.ties" = true)
    (k_ties : PySem.W.keepIn K (.ref f_ties) = true)
    (a_number_of : PySem.W.nsIn K mainGlobals "number_of" = some (some (.ref f_number_of)))
    (l_number_of : K.lookup f_number_of = some ⟨oc_number_of, od_number_of, .func (PySem.W.fnOf "number_of" "number_of" (defArgs s_number_of) (defBody s_number_of) (defScope s_number_of) .none kV_number_of dc_number_of pm_number_of an_number_of cd_number_of ct_number_of), sl_number_of⟩)
    (c_number_of : PySem.W.codeIn K cd_number_of "number_of" = true)
    (k_number_of : PySem.W.keepIn K (.ref f_number_of) = true)
    (a_read : PySem.W.nsIn K mainGlobals "read" = some (some (.ref f_read)))
    (l_read : K.lookup f_read = some ⟨oc_read, od_read, .func (PySem.W.fnOf "read" "read" (defArgs s_read) (defBody s_read) (defScope s_read) .none kV_read dc_read pm_read an_read cd_read ct_read), sl_read⟩)
    (c_read : PySem.W.codeIn K cd_read "read" = true)
    (k_read : PySem.W.keepIn K (.ref f_read) = true)
    (a_l_cell_at : PySem.W.nsIn K mainGlobals "_law_cell_at" = some (some (.ref f_l_cell_at)))
    (l_l_cell_at : K.lookup f_l_cell_at = some ⟨oc_l_cell_at, od_l_cell_at, .func (PySem.W.fnOf "_law_cell_at" "_law_cell_at" (defArgs s_l_cell_at) (defBody s_l_cell_at) (defScope s_l_cell_at) .none kV_l_cell_at dc_l_cell_at pm_l_cell_at an_l_cell_at cd_l_cell_at ct_l_cell_at), sl_l_cell_at⟩)
    (c_l_cell_at : PySem.W.codeIn K cd_l_cell_at "_law_cell_at" = true)
    (k_l_cell_at : PySem.W.keepIn K (.ref f_l_cell_at) = true)
    (a_l_number : PySem.W.nsIn K mainGlobals "_law_number" = some (some (.ref f_l_number)))
    (l_l_number : K.lookup f_l_number = some ⟨oc_l_number, od_l_number, .func (PySem.W.fnOf "_law_number" "_law_number" (defArgs s_l_number) (defBody s_l_number) (defScope s_l_number) .none kV_l_number dc_l_number pm_l_number an_l_number cd_l_number ct_l_number), sl_l_number⟩)
    (c_l_number : PySem.W.codeIn K cd_l_number "_law_number" = true)
    (k_l_number : PySem.W.keepIn K (.ref f_l_number) = true)
    (a_l_due11 : PySem.W.nsIn K mainGlobals "_law_due" = some (some (.ref f_l_due11)))
    (l_l_due11 : K.lookup f_l_due11 = some ⟨oc_l_due11, od_l_due11, .func (PySem.W.fnOf "_law_due" "_law_due" (defArgs s_l_due11) (defBody s_l_due11) (defScope s_l_due11) .none kV_l_due11 dc_l_due11 pm_l_due11 an_l_due11 cd_l_due11 ct_l_due11), sl_l_due11⟩)
    (c_l_due11 : PySem.W.codeIn K cd_l_due11 "_law_due" = true)
    (k_l_due11 : PySem.W.keepIn K (.ref f_l_due11) = true)
    (a_l_refused : PySem.W.nsIn K mainGlobals "_law_refused" = some (some (.ref f_l_refused)))
    (l_l_refused : K.lookup f_l_refused = some ⟨oc_l_refused, od_l_refused, .func (PySem.W.fnOf "_law_refused" "_law_refused" (defArgs s_l_refused) (defBody s_l_refused) (defScope s_l_refused) .none kV_l_refused dc_l_refused pm_l_refused an_l_refused cd_l_refused ct_l_refused), sl_l_refused⟩)
    (c_l_refused : PySem.W.codeIn K cd_l_refused "_law_refused" = true)
    (k_l_refused : PySem.W.keepIn K (.ref f_l_refused) = true)
    (a_l_odd : PySem.W.nsIn K mainGlobals "_law_odd" = some (some (.ref f_l_odd)))
    (l_l_odd : K.lookup f_l_odd = some ⟨oc_l_odd, od_l_odd, .func (PySem.W.fnOf "_law_odd" "_law_odd" (defArgs s_l_odd) (defBody s_l_odd) (defScope s_l_odd) .none kV_l_odd dc_l_odd pm_l_odd an_l_odd cd_l_odd ct_l_odd), sl_l_odd⟩)
    (c_l_odd : PySem.W.codeIn K cd_l_odd "_law_odd" = true)
    (k_l_odd : PySem.W.keepIn K (.ref f_l_odd) = true)
    (a_l_signs : PySem.W.nsIn K mainGlobals "_law_signs" = some (some (.ref f_l_signs)))
    (l_l_signs : K.lookup f_l_signs = some ⟨oc_l_signs, od_l_signs, .func (PySem.W.fnOf "_law_signs" "_law_signs" (defArgs s_l_signs) (defBody s_l_signs) (defScope s_l_signs) .none kV_l_signs dc_l_signs pm_l_signs an_l_signs cd_l_signs ct_l_signs), sl_l_signs⟩)
    (c_l_signs : PySem.W.codeIn K cd_l_signs "_law_signs" = true)
    (k_l_signs : PySem.W.keepIn K (.ref f_l_signs) = true)
    (a_l_sign_by : PySem.W.nsIn K mainGlobals "_law_sign_by" = some (some (.ref f_l_sign_by)))
    (l_l_sign_by : K.lookup f_l_sign_by = some ⟨oc_l_sign_by, od_l_sign_by, .func (PySem.W.fnOf "_law_sign_by" "_law_sign_by" (defArgs s_l_sign_by) (defBody s_l_sign_by) (defScope s_l_sign_by) .none kV_l_sign_by dc_l_sign_by pm_l_sign_by an_l_sign_by cd_l_sign_by ct_l_sign_by), sl_l_sign_by⟩)
    (c_l_sign_by : PySem.W.codeIn K cd_l_sign_by "_law_sign_by" = true)
    (k_l_sign_by : PySem.W.keepIn K (.ref f_l_sign_by) = true)
    (a_l_no_blank : PySem.W.nsIn K mainGlobals "_law_no_blank" = some (some (.ref f_l_no_blank)))
    (l_l_no_blank : K.lookup f_l_no_blank = some ⟨oc_l_no_blank, od_l_no_blank, .func (PySem.W.fnOf "_law_no_blank" "_law_no_blank" (defArgs s_l_no_blank) (defBody s_l_no_blank) (defScope s_l_no_blank) .none kV_l_no_blank dc_l_no_blank pm_l_no_blank an_l_no_blank cd_l_no_blank ct_l_no_blank), sl_l_no_blank⟩)
    (c_l_no_blank : PySem.W.codeIn K cd_l_no_blank "_law_no_blank" = true)
    (k_l_no_blank : PySem.W.keepIn K (.ref f_l_no_blank) = true)
    (a_l_good : PySem.W.nsIn K mainGlobals "_law_good" = some (some (.ref f_l_good)))
    (l_l_good : K.lookup f_l_good = some ⟨oc_l_good, od_l_good, .func (PySem.W.fnOf "_law_good" "_law_good" (defArgs s_l_good) (defBody s_l_good) (defScope s_l_good) .none kV_l_good dc_l_good pm_l_good an_l_good cd_l_good ct_l_good), sl_l_good⟩)
    (c_l_good : PySem.W.codeIn K cd_l_good "_law_good" = true)
    (k_l_good : PySem.W.keepIn K (.ref f_l_good) = true)
    (a_law : PySem.W.nsIn K mainGlobals "law" = some (some (.ref f_law)))
    (l_law : K.lookup f_law = some ⟨oc_law, od_law, .func (PySem.W.fnOf "law" "law" (defArgs s_law) (defBody s_law) (defScope s_law) .none kV_law dc_law pm_law an_law cd_law ct_law), sl_law⟩)
    (c_law : PySem.W.codeIn K cd_law "law" = true)
    (k_law : PySem.W.keepIn K (.ref f_law) = true)
    (z_ValueError : PySem.W.nsIn K mainGlobals "ValueError" = some none)
    (z_bool : PySem.W.nsIn K mainGlobals "bool" = some none)
    (z_enumerate : PySem.W.nsIn K mainGlobals "enumerate" = some none)
    (z_int : PySem.W.nsIn K mainGlobals "int" = some none)
    (z_isinstance : PySem.W.nsIn K mainGlobals "isinstance" = some none)
    (z_len : PySem.W.nsIn K mainGlobals "len" = some none)
    (z_list : PySem.W.nsIn K mainGlobals "list" = some none)
    (z_max : PySem.W.nsIn K mainGlobals "max" = some none)
    (z_min : PySem.W.nsIn K mainGlobals "min" = some none)
    (z_range : PySem.W.nsIn K mainGlobals "range" = some none)
    (z_str : PySem.W.nsIn K mainGlobals "str" = some none)
    (z_tuple : PySem.W.nsIn K mainGlobals "tuple" = some none)
    (v_MOST_PLACES : PySem.W.nsIn K mainGlobals "MOST_PLACES" = some (some (.int 24 t_MOST_PLACES)))
    (v_MOST_TIES : PySem.W.nsIn K mainGlobals "MOST_TIES" = some (some (.int 300 t_MOST_TIES)))
    (v_MOST_PRICE : PySem.W.nsIn K mainGlobals "MOST_PRICE" = some (some (.int 1000000000 t_MOST_PRICE)))
    (v_FIGURES : PySem.W.nsIn K mainGlobals "FIGURES" = some (some (.str "0123456789" t_FIGURES)))
    (xg_WallError : PySem.W.nsIn K mainGlobals "WallError" = some (some (.ref e_WallError)))
    (xq_WallError : PySem.W.excIn K e_WallError [.type "ValueError", .type "Exception", .type "BaseException", .type "object"] "ValueError.__new__" = true)
    (xk_WallError : PySem.W.keepIn K (.ref e_WallError) = true)
    (xb_WallError : PySem.W.subIn K (.ref e_WallError) (.type "BaseException") = some true)
    (xt_WallError : PySem.W.typeIn K (.ref e_WallError) = some (.type "type"))
    (xg_NoNet : PySem.W.nsIn K mainGlobals "NoNet" = some (some (.ref e_NoNet)))
    (xq_NoNet : PySem.W.excIn K e_NoNet [.type "ValueError", .type "Exception", .type "BaseException", .type "object"] "ValueError.__new__" = true)
    (xk_NoNet : PySem.W.keepIn K (.ref e_NoNet) = true)
    (xb_NoNet : PySem.W.subIn K (.ref e_NoNet) (.type "BaseException") = some true)
    (xt_NoNet : PySem.W.typeIn K (.ref e_NoNet) = some (.type "type"))
    (xg_NoPlace : PySem.W.nsIn K mainGlobals "NoPlace" = some (some (.ref e_NoPlace)))
    (xq_NoPlace : PySem.W.excIn K e_NoPlace [.type "ValueError", .type "Exception", .type "BaseException", .type "object"] "ValueError.__new__" = true)
    (xk_NoPlace : PySem.W.keepIn K (.ref e_NoPlace) = true)
    (xb_NoPlace : PySem.W.subIn K (.ref e_NoPlace) (.type "BaseException") = some true)
    (xt_NoPlace : PySem.W.typeIn K (.ref e_NoPlace) = some (.type "type"))
    (xg_NoSide : PySem.W.nsIn K mainGlobals "NoSide" = some (some (.ref e_NoSide)))
    (xq_NoSide : PySem.W.excIn K e_NoSide [.type "ValueError", .type "Exception", .type "BaseException", .type "object"] "ValueError.__new__" = true)
    (xk_NoSide : PySem.W.keepIn K (.ref e_NoSide) = true)
    (xb_NoSide : PySem.W.subIn K (.ref e_NoSide) (.type "BaseException") = some true)
    (xt_NoSide : PySem.W.typeIn K (.ref e_NoSide) = some (.type "type"))
    (xg_NoText : PySem.W.nsIn K mainGlobals "NoText" = some (some (.ref e_NoText)))
    (xq_NoText : PySem.W.excIn K e_NoText [.type "ValueError", .type "Exception", .type "BaseException", .type "object"] "ValueError.__new__" = true)
    (xk_NoText : PySem.W.keepIn K (.ref e_NoText) = true)
    (xb_NoText : PySem.W.subIn K (.ref e_NoText) (.type "BaseException") = some true)
    (xt_NoText : PySem.W.typeIn K (.ref e_NoText) = some (.type "type"))
    (en : PySem.W.specialIn K (.builtin "object.__class__") "__get__" = some (some (.builtin "getset_descriptor.__get__")))
    (eh : PySem.W.takesIn K (.builtin "object.__class__") = some true)
    (eiW : PySem.W.isClsIn K e_WallError = true)
    (esW : PySem.W.subIn K (.ref e_WallError) (.ref e_WallError) = some true)
    (eg_NoNet : PySem.W.findIn K (.ref e_NoNet) "__getattribute__" = some (some (.builtin "BaseException.__getattribute__")))
    (ek_NoNet : PySem.W.findIn K (.ref e_NoNet) "__getattr__" = some none)
    (ed_NoNet : PySem.W.hasDictIn K e_NoNet = true)
    (ea_NoNet : PySem.W.findIn K (.ref e_NoNet) "__class__" = some (some (.builtin "object.__class__")))
    (em_NoNet : PySem.W.mroIn K e_NoNet (.type "object") = some true)
    (ei_NoNet : PySem.W.isClsIn K e_NoNet = true)
    (ew_NoNet : PySem.W.subIn K (.ref e_NoNet) (.ref e_WallError) = some true)
    (ev_NoNet : PySem.W.subIn K (.ref e_NoNet) (.type "ValueError") = some true)
    (es_NoNet_NoNet : PySem.W.subIn K (.ref e_NoNet) (.ref e_NoNet) = some true)
    (es_NoNet_NoPlace : PySem.W.subIn K (.ref e_NoNet) (.ref e_NoPlace) = some false)
    (es_NoNet_NoSide : PySem.W.subIn K (.ref e_NoNet) (.ref e_NoSide) = some false)
    (es_NoNet_NoText : PySem.W.subIn K (.ref e_NoNet) (.ref e_NoText) = some false)
    (eg_NoPlace : PySem.W.findIn K (.ref e_NoPlace) "__getattribute__" = some (some (.builtin "BaseException.__getattribute__")))
    (ek_NoPlace : PySem.W.findIn K (.ref e_NoPlace) "__getattr__" = some none)
    (ed_NoPlace : PySem.W.hasDictIn K e_NoPlace = true)
    (ea_NoPlace : PySem.W.findIn K (.ref e_NoPlace) "__class__" = some (some (.builtin "object.__class__")))
    (em_NoPlace : PySem.W.mroIn K e_NoPlace (.type "object") = some true)
    (ei_NoPlace : PySem.W.isClsIn K e_NoPlace = true)
    (ew_NoPlace : PySem.W.subIn K (.ref e_NoPlace) (.ref e_WallError) = some true)
    (ev_NoPlace : PySem.W.subIn K (.ref e_NoPlace) (.type "ValueError") = some true)
    (es_NoPlace_NoNet : PySem.W.subIn K (.ref e_NoPlace) (.ref e_NoNet) = some false)
    (es_NoPlace_NoPlace : PySem.W.subIn K (.ref e_NoPlace) (.ref e_NoPlace) = some true)
    (es_NoPlace_NoSide : PySem.W.subIn K (.ref e_NoPlace) (.ref e_NoSide) = some false)
    (es_NoPlace_NoText : PySem.W.subIn K (.ref e_NoPlace) (.ref e_NoText) = some false)
    (eg_NoSide : PySem.W.findIn K (.ref e_NoSide) "__getattribute__" = some (some (.builtin "BaseException.__getattribute__")))
    (ek_NoSide : PySem.W.findIn K (.ref e_NoSide) "__getattr__" = some none)
    (ed_NoSide : PySem.W.hasDictIn K e_NoSide = true)
    (ea_NoSide : PySem.W.findIn K (.ref e_NoSide) "__class__" = some (some (.builtin "object.__class__")))
    (em_NoSide : PySem.W.mroIn K e_NoSide (.type "object") = some true)
    (ei_NoSide : PySem.W.isClsIn K e_NoSide = true)
    (ew_NoSide : PySem.W.subIn K (.ref e_NoSide) (.ref e_WallError) = some true)
    (ev_NoSide : PySem.W.subIn K (.ref e_NoSide) (.type "ValueError") = some true)
    (es_NoSide_NoNet : PySem.W.subIn K (.ref e_NoSide) (.ref e_NoNet) = some false)
    (es_NoSide_NoPlace : PySem.W.subIn K (.ref e_NoSide) (.ref e_NoPlace) = some false)
    (es_NoSide_NoSide : PySem.W.subIn K (.ref e_NoSide) (.ref e_NoSide) = some true)
    (es_NoSide_NoText : PySem.W.subIn K (.ref e_NoSide) (.ref e_NoText) = some false)
    (eg_NoText : PySem.W.findIn K (.ref e_NoText) "__getattribute__" = some (some (.builtin "BaseException.__getattribute__")))
    (ek_NoText : PySem.W.findIn K (.ref e_NoText) "__getattr__" = some none)
    (ed_NoText : PySem.W.hasDictIn K e_NoText = true)
    (ea_NoText : PySem.W.findIn K (.ref e_NoText) "__class__" = some (some (.builtin "object.__class__")))
    (em_NoText : PySem.W.mroIn K e_NoText (.type "object") = some true)
    (ei_NoText : PySem.W.isClsIn K e_NoText = true)
    (ew_NoText : PySem.W.subIn K (.ref e_NoText) (.ref e_WallError) = some true)
    (ev_NoText : PySem.W.subIn K (.ref e_NoText) (.type "ValueError") = some true)
    (es_NoText_NoNet : PySem.W.subIn K (.ref e_NoText) (.ref e_NoNet) = some false)
    (es_NoText_NoPlace : PySem.W.subIn K (.ref e_NoText) (.ref e_NoPlace) = some false)
    (es_NoText_NoSide : PySem.W.subIn K (.ref e_NoText) (.ref e_NoSide) = some false)
    (es_NoText_NoText : PySem.W.subIn K (.ref e_NoText) (.ref e_NoText) = some true)
    : ∃ fd : FuncData, (∀ (s : Shared) (v : Value), BindsTo s fd ⟨[v], []⟩ [("_law_script", v)]) ∧ ∀ base : Heap, K.In base → base.Ns mainGlobals mg → FnOk l.prog w K mg base CX0 8 fa fd ["_law_script"] (spLaw K) := by
  have e := hfa.symm.trans (PySem.W.mg_of X G a_law)
  cases e
  let A : Ads := ⟨C, e_WallError, e_NoNet, e_NoPlace, e_NoSide, e_NoText⟩
  have F_is_whole := fun_mk (st := s_is_whole) l_is_whole c_is_whole k_is_whole
  have B_is_whole := F_is_whole.binds (ps := ["thing"]) fun _ _ _ _ _ _ us hl => match us, hl with | [_], _ => rfl
  have F_has := fun_mk (st := s_has) l_has c_has k_has
  have B_has := F_has.binds (ps := ["self", "place"]) fun _ _ _ _ _ _ us hl => match us, hl with | [_, _], _ => rfl
  have F_cost := fun_mk (st := s_cost) l_cost c_cost k_cost
  have B_cost := F_cost.binds (ps := ["self", "one", "other"]) fun _ _ _ _ _ _ us hl => match us, hl with | [_, _, _], _ => rfl
  have F_init := fun_mk (st := s_init) l_init c_init k_init
  have B_init := F_init.binds (ps := ["self", "many", "ties"]) fun _ _ _ _ _ _ us hl => match us, hl with | [_, _, _], _ => rfl
  have F_ties := fun_mk (st := s_ties) l_ties c_ties k_ties
  have B_ties := F_ties.binds (ps := ["self"]) fun _ _ _ _ _ _ us hl => match us, hl with | [_], _ => rfl
  have F_number_of := fun_mk (st := s_number_of) l_number_of c_number_of k_number_of
  have B_number_of := F_number_of.binds (ps := ["word"]) fun _ _ _ _ _ _ us hl => match us, hl with | [_], _ => rfl
  have F_read := fun_mk (st := s_read) l_read c_read k_read
  have B_read := F_read.binds (ps := ["text"]) fun _ _ _ _ _ _ us hl => match us, hl with | [_], _ => rfl
  have F_l_cell_at := fun_mk (st := s_l_cell_at) l_l_cell_at c_l_cell_at k_l_cell_at
  have B_l_cell_at := F_l_cell_at.binds (ps := ["_law_script", "_law_k"]) fun _ _ _ _ _ _ us hl => match us, hl with | [_, _], _ => rfl
  have F_l_number := fun_mk (st := s_l_number) l_l_number c_l_number k_l_number
  have B_l_number := F_l_number.binds (ps := ["_law_word"]) fun _ _ _ _ _ _ us hl => match us, hl with | [_], _ => rfl
  have F_l_due11 := fun_mk (st := s_l_due11) l_l_due11 c_l_due11 k_l_due11
  have B_l_due11 := F_l_due11.binds (ps := ["_law_text"]) fun _ _ _ _ _ _ us hl => match us, hl with | [_], _ => rfl
  have F_l_refused := fun_mk (st := s_l_refused) l_l_refused c_l_refused k_l_refused
  have B_l_refused := F_l_refused.binds (ps := ["_law_text"]) fun _ _ _ _ _ _ us hl => match us, hl with | [_], _ => rfl
  have F_l_odd := fun_mk (st := s_l_odd) l_l_odd c_l_odd k_l_odd
  have B_l_odd := F_l_odd.binds (ps := ["_law_cell"]) fun _ _ _ _ _ _ us hl => match us, hl with | [_], _ => rfl
  have F_l_signs := fun_mk (st := s_l_signs) l_l_signs c_l_signs k_l_signs
  have B_l_signs := F_l_signs.binds (ps := []) fun _ _ _ _ _ _ us hl => match us, hl with | [], _ => rfl
  have F_l_sign_by := fun_mk (st := s_l_sign_by) l_l_sign_by c_l_sign_by k_l_sign_by
  have B_l_sign_by := F_l_sign_by.binds (ps := ["_law_cell"]) fun _ _ _ _ _ _ us hl => match us, hl with | [_], _ => rfl
  have F_l_no_blank := fun_mk (st := s_l_no_blank) l_l_no_blank c_l_no_blank k_l_no_blank
  have B_l_no_blank := F_l_no_blank.binds (ps := ["_law_at"]) fun _ _ _ _ _ _ us hl => match us, hl with | [_], _ => rfl
  have F_l_good := fun_mk (st := s_l_good) l_l_good c_l_good k_l_good
  have B_l_good := F_l_good.binds (ps := ["_law_script", "_law_many"]) fun _ _ _ _ _ _ us hl => match us, hl with | [_, _], _ => rfl
  have F_law := fun_mk (st := s_law) l_law c_law k_law
  have B_law := F_law.binds (ps := ["_law_script"]) fun _ _ _ _ _ _ us hl => match us, hl with | [_], _ => rfl
  let F : Fs := ⟨f_is_whole, PySem.W.fnOf "is_whole" "is_whole" (defArgs s_is_whole) (defBody s_is_whole) (defScope s_is_whole) .none kV_is_whole dc_is_whole pm_is_whole an_is_whole cd_is_whole ct_is_whole,
    f_has, PySem.W.fnOf "has" "Net.has" (defArgs s_has) (defBody s_has) (defScope s_has) .none kV_has dc_has pm_has an_has cd_has ct_has,
    f_cost, PySem.W.fnOf "cost" "Net.cost" (defArgs s_cost) (defBody s_cost) (defScope s_cost) .none kV_cost dc_cost pm_cost an_cost cd_cost ct_cost,
    f_init, PySem.W.fnOf "__init__" "Net.__init__" (defArgs s_init) (defBody s_init) (defScope s_init) .none kV_init dc_init pm_init an_init cd_init ct_init,
    f_ties, PySem.W.fnOf "ties" "Net.ties" (defArgs s_ties) (defBody s_ties) (defScope s_ties) .none kV_ties dc_ties pm_ties an_ties cd_ties ct_ties,
    f_number_of, PySem.W.fnOf "number_of" "number_of" (defArgs s_number_of) (defBody s_number_of) (defScope s_number_of) .none kV_number_of dc_number_of pm_number_of an_number_of cd_number_of ct_number_of,
    f_read, PySem.W.fnOf "read" "read" (defArgs s_read) (defBody s_read) (defScope s_read) .none kV_read dc_read pm_read an_read cd_read ct_read,
    f_l_cell_at, PySem.W.fnOf "_law_cell_at" "_law_cell_at" (defArgs s_l_cell_at) (defBody s_l_cell_at) (defScope s_l_cell_at) .none kV_l_cell_at dc_l_cell_at pm_l_cell_at an_l_cell_at cd_l_cell_at ct_l_cell_at,
    f_l_number, PySem.W.fnOf "_law_number" "_law_number" (defArgs s_l_number) (defBody s_l_number) (defScope s_l_number) .none kV_l_number dc_l_number pm_l_number an_l_number cd_l_number ct_l_number,
    f_l_due11, PySem.W.fnOf "_law_due" "_law_due" (defArgs s_l_due11) (defBody s_l_due11) (defScope s_l_due11) .none kV_l_due11 dc_l_due11 pm_l_due11 an_l_due11 cd_l_due11 ct_l_due11,
    f_l_refused, PySem.W.fnOf "_law_refused" "_law_refused" (defArgs s_l_refused) (defBody s_l_refused) (defScope s_l_refused) .none kV_l_refused dc_l_refused pm_l_refused an_l_refused cd_l_refused ct_l_refused,
    f_l_odd, PySem.W.fnOf "_law_odd" "_law_odd" (defArgs s_l_odd) (defBody s_l_odd) (defScope s_l_odd) .none kV_l_odd dc_l_odd pm_l_odd an_l_odd cd_l_odd ct_l_odd,
    f_l_signs, PySem.W.fnOf "_law_signs" "_law_signs" (defArgs s_l_signs) (defBody s_l_signs) (defScope s_l_signs) .none kV_l_signs dc_l_signs pm_l_signs an_l_signs cd_l_signs ct_l_signs,
    f_l_sign_by, PySem.W.fnOf "_law_sign_by" "_law_sign_by" (defArgs s_l_sign_by) (defBody s_l_sign_by) (defScope s_l_sign_by) .none kV_l_sign_by dc_l_sign_by pm_l_sign_by an_l_sign_by cd_l_sign_by ct_l_sign_by,
    f_l_no_blank, PySem.W.fnOf "_law_no_blank" "_law_no_blank" (defArgs s_l_no_blank) (defBody s_l_no_blank) (defScope s_l_no_blank) .none kV_l_no_blank dc_l_no_blank pm_l_no_blank an_l_no_blank cd_l_no_blank ct_l_no_blank,
    f_l_good, PySem.W.fnOf "_law_good" "_law_good" (defArgs s_l_good) (defBody s_l_good) (defScope s_l_good) .none kV_l_good dc_l_good pm_l_good an_l_good cd_l_good ct_l_good,
    fa, PySem.W.fnOf "law" "law" (defArgs s_law) (defBody s_law) (defScope s_law) .none kV_law dc_law pm_law an_law cd_law ct_law⟩
  have T : Txt K mg A F := ⟨⟨fun x => match x with | .net => ⟨eg_NoNet, ek_NoNet, xb_NoNet, ed_NoNet, ea_NoNet, en, eh, em_NoNet⟩ | .place => ⟨eg_NoPlace, ek_NoPlace, xb_NoPlace, ed_NoPlace, ea_NoPlace, en, eh, em_NoPlace⟩ | .side => ⟨eg_NoSide, ek_NoSide, xb_NoSide, ed_NoSide, ea_NoSide, en, eh, em_NoSide⟩ | .text => ⟨eg_NoText, ek_NoText, xb_NoText, ed_NoText, ea_NoText, en, eh, em_NoText⟩,
    fun x => match x with | .net => exm_own xb_NoNet ei_NoNet xt_NoNet es_NoNet_NoNet | .place => exm_own xb_NoPlace ei_NoPlace xt_NoPlace es_NoPlace_NoPlace | .side => exm_own xb_NoSide ei_NoSide xt_NoSide es_NoSide_NoSide | .text => exm_own xb_NoText ei_NoText xt_NoText es_NoText_NoText,
    fun x y => match x, y with | .net, .net => kit_ref ei_NoNet xt_NoNet es_NoNet_NoNet es_NoNet_NoNet | .net, .place => kit_ref ei_NoPlace xt_NoPlace es_NoNet_NoPlace es_NoPlace_NoPlace | .net, .side => kit_ref ei_NoSide xt_NoSide es_NoNet_NoSide es_NoSide_NoSide | .net, .text => kit_ref ei_NoText xt_NoText es_NoNet_NoText es_NoText_NoText | .place, .net => kit_ref ei_NoNet xt_NoNet es_NoPlace_NoNet es_NoNet_NoNet | .place, .place => kit_ref ei_NoPlace xt_NoPlace es_NoPlace_NoPlace es_NoPlace_NoPlace | .place, .side => kit_ref ei_NoSide xt_NoSide es_NoPlace_NoSide es_NoSide_NoSide | .place, .text => kit_ref ei_NoText xt_NoText es_NoPlace_NoText es_NoText_NoText | .side, .net => kit_ref ei_NoNet xt_NoNet es_NoSide_NoNet es_NoNet_NoNet | .side, .place => kit_ref ei_NoPlace xt_NoPlace es_NoSide_NoPlace es_NoPlace_NoPlace | .side, .side => kit_ref ei_NoSide xt_NoSide es_NoSide_NoSide es_NoSide_NoSide | .side, .text => kit_ref ei_NoText xt_NoText es_NoSide_NoText es_NoText_NoText | .text, .net => kit_ref ei_NoNet xt_NoNet es_NoText_NoNet es_NoNet_NoNet | .text, .place => kit_ref ei_NoPlace xt_NoPlace es_NoText_NoPlace es_NoPlace_NoPlace | .text, .side => kit_ref ei_NoSide xt_NoSide es_NoText_NoSide es_NoSide_NoSide | .text, .text => kit_ref ei_NoText xt_NoText es_NoText_NoText es_NoText_NoText,
    fun x => match x with | .net => kit_ref eiW xt_WallError ew_NoNet esW | .place => kit_ref eiW xt_WallError ew_NoPlace esW | .side => kit_ref eiW xt_WallError ew_NoSide esW | .text => kit_ref eiW xt_WallError ew_NoText esW,
    fun x => match x with | .net => kit_val ev_NoNet | .place => kit_val ev_NoPlace | .side => kit_val ev_NoSide | .text => kit_val ev_NoText⟩,
    ⟨⟨pg, hd, po, sa⟩, n_many, n_kept, n_summed, n_near⟩, PySem.W.mg_of X G aC, ⟨mk, a_init, i_init, kc⟩,
    F_is_whole, B_is_whole,
    PySem.W.mg_of X G a_is_whole,
    F_has, B_has,
    ⟨a_has, i_has, k_has⟩,
    F_cost, B_cost,
    ⟨a_cost, i_cost, k_cost⟩,
    F_init, B_init,
    F_ties, B_ties,
    ⟨a_ties, i_ties, k_ties⟩,
    F_number_of, B_number_of,
    PySem.W.mg_of X G a_number_of,
    F_read, B_read,
    PySem.W.mg_of X G a_read,
    F_l_cell_at, B_l_cell_at,
    PySem.W.mg_of X G a_l_cell_at,
    F_l_number, B_l_number,
    PySem.W.mg_of X G a_l_number,
    F_l_due11, B_l_due11,
    PySem.W.mg_of X G a_l_due11,
    F_l_refused, B_l_refused,
    PySem.W.mg_of X G a_l_refused,
    F_l_odd, B_l_odd,
    PySem.W.mg_of X G a_l_odd,
    F_l_signs, B_l_signs,
    PySem.W.mg_of X G a_l_signs,
    F_l_sign_by, B_l_sign_by,
    PySem.W.mg_of X G a_l_sign_by,
    F_l_no_blank, B_l_no_blank,
    PySem.W.mg_of X G a_l_no_blank,
    F_l_good, B_l_good,
    PySem.W.mg_of X G a_l_good,
    F_law, B_law,
    PySem.W.mg_of X G a_law,
    PySem.W.mg_none_of X G z_ValueError,
    PySem.W.mg_none_of X G z_bool,
    PySem.W.mg_none_of X G z_enumerate,
    PySem.W.mg_none_of X G z_int,
    PySem.W.mg_none_of X G z_isinstance,
    PySem.W.mg_none_of X G z_len,
    PySem.W.mg_none_of X G z_list,
    PySem.W.mg_none_of X G z_max,
    PySem.W.mg_none_of X G z_min,
    PySem.W.mg_none_of X G z_range,
    PySem.W.mg_none_of X G z_str,
    PySem.W.mg_none_of X G z_tuple,
    ⟨_, PySem.W.mg_of X G v_MOST_PLACES⟩,
    ⟨_, PySem.W.mg_of X G v_MOST_TIES⟩,
    ⟨_, PySem.W.mg_of X G v_MOST_PRICE⟩,
    ⟨_, PySem.W.mg_of X G v_FIGURES⟩,
    ⟨PySem.W.mg_of X G xg_WallError, xq_WallError, xk_WallError, xb_WallError, xt_WallError⟩,
    ⟨PySem.W.mg_of X G xg_NoNet, xq_NoNet, xk_NoNet, xb_NoNet, xt_NoNet⟩,
    ⟨PySem.W.mg_of X G xg_NoPlace, xq_NoPlace, xk_NoPlace, xb_NoPlace, xt_NoPlace⟩,
    ⟨PySem.W.mg_of X G xg_NoSide, xq_NoSide, xk_NoSide, xb_NoSide, xt_NoSide⟩,
    ⟨PySem.W.mg_of X G xg_NoText, xq_NoText, xk_NoText, xb_NoText, xt_NoText⟩⟩
  exact ⟨F.d_law, fun s v => .of_eq rfl, fun base _ _ => ok_law T⟩
theorem walk {l : PySem.W.OpenLaw} {q : Program} {loose : List Str} {XP : (Str → Option Value) → Heap → Prop} {YP : World → Heap → Prop} {d : DefRec} {K : Params → PySem.W.Frag} (hn : l.most = some 63) (hdf : d.params.defaults = [])
    (hY : ∀ (w : World) (h : Heap), YP w h → (K w.params).In h)
    (F : ∀ (w : World) (mg : Str → Option Value) (fa : Addr) (h : Heap), (K w.params).In h → h.Ns mainGlobals mg → mg d.name = some (.ref fa) →
      ∃ fd : FuncData, (∀ (s : Shared) (u : Value), BindsTo s fd ⟨[u], []⟩ [("_law_script", u)]) ∧ ∀ base : Heap, (K w.params).In base → base.Ns mainGlobals mg → FnOk l.prog w (K w.params) mg base CX0 8 fa fd ["_law_script"] (spLaw (K w.params))) :
    PySem.W.WalkO q loose XP YP l.row.toRowW d [] (fun f vs => PySem.call f vs) :=
  L2.walk_of (n := 63) (k := 8) (x := "_law_script") (CX := fun _ => CX0) (sp := fun w => spLaw (K w.params)) hn (by decide) hdf ⟨rfl, by decide, by decide⟩ hY F (fun _ _ a ns hl _ hS => ⟨a, ns, rfl, hS, hl, fun _ => rfl⟩) fun _ _ _ _ _ z => z

end OW

open PySem PySem.W PyProof.Rows in
set_option maxRecDepth 100000 in
set_option maxHeartbeats 0 in
theorem PySem.Challenge.cw_onewalls_k11_texts_refused_holds : PySem.Challenge.rw_onewalls_k11_texts_refused.Holds := by
  w_on; o_law; k_head; (case hw => w_witness2)
  k_fill
  refine OW.walk (l := PySem.Challenge.rw_onewalls_k11_texts_refused) rfl rfl (fun w h Y => PySem.W.kIn_of Y) ?F
  case F =>
    intro w mg fa h KX G hmg
    refine' OW.all_mk KX G hmg ?aC ?pg ?hd ?po ?sa ?mk ?kc ?n_many ?n_kept ?n_summed ?n_near ?a_is_whole ?l_is_whole ?c_is_whole ?k_is_whole ?a_has ?i_has ?l_has ?c_has ?k_has ?a_cost ?i_cost ?l_cost ?c_cost ?k_cost ?a_init ?i_init ?l_init ?c_init ?k_init ?a_ties ?i_ties ?l_ties ?c_ties ?k_ties ?a_number_of ?l_number_of ?c_number_of ?k_number_of ?a_read ?l_read ?c_read ?k_read ?a_l_cell_at ?l_l_cell_at ?c_l_cell_at ?k_l_cell_at ?a_l_number ?l_l_number ?c_l_number ?k_l_number ?a_l_due11 ?l_l_due11 ?c_l_due11 ?k_l_due11 ?a_l_refused ?l_l_refused ?c_l_refused ?k_l_refused ?a_l_odd ?l_l_odd ?c_l_odd ?k_l_odd ?a_l_signs ?l_l_signs ?c_l_signs ?k_l_signs ?a_l_sign_by ?l_l_sign_by ?c_l_sign_by ?k_l_sign_by ?a_l_no_blank ?l_l_no_blank ?c_l_no_blank ?k_l_no_blank ?a_l_good ?l_l_good ?c_l_good ?k_l_good ?a_law ?l_law ?c_law ?k_law ?z_ValueError ?z_bool ?z_enumerate ?z_int ?z_isinstance ?z_len ?z_list ?z_max ?z_min ?z_range ?z_str ?z_tuple ?v_MOST_PLACES ?v_MOST_TIES ?v_MOST_PRICE ?v_FIGURES ?xg_WallError ?xq_WallError ?xk_WallError ?xb_WallError ?xt_WallError ?xg_NoNet ?xq_NoNet ?xk_NoNet ?xb_NoNet ?xt_NoNet ?xg_NoPlace ?xq_NoPlace ?xk_NoPlace ?xb_NoPlace ?xt_NoPlace ?xg_NoSide ?xq_NoSide ?xk_NoSide ?xb_NoSide ?xt_NoSide ?xg_NoText ?xq_NoText ?xk_NoText ?xb_NoText ?xt_NoText ?en ?eh ?eiW ?esW ?eg_NoNet ?ek_NoNet ?ed_NoNet ?ea_NoNet ?em_NoNet ?ei_NoNet ?ew_NoNet ?ev_NoNet ?es_NoNet_NoNet ?es_NoNet_NoPlace ?es_NoNet_NoSide ?es_NoNet_NoText ?eg_NoPlace ?ek_NoPlace ?ed_NoPlace ?ea_NoPlace ?em_NoPlace ?ei_NoPlace ?ew_NoPlace ?ev_NoPlace ?es_NoPlace_NoNet ?es_NoPlace_NoPlace ?es_NoPlace_NoSide ?es_NoPlace_NoText ?eg_NoSide ?ek_NoSide ?ed_NoSide ?ea_NoSide ?em_NoSide ?ei_NoSide ?ew_NoSide ?ev_NoSide ?es_NoSide_NoNet ?es_NoSide_NoPlace ?es_NoSide_NoSide ?es_NoSide_NoText ?eg_NoText ?ek_NoText ?ed_NoText ?ea_NoText ?em_NoText ?ei_NoText ?ew_NoText ?ev_NoText ?es_NoText_NoNet ?es_NoText_NoPlace ?es_NoText_NoSide ?es_NoText_NoText
    (case aC => k_is)
    (case pg => k_is)
    (case hd => k_is)
    (case po => k_is)
    (case sa => k_is)
    (case mk => k_is)
    (case kc => k_is)
    (case n_many => k_is)
    (case n_kept => k_is)
    (case n_summed => k_is)
    (case n_near => k_is)
    (case a_is_whole => k_is)
    (case l_is_whole => k_is)
    (case c_is_whole => k_is)
    (case k_is_whole => k_is)
    (case a_has => k_is)
    (case i_has => k_is)
    (case l_has => k_is)
    (case c_has => k_is)
    (case k_has => k_is)
    (case a_cost => k_is)
    (case i_cost => k_is)
    (case l_cost => k_is)
    (case c_cost => k_is)
    (case k_cost => k_is)
    (case a_init => k_is)
    (case i_init => k_is)
    (case l_init => k_is)
    (case c_init => k_is)
    (case k_init => k_is)
    (case a_ties => k_is)
    (case i_ties => k_is)
    (case l_ties => k_is)
    (case c_ties => k_is)
    (case k_ties => k_is)
    (case a_number_of => k_is)
    (case l_number_of => k_is)
    (case c_number_of => k_is)
    (case k_number_of => k_is)
    (case a_read => k_is)
    (case l_read => k_is)
    (case c_read => k_is)
    (case k_read => k_is)
    (case a_l_cell_at => k_is)
    (case l_l_cell_at => k_is)
    (case c_l_cell_at => k_is)
    (case k_l_cell_at => k_is)
    (case a_l_number => k_is)
    (case l_l_number => k_is)
    (case c_l_number => k_is)
    (case k_l_number => k_is)
    (case a_l_due11 => k_is)
    (case l_l_due11 => k_is)
    (case c_l_due11 => k_is)
    (case k_l_due11 => k_is)
    (case a_l_refused => k_is)
    (case l_l_refused => k_is)
    (case c_l_refused => k_is)
    (case k_l_refused => k_is)
    (case a_l_odd => k_is)
    (case l_l_odd => k_is)
    (case c_l_odd => k_is)
    (case k_l_odd => k_is)
    (case a_l_signs => k_is)
    (case l_l_signs => k_is)
    (case c_l_signs => k_is)
    (case k_l_signs => k_is)
    (case a_l_sign_by => k_is)
    (case l_l_sign_by => k_is)
    (case c_l_sign_by => k_is)
    (case k_l_sign_by => k_is)
    (case a_l_no_blank => k_is)
    (case l_l_no_blank => k_is)
    (case c_l_no_blank => k_is)
    (case k_l_no_blank => k_is)
    (case a_l_good => k_is)
    (case l_l_good => k_is)
    (case c_l_good => k_is)
    (case k_l_good => k_is)
    (case a_law => k_is)
    (case l_law => k_is)
    (case c_law => k_is)
    (case k_law => k_is)
    (case z_ValueError => k_is)
    (case z_bool => k_is)
    (case z_enumerate => k_is)
    (case z_int => k_is)
    (case z_isinstance => k_is)
    (case z_len => k_is)
    (case z_list => k_is)
    (case z_max => k_is)
    (case z_min => k_is)
    (case z_range => k_is)
    (case z_str => k_is)
    (case z_tuple => k_is)
    (case v_MOST_PLACES => k_is)
    (case v_MOST_TIES => k_is)
    (case v_MOST_PRICE => k_is)
    (case v_FIGURES => k_is)
    (case xg_WallError => k_is)
    (case xq_WallError => k_exc)
    (case xk_WallError => k_is)
    (case xb_WallError => k_is)
    (case xt_WallError => k_is)
    (case xg_NoNet => k_is)
    (case xq_NoNet => k_exc)
    (case xk_NoNet => k_is)
    (case xb_NoNet => k_is)
    (case xt_NoNet => k_is)
    (case xg_NoPlace => k_is)
    (case xq_NoPlace => k_exc)
    (case xk_NoPlace => k_is)
    (case xb_NoPlace => k_is)
    (case xt_NoPlace => k_is)
    (case xg_NoSide => k_is)
    (case xq_NoSide => k_exc)
    (case xk_NoSide => k_is)
    (case xb_NoSide => k_is)
    (case xt_NoSide => k_is)
    (case xg_NoText => k_is)
    (case xq_NoText => k_exc)
    (case xk_NoText => k_is)
    (case xb_NoText => k_is)
    (case xt_NoText => k_is)
    (case en => k_is)
    (case eh => k_is)
    (case eiW => k_is)
    (case esW => k_is)
    (case eg_NoNet => k_is)
    (case ek_NoNet => k_is)
    (case ed_NoNet => k_is)
    (case ea_NoNet => k_is)
    (case em_NoNet => k_is)
    (case ei_NoNet => k_is)
    (case ew_NoNet => k_is)
    (case ev_NoNet => k_is)
    (case es_NoNet_NoNet => k_is)
    (case es_NoNet_NoPlace => k_is)
    (case es_NoNet_NoSide => k_is)
    (case es_NoNet_NoText => k_is)
    (case eg_NoPlace => k_is)
    (case ek_NoPlace => k_is)
    (case ed_NoPlace => k_is)
    (case ea_NoPlace => k_is)
    (case em_NoPlace => k_is)
    (case ei_NoPlace => k_is)
    (case ew_NoPlace => k_is)
    (case ev_NoPlace => k_is)
    (case es_NoPlace_NoNet => k_is)
    (case es_NoPlace_NoPlace => k_is)
    (case es_NoPlace_NoSide => k_is)
    (case es_NoPlace_NoText => k_is)
    (case eg_NoSide => k_is)
    (case ek_NoSide => k_is)
    (case ed_NoSide => k_is)
    (case ea_NoSide => k_is)
    (case em_NoSide => k_is)
    (case ei_NoSide => k_is)
    (case ew_NoSide => k_is)
    (case ev_NoSide => k_is)
    (case es_NoSide_NoNet => k_is)
    (case es_NoSide_NoPlace => k_is)
    (case es_NoSide_NoSide => k_is)
    (case es_NoSide_NoText => k_is)
    (case eg_NoText => k_is)
    (case ek_NoText => k_is)
    (case ed_NoText => k_is)
    (case ea_NoText => k_is)
    (case em_NoText => k_is)
    (case ei_NoText => k_is)
    (case ew_NoText => k_is)
    (case ev_NoText => k_is)
    (case es_NoText_NoNet => k_is)
    (case es_NoText_NoPlace => k_is)
    (case es_NoText_NoSide => k_is)
    (case es_NoText_NoText => k_is)
