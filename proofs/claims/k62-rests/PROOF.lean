import PyProof.Rows.All
import Wide.All
import OpenK.AllK
import Wide.FinOn
import PyProof.EqAt
import PyProof.EqKinds
import PyProof.TupleCall
import HandS.ForMost
import HandS.Evl
import HandS.Wide
import HandS.IsInst
import HandS.Style
import HandS.TupLe
import HandS.SortInts
import PySem.Challenge.RW_sievewright_k62_whole_rests_together
set_option Elab.async false
set_option linter.all false
set_option maxRecDepth 100000
set_option maxHeartbeats 4000000
set_option maxHeartbeats 2500000
/-! base of the proofs over sievewright: readings of the operators, data, short words -/
namespace Sw
open PySem PySem.Spec PyProof.Rows L2 Evl
/-! ### operators -/
def MulOk (i j : Int) : Prop := CMulW i j ∨ CMul i j
theorem MulOk.ok {i j : Int} (h : MulOk i j) : IntMulOk i j := h.elim CMulW.ok CMul.ok
abbrev jAdd : R2 := rI0 fun i j => .int (i + j)
abbrev jSub : R2 := rI0 fun i j => .int (i - j)
abbrev jMul : R2 := rI MulOk fun i j => .int (i * j)
abbrev jDiv : R2 := rI CDivW fun i j => .int (i / j)
abbrev jMod : R2 := rI (fun _ j => 0 < j) fun i j => .int (i % j)
abbrev jPow : R2 := rI CPow fun i j => .int (i ^ j.toNat)
abbrev jLt : R2 := rI0 fun i j => .bl (decide (i < j))
abbrev jLe : R2 := rI0 fun i j => .bl (decide (i ≤ j))
abbrev jGt : R2 := rI0 fun i j => .bl (decide (j < i))
abbrev jGe : R2 := rI0 fun i j => .bl (decide (j ≤ i))
abbrev jIsN : R2 := fun x y H Q => y = .non ∧ Q (.bl (decide (x = .non))) H
abbrev jNotN : R2 := fun x y H Q => y = .non ∧ Q (.bl (!decide (x = .non))) H
abbrev jMax2 : List V → Hp → VK → Prop := fun xs H Q => ∃ i j, xs = [.int i, .int j] ∧ Q (.int (if j > i then j else i)) H
abbrev jMin2 : List V → Hp → VK → Prop := fun xs H Q => ∃ i j, xs = [.int i, .int j] ∧ Q (.int (if j < i then j else i)) H
abbrev jInt1 : List V → Hp → VK → Prop := fun xs H Q => (∃ i, xs = [.int i] ∧ Q (.int i) H) ∨ ∃ k, xs = [.bl k] ∧ Q (.int (if k then 1 else 0)) H
section
variable {X : Cx}
theorem op_mulA : OpR X (binaryOp .Mult) jMul := opI fun _ _ _ _ _ _ _ hc q => mul_int q hc.ok
theorem opMono {f : Value → Value → Sem Value} {r r' : R2} (h : OpR X f r) (m : ∀ x y H Q, r' x y H Q → r x y H Q) : OpR X f r' := fun pins s σ H x y v u Q I rx ry q => h pins s σ H x y v u Q I rx ry (m x y H Q q)
end
theorem decV_int (i j : Int) : decide (V.int i = V.int j) = decide (i = j) := by
  by_cases e : i = j
  · rw [decide_eq_true e, decide_eq_true (congrArg V.int e)]
  · rw [decide_eq_false e, decide_eq_false fun z => e (V.int.inj z)]
theorem decV_str (i j : Str) : decide (V.str i = V.str j) = decide (i = j) := by
  by_cases e : i = j
  · rw [decide_eq_true e, decide_eq_true (congrArg V.str e)]
  · rw [decide_eq_false e, decide_eq_false fun z => e (V.str.inj z)]
theorem decV_bl (i j : Bool) : decide (V.bl i = V.bl j) = decide (i = j) := by
  by_cases e : i = j
  · rw [decide_eq_true e, decide_eq_true (congrArg V.bl e)]
  · rw [decide_eq_false e, decide_eq_false fun z => e (V.bl.inj z)]
abbrev jEq : R2 := rI0 fun i j => .bl (decide (i = j))
abbrev jNe : R2 := rI0 fun i j => .bl (!decide (i = j))
abbrev jEqS : R2 := fun x y H Q => ∃ i j, x = .str i ∧ y = .str j ∧ Q (.bl (decide (i = j))) H
abbrev jNeS : R2 := fun x y H Q => ∃ i j, x = .str i ∧ y = .str j ∧ Q (.bl (!decide (i = j))) H
abbrev jEqB : R2 := fun x y H Q => ∃ i j, x = .bl i ∧ y = .bl j ∧ Q (.bl (decide (i = j))) H
abbrev jNeB : R2 := fun x y H Q => ∃ i j, x = .bl i ∧ y = .bl j ∧ Q (.bl (!decide (i = j))) H
section
variable {X : Cx}
theorem op_eqI : OpR X (compareOp .Eq) jEq := opMono op_eq fun x y H Q ⟨i, j, e1, e2, q⟩ => by subst e1 e2; exact ⟨rfl, by rw [decV_int]; exact q⟩
theorem op_neI : OpR X (compareOp .NotEq) jNe := opMono op_ne fun x y H Q ⟨i, j, e1, e2, q⟩ => by subst e1 e2; exact ⟨rfl, by rw [decV_int]; exact q⟩
theorem op_eqS : OpR X (compareOp .Eq) jEqS := opMono op_eq fun x y H Q ⟨i, j, e1, e2, q⟩ => by subst e1 e2; exact ⟨rfl, by rw [decV_str]; exact q⟩
theorem op_neS : OpR X (compareOp .NotEq) jNeS := opMono op_ne fun x y H Q ⟨i, j, e1, e2, q⟩ => by subst e1 e2; exact ⟨rfl, by rw [decV_str]; exact q⟩
theorem op_eqB : OpR X (compareOp .Eq) jEqB := opMono op_eq fun x y H Q ⟨i, j, e1, e2, q⟩ => by subst e1 e2; exact ⟨rfl, by rw [decV_bl]; exact q⟩
theorem op_neB : OpR X (compareOp .NotEq) jNeB := opMono op_ne fun x y H Q ⟨i, j, e1, e2, q⟩ => by subst e1 e2; exact ⟨rfl, by rw [decV_bl]; exact q⟩
end
theorem mul_l {i j : Int} (h : -18446744073709551616 < i ∧ i < 18446744073709551616) : MulOk i j := .inr (.inl h)
theorem mul_r {i j : Int} (h : -18446744073709551616 < j ∧ j < 18446744073709551616) : MulOk i j := .inr (.inr h)
theorem mul_w {i j : Int} (h1 : -(2 ^ 250) < i ∧ i < 2 ^ 250) (h2 : -(2 ^ 250) < j ∧ j < 2 ^ 250) : MulOk i j :=
  .inl (wide_mul (a := 250) (b := 250) (by omega) (by omega) (by decide) (by decide) (by decide))
theorem div_ok {i j : Int} (h : 0 < j) (h2 : j < 2 ^ 250) : CDivW i j := wide_div (b := 250) h (by omega) (by decide) (by decide)
/-! ### evaluations -/
section
variable {K : PySem.W.Frag} {σ : L2.St} {H H' : Hp} {ta tb tc te : TE} {t u : TT} {x y z v : V} {r r' : R2}
theorem ev_mn2 {i j : Int} (ha : Ev ta σ H (.int i)) (hb : Ev tb σ H (.int j)) : Ev (tCB jMin2 (tCons ta (tCons tb tNil))) σ H (.int (if j < i then j else i)) := fun H1 e Q q =>
  ha H1 e _ fun H2 e2 => hb H2 (e.trans e2) _ fun H3 e3 => ⟨i, j, rfl, q H3 (e2.trans e3)⟩
theorem ev_mx2 {i j : Int} (ha : Ev ta σ H (.int i)) (hb : Ev tb σ H (.int j)) : Ev (tCB jMax2 (tCons ta (tCons tb tNil))) σ H (.int (if j > i then j else i)) := fun H1 e Q q =>
  ha H1 e _ fun H2 e2 => hb H2 (e.trans e2) _ fun H3 e3 => ⟨i, j, rfl, q H3 (e2.trans e3)⟩
theorem rc_intB {k : Bool} : RC jInt1 [.bl k] H (.int (if k then 1 else 0)) := fun H1 _ _ q => .inr ⟨k, rfl, q H1 (Ex.refl H1)⟩
theorem rc_intI {i : Int} : RC jInt1 [.int i] H (.int i) := fun H1 _ _ q => .inl ⟨i, rfl, q H1 (Ex.refl H1)⟩
theorem rv_eqS {i j : Str} : RV jEqS (.str i) (.str j) H (.bl (decide (i = j))) := fun H1 _ _ q => ⟨i, j, rfl, rfl, q H1 (Ex.refl H1)⟩
theorem rv_neS {i j : Str} : RV jNeS (.str i) (.str j) H (.bl (!decide (i = j))) := fun H1 _ _ q => ⟨i, j, rfl, rfl, q H1 (Ex.refl H1)⟩
theorem rv_eqB {i j : Bool} : RV jEqB (.bl i) (.bl j) H (.bl (decide (i = j))) := fun H1 _ _ q => ⟨i, j, rfl, rfl, q H1 (Ex.refl H1)⟩
theorem rv_neB {i j : Bool} : RV jNeB (.bl i) (.bl j) H (.bl (!decide (i = j))) := fun H1 _ _ q => ⟨i, j, rfl, rfl, q H1 (Ex.refl H1)⟩
theorem ev_lenT {p : Addr} {xs : List V} (ha : Ev ta σ H (.ref p)) (h : SqT K H p xs) : Ev (tCB (rLenS K) (tCons ta tNil)) σ H (.int (xs.length : Int)) := fun H1 e Q q =>
  ha H1 e _ fun H2 e2 => ⟨p, xs, rfl, Or.inr (ex_t (e.trans e2) h), q H2 e2⟩
theorem el_lcT {a : Addr} {xs : List V} {tl : TE} {j : Nat} {vs : List Nat} (f : Nat → Bool) (v : Nat → V) (h : Ev tl σ H (.ref a)) (hx : SqT K H a xs) (hz : xs.length ≤ 25000) (hw : ∀ x, wipe ((wipe σ vs).set j (some x)) vs = wipe σ vs)
    (ht : ∀ (i : Nat) (x : V) H1, Ex H H1 → xs[i]? = some x → EvT t ((wipe σ vs).set j (some x)) H1 (f i)) (he : ∀ (i : Nat) (x : V) H1, Ex H H1 → xs[i]? = some x → f i = true → Ev te ((wipe σ vs).set j (some x)) H1 (v i)) :
    EvL (tLc (iTup K tl) (gName j) t te vs) σ H (given xs.length f v) := fun H0 e Q q => h H0 e _ fun H1 e1 => ⟨a, rfl, ⟨xs, ex_t (e.trans e1) hx⟩, fun Dl hD =>
  lc_tup (xs := xs) (Cw H1 f v Dl) ⟨hD, Ex.new hD, upd_same⟩ (fun i H' _ p => ex_t ((e.trans e1).trans p.2.1) hx) (fun i x H' hi p => ⟨hw x, cw_turn p (by have := (List.getElem?_eq_some_iff.mp hi).1; omega) (ht i x H1 (e.trans e1) hi) (fun hf => he i x H1 (e.trans e1) hi hf)⟩)
    (fun H' p => q Dl H' (fresh_back e1 p.1) (e1.trans p.2.1) p.2.2)⟩
theorem rv_isN : RV jIsN x .non H (.bl (decide (x = .non))) := fun H1 _ _ q => ⟨rfl, q H1 (Ex.refl H1)⟩
theorem rv_notN : RV jNotN x .non H (.bl (!decide (x = .non))) := fun H1 _ _ q => ⟨rfl, q H1 (Ex.refl H1)⟩
theorem et_yes : EvT tYes σ H true := fun H1 _ _ q => q H1 (Ex.refl H1)
theorem ev_chain {a b : Bool} {w : V} (ha : Ev ta σ H x) (hb : Ev tb σ H y) (h1 : RV r x y H (.bl a)) (hc : Ev tc σ H w) (h2 : RV r' y w H (.bl b)) : Ev (tChain r r' ta tb tc) σ H (.bl (a && b)) := fun H1 e Q q =>
  ha H1 e _ fun H2 e2 => hb H2 (e.trans e2) _ fun H3 e3 => h1 H3 ((e.trans e2).trans e3) _ fun H4 e4 => ⟨a, rfl, by
    cases a with
    | true =>
      rw [if_pos rfl]
      exact hc H4 (((e.trans e2).trans e3).trans e4) _ fun H5 e5 => h2 H5 ((((e.trans e2).trans e3).trans e4).trans e5) Q fun H6 e6 => q H6 ((((e2.trans e3).trans e4).trans e5).trans e6)
    | false =>
      rw [if_neg Bool.false_ne_true]
      exact q H4 ((e2.trans e3).trans e4)⟩
/-- isinstance(x, a class) -/
theorem rc_isi {c : V} {t u : Value} {b : Bool} (hc : ClsV c u) (ht : ∀ H1, Ex H H1 → TyX K H1 x t) (hk : PySem.W.kitOne K t u = some b) : RC (rIsi K) [x, c] H (.bl b) := fun H1 e Q q =>
  ⟨x, c, t, u, b, rfl, hc, ht H1 e, hk, q H1 (Ex.refl H1)⟩
theorem el_rev {a : Addr} {xs : List V} (h : Ev te σ H (.ref a)) (hs : SqL K H a xs) : EvL (tRevL K te) σ H xs.reverse := fun H1 e _ q =>
  h H1 e _ fun H2 e2 => ⟨a, xs, rfl, ex_l (e.trans e2) hs, fun p hp => q p _ (fresh_back e2 hp) (e2.trans (Ex.new hp)) upd_same⟩
/-- all(new list), any(new list), sum(new list) -/
theorem ev_allL {bs : List Bool} (h : EvL te σ H (bs.map V.bl)) : Ev (tCB (rAll K) (tCons te tNil)) σ H (.bl (bs.all id)) := fun H1 e _ q =>
  h H1 e _ fun p H2 _ e2 h2 => ⟨p, bs, rfl, sq_of h2, q H2 e2⟩
theorem ev_anyL {bs : List Bool} (h : EvL te σ H (bs.map V.bl)) : Ev (tCB (rAny K) (tCons te tNil)) σ H (.bl (bs.any id)) := fun H1 e _ q =>
  h H1 e _ fun p H2 _ e2 h2 => ⟨p, bs, rfl, sq_of h2, q H2 e2⟩
theorem ev_sumL {ns : List Int} (h : EvL te σ H (ns.map V.int)) : Ev (tCB (rSum K) (tCons te tNil)) σ H (.int ns.sum) := fun H1 e _ q =>
  h H1 e _ fun p H2 _ e2 h2 => ⟨p, ns, rfl, sq_of h2, q H2 e2⟩
/-! ### data -/
theorem dp_ex {e : Ex H H'} : ∀ {v : V} {d : PyData}, Dp K H v d → Dp K H' v d := by
  intro v d h
  refine Dp.rec (motive_1 := fun v d _ => Dp K H' v d) (motive_2 := fun vs ds _ => DpAll K H' vs ds) ?_ ?_ ?_ ?_ ?_ ?_ ?_ ?_ h
  · exact .non
  · exact fun b => .bl b
  · exact fun i => .int i
  · exact fun x => .str x
  · exact fun hs _ ih => .lst (ex_l e hs) ih
  · exact fun hs _ ih => .tup (ex_t e hs) ih
  · exact .nil
  · exact fun _ _ h1 h2 => .cons h1 h2
theorem dpAll_ex (e : Ex H H') : ∀ {vs : List V} {ds : List PyData}, DpAll K H vs ds → DpAll K H' vs ds
  | _, _, .nil => .nil
  | _, _, .cons h t => .cons (dp_ex (e := e) h) (dpAll_ex e t)
theorem dpAll_ints : ∀ (ns : List Int), DpAll K H (ns.map V.int) (ns.map PyData.int)
  | [] => .nil
  | n :: r => .cons (.int n) (dpAll_ints r)
theorem dpAll_get : ∀ {vs : List V} {ds : List PyData} {i : Nat} {v : V}, DpAll K H vs ds → vs[i]? = some v → ∃ d, ds[i]? = some d ∧ Dp K H v d
  | _, _, _, _, .nil, h => by simp at h
  | _, _, 0, _, .cons h t, e => by simp at e; subst e; exact ⟨_, rfl, h⟩
  | _, _, i + 1, v, .cons h t, e => by
    obtain ⟨d, h1, h2⟩ := dpAll_get (i := i) (v := v) t (by simpa using e)
    exact ⟨d, by simpa using h1, h2⟩
theorem dpAll_len : ∀ {vs : List V} {ds : List PyData}, DpAll K H vs ds → vs.length = ds.length
  | _, _, .nil => rfl
  | _, _, .cons _ t => by rw [List.length_cons, List.length_cons, dpAll_len t]
theorem dpAll_append : ∀ {vs ws : List V} {ds es : List PyData}, DpAll K H vs ds → DpAll K H ws es → DpAll K H (vs ++ ws) (ds ++ es)
  | _, _, _, _, .nil, h => h
  | _, _, _, _, .cons h t, h2 => .cons h (dpAll_append t h2)
theorem dpAll_rev : ∀ {vs : List V} {ds : List PyData}, DpAll K H vs ds → DpAll K H vs.reverse ds.reverse
  | _, _, .nil => .nil
  | _, _, .cons h t => by rw [List.reverse_cons, List.reverse_cons]; exact dpAll_append (dpAll_rev t) (.cons h .nil)
theorem rv_eqD {d d' : PyData} (h1 : Dp K H x d) (h2 : Dp K H y d') (s1 : SeqAt.shaped d = true) (s2 : SeqAt.shaped d' = true) : RV (rEqD K) x y H (.bl (PyData.eqv d d')) := fun H1 e _ q =>
  ⟨d, d', dp_ex (e := e) h1, dp_ex (e := e) h2, s1, s2, q H1 (Ex.refl H1)⟩
theorem rv_neD {d d' : PyData} (h1 : Dp K H x d) (h2 : Dp K H y d') (s1 : SeqAt.shaped d = true) (s2 : SeqAt.shaped d' = true) : RV (rNeD K) x y H (.bl (!PyData.eqv d d')) := fun H1 e _ q =>
  ⟨d, d', dp_ex (e := e) h1, dp_ex (e := e) h2, s1, s2, q H1 (Ex.refl H1)⟩
/-- evaluates to some data -/
def EvD (K : PySem.W.Frag) (te : TE) (σ : L2.St) (H : Hp) (d : PyData) : Prop := ∀ H1, Ex H H1 → ∀ Q : VK, (∀ v H2, Ex H1 H2 → Dp K H2 v d → Q v H2) → te σ H1 Q
theorem EvD.mono {d : PyData} (e : Ex H H') (h : EvD K te σ H d) : EvD K te σ H' d := fun H1 a Q q => h H1 (e.trans a) Q q
theorem ed_of {d : PyData} (h : Ev te σ H v) (hd : Dp K H v d) : EvD K te σ H d := fun H1 e Q q => h H1 e Q fun H2 e2 => q v H2 e2 (dp_ex (e := e.trans e2) hd)
theorem ed_L {xs : List V} {ds : List PyData} (h : EvL te σ H xs) (hd : DpAll K H xs ds) : EvD K te σ H (.list ds) := fun H1 e Q q => h H1 e Q fun p H2 hp e2 h2 => q (.ref p) H2 e2 (.lst (sq_of h2) (dpAll_ex (e.trans e2) hd))
theorem ed_U {xs : List V} {ds : List PyData} (h : EvU te σ H xs) (hd : DpAll K H xs ds) : EvD K te σ H (.tuple ds) := fun H1 e Q q => h H1 e Q fun p H2 hp e2 h2 => q (.ref p) H2 e2 (.tup (st_of h2) (dpAll_ex (e.trans e2) hd))
theorem ev_eqDD {d d' : PyData} (ha : EvD K ta σ H d) (hb : EvD K tb σ H d') (s1 : SeqAt.shaped d = true) (s2 : SeqAt.shaped d' = true) : Ev (tOp (rEqD K) ta tb) σ H (.bl (PyData.eqv d d')) := fun H1 e Q q =>
  ha H1 e _ fun x H2 e2 hx => hb H2 (e.trans e2) _ fun y H3 e3 hy => ⟨d, d', dp_ex (e := e3) hx, hy, s1, s2, q H3 (e2.trans e3)⟩
theorem ev_neDD {d d' : PyData} (ha : EvD K ta σ H d) (hb : EvD K tb σ H d') (s1 : SeqAt.shaped d = true) (s2 : SeqAt.shaped d' = true) : Ev (tOp (rNeD K) ta tb) σ H (.bl (!PyData.eqv d d')) := fun H1 e Q q =>
  ha H1 e _ fun x H2 e2 hx => hb H2 (e.trans e2) _ fun y H3 e3 hy => ⟨d, d', dp_ex (e := e3) hx, hy, s1, s2, q H3 (e2.trans e3)⟩
/-- a call that tells data -/
def SpD (K : PySem.W.Frag) (sp : Sp) (vs : List V) (H : Hp) (d : PyData) : Prop := ∀ H1, Ex H H1 → ∀ Q : VK, (∀ v H2, Ex H1 H2 → Dp K H2 v d → Q v H2) → ∀ E : XK, sp vs H1 Q E
theorem ed_call {sp : Sp} {dvs vs : List V} {E : XK} {ta : TA} {d : PyData} (h : EvA ta σ H vs) (hs : SpD K sp (vs ++ dvs) H d) : EvD K (tCall sp dvs E ta) σ H d := fun H1 e Q q =>
  h H1 e _ fun H2 e2 => hs H2 (e.trans e2) Q (fun v H3 e3 h3 => q v H3 (e2.trans e3) h3) E
/-- a call with one argument that is data -/
theorem ed_call1 {sp : Sp} {E : XK} {d d' : PyData} (h : EvD K te σ H d) (hs : ∀ v H1, Ex H H1 → Dp K H1 v d → SpD K sp [v] H1 d') : EvD K (tCall sp [] E (tCons te tNil)) σ H d' := fun H1 e Q q =>
  h H1 e _ fun v H2 e2 hv => hs v H2 (e.trans e2) hv H2 (Ex.refl H2) Q (fun u H3 e3 hu => q u H3 (e2.trans e3) hu) E
theorem ed_is {d d' : PyData} (h : EvD K te σ H d) (e : d = d') : EvD K te σ H d' := by
  rw [← e]
  exact h
variable {D : Ends} {tu tw tz : TS}
theorem s_asgD {i : Nat} {d : PyData} (h : EvD K te σ H d) (k : ∀ v H1, Ex H H1 → Dp K H1 v d → D.nx (σ.set i (some v)) H1) : tAsg te (gName i) D σ H := h H (Ex.refl H) _ k
theorem q_asgD {i : Nat} {d : PyData} (h : EvD K te σ H d) (k : ∀ v H1, Ex H H1 → Dp K H1 v d → tz D (σ.set i (some v)) H1) : tSeq (tAsg te (gName i)) tz D σ H := s_asgD (D := { D with nx := tz D }) h k
theorem s_retD {d : PyData} (h : EvD K te σ H d) (k : ∀ v H1, Ex H H1 → Dp K H1 v d → D.rt v H1) : tRet te D σ H := h H (Ex.refl H) _ k
/-- x, y = a, b -/
theorem s_par {i j : Nat} (ha : Ev ta σ H x) (hb : Ev tb σ H y) (k : ∀ H1, Ex H H1 → D.nx ((σ.set i (some x)).set j (some y)) H1) : tPar i j (tCons ta (tCons tb tNil)) D σ H :=
  ha H (Ex.refl H) _ fun H1 e1 => hb H1 e1 _ fun H2 e2 => ⟨x, y, rfl, k H2 (e1.trans e2)⟩
theorem q_par {i j : Nat} (ha : Ev ta σ H x) (hb : Ev tb σ H y) (k : ∀ H1, Ex H H1 → tz D ((σ.set i (some x)).set j (some y)) H1) : tSeq (tPar i j (tCons ta (tCons tb tNil))) tz D σ H := s_par (D := { D with nx := tz D }) ha hb k
/-- a tuple taken apart into two names -/
theorem g_pair {a : Addr} {i j : Nat} {Q : L2.St → Hp → Prop} (h : SqT K H a [x, y]) (k : Q ((σ.set i (some x)).set j (some y)) H) : gTup K 2 (gCons (gName i) (gCons (gName j) gNil)) (.ref a) σ H Q :=
  ⟨a, [x, y], rfl, h, rfl, x, [y], rfl, y, [], rfl, rfl, k⟩
theorem q_asgUT {i j : Nat} {ta : TA} (h : EvA ta σ H [x, y]) (k : ∀ H1, Ex H H1 → tz D ((σ.set i (some x)).set j (some y)) H1) : tSeq (tAsg (tTup ta) (gTup K 2 (gCons (gName i) (gCons (gName j) gNil)))) tz D σ H :=
  eu_tup h (Nat.le_of_ble_eq_true rfl) H (Ex.refl H) (fun v H1 => gTup K 2 (gCons (gName i) (gCons (gName j) gNil)) v σ H1 (tz D)) fun p H2 np e2 hp => g_pair (st_of hp) (k H2 e2)
/-- a, b = e, e a tuple that stands -/
theorem q_asgP {a : Addr} {i j : Nat} (h : Ev te σ H (.ref a)) (hT : SqT K H a [x, y]) (k : ∀ H1, Ex H H1 → tz D ((σ.set i (some x)).set j (some y)) H1) : tSeq (tAsg te (gTup K 2 (gCons (gName i) (gCons (gName j) gNil)))) tz D σ H :=
  h H (Ex.refl H) (fun v H1 => gTup K 2 (gCons (gName i) (gCons (gName j) gNil)) v σ H1 (tz D)) fun H1 e1 => g_pair (ex_t e1 hT) (k H1 e1)
/-! ### isinstance of data -/
def tyD : PyData → String
  | .none => "NoneType" | .bool _ => "bool" | .int _ => "int" | .str _ => "str" | .list _ => "list" | .tuple _ => "tuple" | .dict _ => "dict"
def isaT (t c : String) : Bool := t == c || (t == "bool" && c == "int")
theorem tyx_of {d : PyData} : Dp K H v d → TyX K H v (.type (tyD d)) := by
  intro h
  cases h with
  | non => exact .base .non
  | bl b => exact .base (.bl b)
  | int i => exact .base (.int i)
  | str x => exact .base (.str x)
  | lst h _ =>
    rcases h with (h | ⟨o, h⟩) | ⟨o, its, n, h1, h2, _⟩
    · exact .base (.lst h)
    · exact .base (.frz h)
    · exact .kList h1 h2
  | tup h _ =>
    rcases h with (h | ⟨o, h⟩) | ⟨o, its, n, h1, h2, _⟩
    · exact .base (.tup h)
    · exact .fTuple h
    · exact .kTuple h1 h2
theorem kit_T : ∀ t ∈ ["NoneType", "bool", "int", "str", "list", "tuple"], ∀ c ∈ ["int", "bool", "list", "tuple", "str"], kitB t c = some (isaT t c) := by decide +kernel
theorem kit_D {d : PyData} {c : String} (hd : ∀ kvs, d ≠ .dict kvs) (hc : c ∈ ["int", "bool", "list", "tuple", "str"]) : PySem.W.kitOne K (.type (tyD d)) (.type c) = some (isaT (tyD d) c) := by
  refine kit_ty (kit_T _ ?_ c hc)
  cases d with
  | dict kvs => exact (hd kvs rfl).elim
  | _ => simp [tyD]
theorem dp_nodict {d : PyData} (h : Dp K H v d) : ∀ kvs, d ≠ .dict kvs := by
  intro kvs e
  subst e
  cases h
/-- isinstance(e, a built-in class), e some data -/
theorem ev_isi {d : PyData} {c : String} (h : Ev te σ H v) (hd : Dp K H v d) (hc : c ∈ ["int", "bool", "list", "tuple", "str"] := by decide) : Ev (tCB (rIsi K) (tCons te (tCons (tC (.ty c)) tNil))) σ H (.bl (isaT (tyD d) c)) :=
  ev_cb (ea_cons h (ea_cons ev_c ea_nil)) (rc_isi (.ty c) (fun H1 e => tyx_of (dp_ex (e := e) hd)) (kit_D (dp_nodict hd) hc))
/-! ### what stands apart from one address -/
def hid (H : Hp) (o : Addr) : Hp := fun b => if b = o then none else H b
theorem hid_ne {o b : Addr} (h : b ≠ o) : hid H o b = H b := if_neg h
theorem hid_at {o : Addr} : hid H o o = none := if_pos rfl
theorem hid_ex {o : Addr} : Ex (hid H o) H := fun a u h => by
  by_cases e : a = o
  · subst e
    rw [hid_at] at h
    cases h
  · rw [hid_ne e] at h
    exact h
theorem hid_upd {o : Addr} {u : HO} : hid (upd H o u) o = hid H o := by
  funext b
  by_cases e : b = o
  · subst e
    rw [hid_at, hid_at]
  · rw [hid_ne e, hid_ne e, upd_ne e]
theorem hid_mono {o : Addr} (e : Ex H H') : Ex (hid H o) (hid H' o) := fun a u h => by
  by_cases z : a = o
  · subst z
    rw [hid_at] at h
    cases h
  · rw [hid_ne z] at h ⊢
    exact e a u h
theorem ex_hid {o : Addr} (e : Ex H H') (h : H o = none) : Ex H (hid H' o) := fun a u ha => by
  rw [hid_ne (ne_of_none ha h)]
  exact e a u ha
end
/-! ### items of written lists -/
theorem at2 {x y : V} {i : Int} (h0 : 0 ≤ i) (h1 : i < 2) : ∃ w, atI [x, y] i = some w ∧ (i = 0 ∧ w = x ∨ i = 1 ∧ w = y) := by
  have h : i = 0 ∨ i = 1 := by omega
  rcases h with rfl | rfl
  · exact ⟨x, rfl, .inl ⟨rfl, rfl⟩⟩
  · exact ⟨y, rfl, .inr ⟨rfl, rfl⟩⟩
theorem at3 {x y z : V} {i : Int} (h0 : 0 ≤ i) (h1 : i < 3) : ∃ w, atI [x, y, z] i = some w ∧ (i = 0 ∧ w = x ∨ i = 1 ∧ w = y ∨ i = 2 ∧ w = z) := by
  have h : i = 0 ∨ i = 1 ∨ i = 2 := by omega
  rcases h with rfl | rfl | rfl
  · exact ⟨x, rfl, .inl ⟨rfl, rfl⟩⟩
  · exact ⟨y, rfl, .inr (.inl ⟨rfl, rfl⟩)⟩
  · exact ⟨z, rfl, .inr (.inr ⟨rfl, rfl⟩)⟩
/-! ### comprehensions without a test -/
theorem given_map (n : Nat) (v : Nat → V) : given n (fun _ => true) v = (List.range n).map v := by
  unfold given
  rw [List.filter_eq_self.mpr (fun _ _ => rfl)]
theorem given_bl (n : Nat) (b : Nat → Bool) : given n (fun _ => true) (fun i => .bl (b i)) = ((List.range n).map b).map V.bl := by
  rw [given_map, List.map_map]
  rfl
theorem given_int (n : Nat) (b : Nat → Int) : given n (fun _ => true) (fun i => .int (b i)) = ((List.range n).map b).map V.int := by
  rw [given_map, List.map_map]
  rfl
theorem el_is {te : TE} {σ : L2.St} {H : Hp} {xs ys : List V} (h : EvL te σ H xs) (e : xs = ys) : EvL te σ H ys := by
  rw [← e]
  exact h
/-! ### lists of ints as data -/
def intsD (ns : List Int) : PyData := .list (ns.map PyData.int)
theorem eqvAll_ints : ∀ (ns ms : List Int), PyData.eqvAll (ns.map PyData.int) (ms.map PyData.int) = decide (ns = ms)
  | [], [] => rfl
  | [], _ :: _ => rfl
  | _ :: _, [] => rfl
  | a :: r, b :: s => by
    have h := eqvAll_ints r s
    simp only [List.map_cons, PyData.eqvAll, PyData.eqv, h, List.cons.injEq]
    by_cases e : a = b
    · subst e; simp
    · simp [e]
theorem eqv_ints (ns ms : List Int) : PyData.eqv (intsD ns) (intsD ms) = decide (ns = ms) := by
  unfold intsD
  simp only [PyData.eqv]
  exact eqvAll_ints ns ms
theorem canLay_ints : ∀ (ns : List Int), PyData.canLayAll0 (ns.map PyData.int) = true
  | [] => rfl
  | a :: r => by simp only [List.map_cons, PyData.canLayAll0, PyData.canLay0, canLay_ints r, Bool.and_self]
theorem depth_ints : ∀ (ns : List Int), PyData.depthAll (ns.map PyData.int) = 0
  | [] => rfl
  | a :: r => by simp only [List.map_cons, PyData.depthAll, PyData.depth, depth_ints r, Nat.max_self]
theorem shaped_ints (ns : List Int) : SeqAt.shaped (intsD ns) = true := by
  unfold SeqAt.shaped intsD
  simp only [PyData.canLay0, PyData.depth, canLay_ints, depth_ints]
  decide
end Sw

namespace Sw
open PySem PySem.Spec PyProof.Rows L2 Evl
local macro_rules | `(tactic| walk_at "mul") => `(tactic| first | exact mul_r (by omega) | exact mul_l (by omega) | exact mul_w (by omega) (by omega))
local macro_rules | `(tactic| walk_at "div") => `(tactic| exact div_ok (by omega) (by omega))
local macro_rules | `(tactic| walk_at "mod") => `(tactic| (show (0 : Int) < _; omega))
abbrev EndOf (Q : VK) : Ends := { nx := fun _ H' => Q .non H', rt := Q }
/-! ### the law's cells and draws -/
def cellF (ns : List Int) (k : Int) : Int := if ns = [] then k * 7919 else ns.getD (k % (ns.length : Int)).toNat 0 + k / (ns.length : Int) * 104729
def d1F (cell k : Int) : Int := (cell * 6364136223846793005 + (k + 1) * 1442695040888963407) % 340282366920938463463374607431768211507
def d2F (m : Int) : Int := m * m % 340282366920938463463374607431768211297
def d3F (m : Int) : Int := (m % 18446744073709551557 + 1) * (m / 18446744073709551557 + 1) * m
def drawnF (cell k : Int) : Int := d3F (d2F (d1F cell k)) % 340282366920938463463374607431768211507
theorem drawn_nn (cell k : Int) : 0 ≤ drawnF cell k := Int.emod_nonneg _ (by decide)
theorem drawn_lt (cell k : Int) : drawnF cell k < 340282366920938463463374607431768211507 := Int.emod_lt_of_pos _ (by decide)
def t__law_cell (K : PySem.W.Frag) : TS :=
 (tSeq (tIfS (tTest (tOp (rEqD K) (tVar 0) (tLst tNil))) (tRet (tOp jMul (tVar 1) (tC (.int 7919)))) tNext)
 (tRet (tOp jAdd (tOp (rIxL K) (tVar 0) (tOp jMod (tVar 1) (tCB (rLenS K) (tCons (tVar 0) tNil)))) (tOp jMul (tOp jDiv (tVar 1) (tCB (rLenS K) (tCons (tVar 0) tNil))) (tC (.int 104729))))))
def t__law_drawn (K : PySem.W.Frag) : TS :=
 (tSeq (tAsg (tOp jMod (tOp jAdd (tOp jMul (tVar 0) (tC (.int 6364136223846793005))) (tOp jMul (tOp jAdd (tVar 1) (tC (.int 1))) (tC (.int 1442695040888963407)))) (tC (.int 340282366920938463463374607431768211507))) (gName 2))
 (tSeq (tAsg (tOp jMod (tOp jMul (tVar 2) (tVar 2)) (tC (.int 340282366920938463463374607431768211297))) (gName 2))
 (tSeq (tAsg (tOp jMul (tOp jMul (tOp jAdd (tOp jMod (tVar 2) (tC (.int 18446744073709551557))) (tC (.int 1))) (tOp jAdd (tOp jDiv (tVar 2) (tC (.int 18446744073709551557))) (tC (.int 1)))) (tVar 2)) (gName 2))
 (tRet (tOp jMod (tVar 2) (tC (.int 340282366920938463463374607431768211507)))))))
def sp__law_cell (K : PySem.W.Frag) : Sp := fun vs H Q _ => ∃ (a : Addr) (ns : List Int) (k : Int), vs = [.ref a, .int k] ∧ SqL K H a (ns.map V.int) ∧ ns.length ≤ 63 ∧ RetV (.int (cellF ns k)) H Q
def sp__law_drawn (K : PySem.W.Frag) : Sp := fun vs H Q _ => ∃ (c k : Int), vs = [.int c, .int k] ∧ RetV (.int (drawnF c k)) H Q
theorem len__law_cell {K : PySem.W.Frag} {vs : List V} {H : Hp} {Q : VK} {E : XK} (h : sp__law_cell K vs H Q E) : vs.length = 2 := by
  obtain ⟨_, _, _, rfl, _⟩ := h
  rfl
theorem len__law_drawn {K : PySem.W.Frag} {vs : List V} {H : Hp} {Q : VK} {E : XK} (h : sp__law_drawn K vs H Q E) : vs.length = 2 := by
  obtain ⟨_, _, rfl, _⟩ := h
  rfl
theorem pure__law_cell {K : PySem.W.Frag} (vs : List V) (H : Hp) (Q : VK) (E : XK) (h : sp__law_cell K vs H Q E) : t__law_cell K (EndOf Q) (start ["script", "k"] vs) H := by
  obtain ⟨a, ns, k, rfl, hS, hl, q⟩ := h
  have e1 : PyData.eqv (intsD ns) (intsD []) = decide (ns = []) := eqv_ints ns []
  refine q_when (b := decide (ns = [])) (et_test (ev_is (ev_eqDD (d := intsD ns) (d' := intsD []) (ed_of (ev_var rfl) (.lst hS (dpAll_ints ns))) (ed_L (el_lst ea_nil (by decide)) .nil) (shaped_ints _) (shaped_ints _)) (congrArg V.bl e1))) (fun hb H1 e1 => ?_) (fun hb H1 e1 => ?_)
  · have e := of_decide_eq_true hb
    refine s_ret (ev_op (ev_var rfl) ev_c (rv_I (by walk_at "mul"))) fun H2 e2 => ?_
    have z := q H2 (e1.trans e2)
    unfold cellF at z
    rw [if_pos e] at z
    exact z
  · have e := of_decide_eq_false hb
    have hp : 0 < ns.length := List.length_pos_iff.mpr e
    have hS1 := ex_l e1 hS
    have hlen : Ev (tCB (rLenS K) (tCons (tVar 0) tNil)) (start ["script", "k"] [.ref a, .int k]) H1 (.int (ns.length : Int)) := ev_is (ev_len (ev_var rfl) hS1) (by rw [List.length_map])
    have hm0 := Int.emod_nonneg k (show (ns.length : Int) ≠ 0 by omega)
    have hm1 := Int.emod_lt_of_pos k (show (0 : Int) < ns.length by omega)
    have ha : atI (ns.map V.int) (k % (ns.length : Int)) = some (.int (ns.getD (k % (ns.length : Int)).toNat 0)) := by
      have hk : (k % (ns.length : Int)).toNat < ns.length := by omega
      have h1 : atI (ns.map V.int) (((k % (ns.length : Int)).toNat : Nat) : Int) = some (.int (ns.getD (k % (ns.length : Int)).toNat 0)) := atI_nat (by rw [List.getElem?_map, List.getElem?_eq_getElem hk, List.getD_eq_getElem?_getD, List.getElem?_eq_getElem hk]; rfl)
      rwa [Int.toNat_of_nonneg hm0] at h1
    refine s_ret (ev_op (ev_op (ev_var rfl) (ev_op (ev_var rfl) hlen (rv_I (by walk_at "mod"))) (rv_ixL hS1 ha)) (ev_op (ev_op (ev_var rfl) hlen (rv_I (by walk_at "div"))) ev_c (rv_I (by walk_at "mul"))) rv_I0) fun H2 e2 => ?_
    have z := q H2 (e1.trans e2)
    unfold cellF at z
    rw [if_neg e] at z
    exact z
theorem pure__law_drawn {K : PySem.W.Frag} (vs : List V) (H : Hp) (Q : VK) (E : XK) (h : sp__law_drawn K vs H Q E) : t__law_drawn K (EndOf Q) (start ["cell", "k", "more"] vs) H := by
  obtain ⟨c, k, rfl, q⟩ := h
  refine q_asg (ev_op (ev_op (ev_op (ev_var rfl) ev_c (rv_I (by walk_at "mul"))) (ev_op (ev_op (ev_var rfl) ev_c rv_I0) ev_c (rv_I (by walk_at "mul"))) rv_I0) ev_c (rv_I (by walk_at "mod"))) fun H1 e1 => ?_
  show tSeq _ _ _ [some (.int c), some (.int k), some (.int (d1F c k))] H1
  have m0 : 0 ≤ d1F c k := Int.emod_nonneg _ (by decide)
  have m1 : d1F c k < 340282366920938463463374607431768211507 := Int.emod_lt_of_pos _ (by decide)
  generalize hx : d1F c k = x at m0 m1
  refine q_asg (ev_op (ev_op (ev_var rfl) (ev_var rfl) (rv_I (by walk_at "mul"))) ev_c (rv_I (by walk_at "mod"))) fun H2 e2 => ?_
  show tSeq _ _ _ [some (.int c), some (.int k), some (.int (d2F x))] H2
  have n0 : 0 ≤ d2F x := Int.emod_nonneg _ (by decide)
  have n1 : d2F x < 340282366920938463463374607431768211297 := Int.emod_lt_of_pos _ (by decide)
  generalize hy : d2F x = y at n0 n1
  have p0 : 0 ≤ y % 18446744073709551557 := Int.emod_nonneg _ (by decide)
  have p1 : y % 18446744073709551557 < 18446744073709551557 := Int.emod_lt_of_pos _ (by decide)
  have q0 : 0 ≤ y / 18446744073709551557 := Int.ediv_nonneg n0 (by decide)
  have q1 : y / 18446744073709551557 ≤ y := Int.ediv_le_self _ n0
  have w1 : MulOk (y % 18446744073709551557 + 1) (y / 18446744073709551557 + 1) := mul_l (by omega)
  have w2 : MulOk ((y % 18446744073709551557 + 1) * (y / 18446744073709551557 + 1)) y := by
    have b1 : (y % 18446744073709551557 + 1) * (y / 18446744073709551557 + 1) ≤ 18446744073709551557 * 340282366920938463463374607431768211507 := Int.mul_le_mul (by omega) (by omega) (by omega) (by decide)
    have b0 : 0 ≤ (y % 18446744073709551557 + 1) * (y / 18446744073709551557 + 1) := Int.mul_nonneg (by omega) (by omega)
    exact mul_w (by omega) (by omega)
  refine q_asg (ev_op (ev_op (ev_op (ev_op (ev_var rfl) ev_c (rv_I (by walk_at "mod"))) ev_c rv_I0) (ev_op (ev_op (ev_var rfl) ev_c (rv_I (by walk_at "div"))) ev_c rv_I0) (rv_I w1)) (ev_var rfl) (rv_I w2)) fun H3 e3 => ?_
  refine s_ret (ev_op (ev_var rfl) ev_c (rv_I (by walk_at "mod"))) fun H4 e4 => ?_
  have z := q H4 (((e1.trans e2).trans e3).trans e4)
  unfold drawnF at z
  rw [hx, hy] at z
  exact z
end Sw

namespace Sw
/-! ### divisors in common, plain -/
def gcdI (a b : Int) : Int := (Int.gcd a b : Int)
theorem gcd_dl (a b : Int) : gcdI a b ∣ a := Int.gcd_dvd_left ..
theorem gcd_dr (a b : Int) : gcdI a b ∣ b := Int.gcd_dvd_right ..
theorem gcd_zero {a : Int} (h : 0 ≤ a) : gcdI a 0 = a := by
  unfold gcdI
  rw [Int.gcd_zero_right]
  omega
theorem gcd_nn (a b : Int) : 0 ≤ gcdI a b := Int.natCast_nonneg _
theorem gcd_comm (a b : Int) : gcdI a b = gcdI b a := by unfold gcdI; rw [Int.gcd_comm]
theorem gcd_pos {a b : Int} (h : 0 < b) : 0 < gcdI a b := by
  have h1 := gcd_nn a b
  by_cases e : gcdI a b = 0
  · have h2 := gcd_dr a b
    rw [e] at h2
    have h3 := Int.zero_dvd.mp h2
    omega
  · omega
theorem gcd_le {a b : Int} (h : 0 < b) : gcdI a b ≤ b := Int.le_of_dvd h (gcd_dr a b)
theorem dvd_gcd {d a b : Int} (h1 : d ∣ a) (h2 : d ∣ b) : d ∣ gcdI a b := Int.dvd_coe_gcd h1 h2
theorem gcd_step {a b : Int} (h : 0 < b) : gcdI b (a % b) = gcdI a b := by
  have d1 : gcdI b (a % b) ∣ gcdI a b := by
    refine dvd_gcd ?_ (gcd_dl _ _)
    have e : a = b * (a / b) + a % b := (Int.mul_ediv_add_emod a b).symm
    rw [e]
    conv => lhs; rw [← e]
    exact Int.dvd_add (Int.dvd_mul_of_dvd_left (gcd_dl _ _)) (gcd_dr _ _)
  have d2 : gcdI a b ∣ gcdI b (a % b) := by
    refine dvd_gcd (gcd_dr _ _) ?_
    have e : a % b = a - b * (a / b) := by
      have := Int.mul_ediv_add_emod a b
      omega
    rw [e]
    exact Int.dvd_sub (gcd_dl _ _) (Int.dvd_mul_of_dvd_left (gcd_dr _ _))
  exact Int.dvd_antisymm (gcd_nn _ _) (gcd_nn _ _) d1 d2
theorem bez0 : ∀ (n : Nat) (a b : Int), 0 ≤ a → 0 ≤ b → b.toNat ≤ n → ∃ x y : Int, gcdI a b = a * x + b * y
  | 0, a, b, ha, hb, hn => by
    have e : b = 0 := by omega
    subst e
    exact ⟨1, 0, by rw [gcd_zero ha]; omega⟩
  | n + 1, a, b, ha, hb, hn => by
    by_cases e : b = 0
    · subst e
      exact ⟨1, 0, by rw [gcd_zero ha]; omega⟩
    · have hp : 0 < b := by omega
      have h1 := Int.emod_nonneg a e
      have h2 := Int.emod_lt_of_pos a hp
      obtain ⟨x, y, h⟩ := bez0 n b (a % b) hb h1 (by omega)
      rw [gcd_step hp] at h
      refine ⟨y, x - a / b * y, ?_⟩
      rw [h]
      have e2 : a % b = a - b * (a / b) := by
        have := Int.mul_ediv_add_emod a b
        omega
      rw [e2, Int.sub_mul, Int.mul_sub, Int.mul_assoc]
      omega
theorem bez (a b : Int) (ha : 0 ≤ a) (hb : 0 ≤ b) : ∃ x y : Int, gcdI a b = a * x + b * y := bez0 b.toNat a b ha hb (Nat.le_refl _)
/-- the same rest -/
theorem cong {x m r : Int} (h0 : 0 ≤ r) (h1 : r < m) : x % m = r ↔ m ∣ x - r := by
  constructor
  · intro h
    have e := Int.mul_ediv_add_emod x m
    exact ⟨x / m, by omega⟩
  · intro ⟨k, h⟩
    have e : x = r + m * k := by omega
    rw [e, Int.add_mul_emod_self_left]
    exact Int.emod_eq_of_lt h0 h1
theorem emod0 {x m : Int} : x % m = 0 ↔ m ∣ x := ⟨Int.dvd_of_emod_eq_zero, Int.emod_eq_zero_of_dvd⟩
end Sw

namespace Sw
open PySem PySem.Spec PyProof.Rows L2 Evl
/-! ### common(one, other) -/
def t_common (K : PySem.W.Frag) : TS :=
 (tSeq (tWhile (tTest (tOp jGt (tVar 1) (tC (.int 0))))
 (tPar 0 1 (tCons (tVar 1) (tCons (tOp jMod (tVar 0) (tVar 1)) tNil))))
 (tRet (tVar 0)))
def sp_common (K : PySem.W.Frag) : Sp := fun vs H Q _ => ∃ (a b : Int), vs = [.int a, .int b] ∧ 0 ≤ a ∧ 0 ≤ b ∧ RetV (.int (gcdI a b)) H Q
theorem len_common {K : PySem.W.Frag} {vs : List V} {H : Hp} {Q : VK} {E : XK} (h : sp_common K vs H Q E) : vs.length = 2 := by
  obtain ⟨_, _, rfl, _⟩ := h
  rfl
theorem pure_common {K : PySem.W.Frag} (vs : List V) (H : Hp) (Q : VK) (E : XK) (h : sp_common K vs H Q E) : t_common K (EndOf Q) (start ["one", "other"] vs) H := by
  obtain ⟨a, b, rfl, ha, hb, q⟩ := h
  refine q_while (fun m σ' H' => ∃ x y : Int, σ' = [some (.int x), some (.int y)] ∧ 0 ≤ x ∧ 0 ≤ y ∧ gcdI x y = gcdI a b ∧ Ex H H' ∧ m = y.toNat) b.toNat ⟨a, b, rfl, ha, hb, rfl, Ex.refl H, rfl⟩ ?_
  rintro m σ' H' ⟨x, y, rfl, hx, hy, hg, e, rfl⟩
  refine ⟨decide (0 < y), et_test (ev_op (ev_var rfl) ev_c rv_I0), fun hb H1 e1 => ?_, fun hb H1 e1 => ?_⟩
  · have hy' : 0 < y := of_decide_eq_true hb
    have h0 := Int.emod_nonneg x (show y ≠ 0 by omega)
    have h1 := Int.emod_lt_of_pos x hy'
    refine ⟨fun σ2 H2 => σ2 = [some (.int y), some (.int (x % y))] ∧ Ex H H2, ?_, ?_⟩
    · rintro σ2 H2 ⟨rfl, e2⟩
      exact ⟨(x % y).toNat, by omega, y, x % y, rfl, hy, h0, (gcd_step hy').trans hg, e2, rfl⟩
    · exact s_par (ev_var rfl) (ev_op (ev_var rfl) (ev_var rfl) (rv_I hy')) fun H2 e2 => ⟨rfl, (e.trans e1).trans e2⟩
  · have hy0 : y = 0 := by
      have := of_decide_eq_false hb
      omega
    subst hy0
    rw [gcd_zero hx] at hg
    refine s_ret (ev_var rfl) fun H2 e2 => ?_
    rw [hg]
    exact q H2 ((e.trans e1).trans e2)
/-- a call of it -/
theorem sv_common {K : PySem.W.Frag} {H : Hp} {a b : Int} (ha : 0 ≤ a) (hb : 0 ≤ b) : SpV (sp_common K) [.int a, .int b] H (.int (gcdI a b)) := fun H1 e Q q E => ⟨a, b, rfl, ha, hb, fun H2 e2 => q H2 e2⟩
theorem sv_drawn {K : PySem.W.Frag} {H : Hp} {a b : Int} : SpV (sp__law_drawn K) [.int a, .int b] H (.int (drawnF a b)) := fun H1 e Q q E => ⟨a, b, rfl, fun H2 e2 => q H2 e2⟩
theorem sv_cell {K : PySem.W.Frag} {H : Hp} {a : Addr} {ns : List Int} {k : Int} (hS : SqL K H a (ns.map V.int)) (hl : ns.length ≤ 63) : SpV (sp__law_cell K) [.ref a, .int k] H (.int (cellF ns k)) := fun H1 e Q q E => ⟨a, ns, k, rfl, ex_l e hS, hl, fun H2 e2 => q H2 e2⟩
end Sw

namespace Sw
/-! ### rests together -/
def okP (q : Int × Int) : Prop := 1 ≤ q.2 ∧ q.2 ≤ 2000 ∧ 0 ≤ q.1 ∧ q.1 < q.2
def Sol (ps : List (Int × Int)) (x : Int) : Prop := ∀ q ∈ ps, x % q.2 = q.1
structure IsLcm (ps : List (Int × Int)) (M : Int) : Prop where
  pos : 0 < M
  dv : ∀ q ∈ ps, q.2 ∣ M
  least : ∀ X : Int, (∀ q ∈ ps, q.2 ∣ X) → M ∣ X
structure IsMet (ps : List (Int × Int)) (R M : Int) : Prop where
  l : IsLcm ps M
  lo : 0 ≤ R
  hi : R < M
  sol : Sol ps R
theorem isMet_nil : IsMet [] 0 1 := ⟨⟨by decide, (fun _ h => nomatch h), fun X _ => Int.one_dvd X⟩, by decide, by decide, (fun _ h => nomatch h)⟩
theorem lcm_eq {ps : List (Int × Int)} {M N : Int} (a : IsLcm ps M) (b : IsLcm ps N) : M = N :=
  Int.dvd_antisymm (Int.le_of_lt a.pos) (Int.le_of_lt b.pos) (a.least N b.dv) (b.least M a.dv)
theorem lcm_rev {ps : List (Int × Int)} {M : Int} (a : IsLcm ps.reverse M) : IsLcm ps M :=
  ⟨a.pos, fun q h => a.dv q (List.mem_reverse.mpr h), fun X h => a.least X fun q hq => h q (List.mem_reverse.mp hq)⟩
theorem sol_mod {ps : List (Int × Int)} (ok : ∀ q ∈ ps, okP q) {R x : Int} (h1 : Sol ps R) (h2 : Sol ps x) {M : Int} (l : IsLcm ps M) : M ∣ x - R := by
  refine l.least _ fun q hq => ?_
  have o := ok q hq
  have a := (cong o.2.2.1 o.2.2.2).mp (h1 q hq)
  have b := (cong o.2.2.1 o.2.2.2).mp (h2 q hq)
  have e : x - R = (x - q.1) - (R - q.1) := by omega
  rw [e]
  exact Int.dvd_sub b a
theorem met_eq {ps : List (Int × Int)} (ok : ∀ q ∈ ps, okP q) {R M R' M' : Int} (a : IsMet ps R M) (b : IsMet ps R' M') : R = R' ∧ M = M' := by
  have e := lcm_eq a.l b.l
  subst e
  refine ⟨?_, rfl⟩
  obtain ⟨k, hk⟩ := sol_mod ok a.sol b.sol a.l
  have p := a.l.pos
  have h1 := a.lo
  have h2 := a.hi
  have h3 := b.lo
  have h4 := b.hi
  have k0 : k = 0 := by
    by_cases hk1 : 1 ≤ k
    · have := Int.mul_le_mul_of_nonneg_left hk1 (Int.le_of_lt p)
      omega
    · by_cases hk2 : k ≤ -1
      · have := Int.mul_le_mul_of_nonneg_left hk2 (Int.le_of_lt p)
        omega
      · omega
  subst k0
  omega
theorem met_rev {ps : List (Int × Int)} {R M : Int} (a : IsMet ps.reverse R M) : IsMet ps R M := ⟨lcm_rev a.l, a.lo, a.hi, fun q h => a.sol q (List.mem_reverse.mpr h)⟩
/-- the step's modulus -/
theorem lcm_snoc {ps : List (Int × Int)} {M : Int} (l : IsLcm ps M) {r o : Int} (ho : 0 < o) : IsLcm (ps ++ [(r, o)]) (M / gcdI M o * o) := by
  have gp : 0 < gcdI M o := gcd_pos ho
  obtain ⟨m', hm⟩ := gcd_dl M o
  obtain ⟨o', ho'⟩ := gcd_dr M o
  have em : M / gcdI M o = m' := by
    conv => lhs; lhs; rw [hm]
    exact Int.mul_ediv_cancel_left _ (by omega)
  have mp : 0 < m' := by
    have := l.pos
    by_cases h : 0 < m'
    · exact h
    · have := Int.mul_le_mul_of_nonneg_left (show m' ≤ 0 by omega) (Int.le_of_lt gp)
      omega
  rw [em]
  refine ⟨Int.mul_pos mp ho, fun q hq => ?_, fun X h => ?_⟩
  · rcases List.mem_append.mp hq with hq | hq
    · have h1 := l.dv q hq
      refine Int.dvd_trans h1 ⟨o', ?_⟩
      calc m' * o = m' * (gcdI M o * o') := by rw [← ho']
        _ = gcdI M o * m' * o' := by rw [← Int.mul_assoc, Int.mul_comm m']
        _ = M * o' := by rw [← hm]
    · have e : q = (r, o) := by simpa using hq
      subst e
      exact ⟨m', Int.mul_comm _ _⟩
  · obtain ⟨s, hs⟩ := l.least X fun q hq => h q (List.mem_append_left _ hq)
    obtain ⟨t, ht⟩ := h (r, o) (by simp)
    have ht : X = o * t := ht
    obtain ⟨x, y, hb⟩ := bez M o (Int.le_of_lt l.pos) (Int.le_of_lt ho)
    -- X = (m' x + o' y) X
    have one : m' * x + o' * y = 1 := by
      have e : gcdI M o * (m' * x + o' * y) = gcdI M o * 1 := by
        rw [Int.mul_add, ← Int.mul_assoc, ← Int.mul_assoc, ← hm, ← ho', Int.mul_one]
        exact hb.symm
      exact Int.eq_of_mul_eq_mul_left (by omega) e
    refine ⟨x * t + y * s, ?_⟩
    calc X = (m' * x + o' * y) * X := by rw [one, Int.one_mul]
      _ = m' * x * X + o' * y * X := Int.add_mul ..
      _ = m' * x * (o * t) + o' * y * (M * s) := by rw [← ht, ← hs]
      _ = m' * o * (x * t) + m' * o * (y * s) := by
        congr 1
        · ac_rfl
        · have e : o' * y * (M * s) = (o' * M) * (y * s) := by ac_rfl
          have e2 : o' * M = m' * o := by
            calc o' * M = o' * (gcdI M o * m') := by rw [← hm]
              _ = m' * (gcdI M o * o') := by ac_rfl
              _ = m' * o := by rw [← ho']
          rw [e, e2]
      _ = m' * o * (x * t + y * s) := (Int.mul_add ..).symm
/-- the search ends, soon -/
theorem seek {R M r o : Int} (hM : 0 < M) (ho : 0 < o) (h : gcdI M o ∣ r - R) : ∃ s : Int, 0 ≤ s ∧ s < o / gcdI M o ∧ o ∣ R + s * M - r := by
  have gp : 0 < gcdI M o := gcd_pos ho
  obtain ⟨m', hm⟩ := gcd_dl M o
  obtain ⟨o', ho'⟩ := gcd_dr M o
  have eo : o / gcdI M o = o' := by
    conv => lhs; lhs; rw [ho']
    exact Int.mul_ediv_cancel_left _ (by omega)
  have op : 0 < o' := by
    by_cases h : 0 < o'
    · exact h
    · have := Int.mul_le_mul_of_nonneg_left (show o' ≤ 0 by omega) (Int.le_of_lt gp)
      omega
  obtain ⟨t, ht⟩ := h
  obtain ⟨x, y, hb⟩ := bez M o (Int.le_of_lt hM) (Int.le_of_lt ho)
  rw [eo]
  refine ⟨(x * t) % o', Int.emod_nonneg _ (by omega), Int.emod_lt_of_pos _ op, ?_⟩
  have e : (x * t) % o' = x * t - o' * (x * t / o') := by
    have := Int.mul_ediv_add_emod (x * t) o'
    omega
  refine ⟨- (y * t) - m' * (x * t / o'), ?_⟩
  rw [e]
  generalize x * t / o' = q
  have e1 : (x * t - o' * q) * M = M * x * t - (o' * M) * q := by
    rw [Int.sub_mul]
    congr 1 <;> ac_rfl
  have e2 : o' * M = o * m' := by
    calc o' * M = o' * (gcdI M o * m') := by rw [← hm]
      _ = (gcdI M o * o') * m' := by ac_rfl
      _ = o * m' := by rw [← ho']
  have e3 : r - R = M * x * t + o * y * t := by rw [ht, hb, Int.add_mul]
  rw [e1, e2, Int.mul_sub, Int.mul_neg]
  have e4 : o * (y * t) = o * y * t := (Int.mul_assoc ..).symm
  have e5 : o * (m' * q) = o * m' * q := (Int.mul_assoc ..).symm
  rw [e4, e5]
  omega
theorem met_snoc {ps : List (Int × Int)} {R M : Int} (a : IsMet ps R M) (ok : ∀ q ∈ ps, okP q) {r o s : Int} (hq : okP (r, o)) (h0 : 0 ≤ s) (hs : s < o / gcdI M o) (hd : (R + s * M - r) % o = 0) :
    IsMet (ps ++ [(r, o)]) (R + s * M) (M / gcdI M o * o) := by
  have ho : 0 < o := by have := hq.1; exact Int.lt_of_lt_of_le (by decide) this
  have l := lcm_snoc a.l (r := r) ho
  have gp : 0 < gcdI M o := gcd_pos ho
  have hM := a.l.pos
  refine ⟨l, ?_, ?_, fun q h => ?_⟩
  · have := Int.mul_nonneg h0 (Int.le_of_lt hM)
    have := a.lo
    omega
  · have e : M / gcdI M o * o = o / gcdI M o * M := by
      obtain ⟨m', hm⟩ := gcd_dl M o
      obtain ⟨o', ho'⟩ := gcd_dr M o
      have em : M / gcdI M o = m' := by
        conv => lhs; lhs; rw [hm]
        exact Int.mul_ediv_cancel_left _ (by omega)
      have eo : o / gcdI M o = o' := by
        conv => lhs; lhs; rw [ho']
        exact Int.mul_ediv_cancel_left _ (by omega)
      rw [em, eo]
      calc m' * o = m' * (gcdI M o * o') := by rw [← ho']
        _ = o' * (gcdI M o * m') := by ac_rfl
        _ = o' * M := by rw [← hm]
    rw [e]
    have := a.hi
    have h1 : (s + 1) * M ≤ o / gcdI M o * M := Int.mul_le_mul_of_nonneg_right (by omega) (Int.le_of_lt hM)
    rw [Int.add_mul, Int.one_mul] at h1
    omega
  · rcases List.mem_append.mp h with h | h
    · have o1 := ok q h
      refine (cong o1.2.2.1 o1.2.2.2).mpr ?_
      have h1 := (cong o1.2.2.1 o1.2.2.2).mp (a.sol q h)
      have e : R + s * M - q.1 = (R - q.1) + s * M := by omega
      rw [e]
      exact Int.dvd_add h1 (Int.dvd_mul_of_dvd_right (a.l.dv q h))
    · have e : q = (r, o) := by simpa using h
      subst e
      exact (cong hq.2.2.1 hq.2.2.2).mpr (emod0.mp hd)
theorem no_sol {ps more : List (Int × Int)} {R M : Int} (a : IsMet ps R M) (ok : ∀ q ∈ ps, okP q) {r o : Int} (hq : okP (r, o)) (h : (r - R) % gcdI M o ≠ 0) : ¬ ∃ x, Sol (ps ++ (r, o) :: more) x := by
  rintro ⟨x, hx⟩
  have h1 : M ∣ x - R := sol_mod ok a.sol (fun q hq => hx q (List.mem_append_left _ hq)) a.l
  have h2 : o ∣ x - r := (cong hq.2.2.1 hq.2.2.2).mp (hx (r, o) (List.mem_append_right _ List.mem_cons_self))
  refine h (emod0.mpr ?_)
  have e : r - R = (x - R) - (x - r) := by omega
  rw [e]
  exact Int.dvd_sub (Int.dvd_trans (gcd_dl _ _) h1) (Int.dvd_trans (gcd_dr _ _) h2)
/-! ### two that speak against one another -/
def Against (ps : List (Int × Int)) : Prop := ∃ p ∈ ps, ∃ q ∈ ps, (p.1 - q.1) % gcdI p.2 q.2 ≠ 0
theorem against_no {ps : List (Int × Int)} (ok : ∀ q ∈ ps, okP q) (h : Against ps) : ¬ ∃ x, Sol ps x := by
  rintro ⟨x, hx⟩
  obtain ⟨p, hp, q, hq, h⟩ := h
  refine h (emod0.mpr ?_)
  have o1 := ok p hp
  have o2 := ok q hq
  have h1 := (cong o1.2.2.1 o1.2.2.2).mp (hx p hp)
  have h2 := (cong o2.2.2.1 o2.2.2.2).mp (hx q hq)
  have e : p.1 - q.1 = (x - q.1) - (x - p.1) := by omega
  rw [e]
  exact Int.dvd_sub (Int.dvd_trans (gcd_dr _ _) h2) (Int.dvd_trans (gcd_dl _ _) h1)
theorem gcd_two {a b c x : Int} (ha : 0 < a) (hb : 0 < b) (hc : 0 < c) (h1 : gcdI a c ∣ x) (h2 : gcdI b c ∣ x) : gcdI (a / gcdI a b * b) c ∣ x := by
  have gp : 0 < gcdI a b := gcd_pos hb
  obtain ⟨a', ea⟩ := gcd_dl a b
  obtain ⟨b', eb⟩ := gcd_dr a b
  have em : a / gcdI a b = a' := by
    conv => lhs; lhs; rw [ea]
    exact Int.mul_ediv_cancel_left _ (by omega)
  obtain ⟨p, q, hb1⟩ := bez a b (Int.le_of_lt ha) (Int.le_of_lt hb)
  have one : a' * p + b' * q = 1 := by
    have e : gcdI a b * (a' * p + b' * q) = gcdI a b * 1 := by
      rw [Int.mul_add, ← Int.mul_assoc, ← Int.mul_assoc, ← ea, ← eb, Int.mul_one]
      exact hb1.symm
    exact Int.eq_of_mul_eq_mul_left (by omega) e
  obtain ⟨k1, hk1⟩ := h1
  obtain ⟨k2, hk2⟩ := h2
  obtain ⟨u, v, huv⟩ := bez a c (Int.le_of_lt ha) (Int.le_of_lt hc)
  obtain ⟨s, t, hst⟩ := bez b c (Int.le_of_lt hb) (Int.le_of_lt hc)
  have x1 : x = a * (u * k1) + c * (v * k1) := by rw [hk1, huv, Int.add_mul, Int.mul_assoc, Int.mul_assoc]
  have x2 : x = b * (s * k2) + c * (t * k2) := by rw [hk2, hst, Int.add_mul, Int.mul_assoc, Int.mul_assoc]
  rw [em]
  have e2 : b' * a = a' * b := by
    calc b' * a = b' * (gcdI a b * a') := by rw [← ea]
      _ = a' * (gcdI a b * b') := by ac_rfl
      _ = a' * b := by rw [← eb]
  have big : x = (a' * b) * (p * (s * k2) + q * (u * k1)) + c * (a' * p * (t * k2) + b' * q * (v * k1)) := by
    calc x = (a' * p + b' * q) * x := by rw [one, Int.one_mul]
      _ = a' * p * x + b' * q * x := Int.add_mul ..
      _ = a' * p * (b * (s * k2) + c * (t * k2)) + b' * q * (a * (u * k1) + c * (v * k1)) := by rw [← x2, ← x1]
      _ = (a' * b) * (p * (s * k2)) + c * (a' * p * (t * k2)) + ((b' * a) * (q * (u * k1)) + c * (b' * q * (v * k1))) := by
        rw [Int.mul_add, Int.mul_add]
        congr 1
        · congr 1 <;> ac_rfl
        · congr 1 <;> ac_rfl
      _ = _ := by
        rw [e2, Int.mul_add, Int.mul_add]
        omega
  rw [big]
  exact Int.dvd_add (Int.dvd_mul_of_dvd_left (gcd_dl _ _)) (Int.dvd_mul_of_dvd_left (gcd_dr _ _))
theorem lcm_perm {ps qs : List (Int × Int)} {M : Int} (a : IsLcm ps M) (h : ∀ q, q ∈ ps ↔ q ∈ qs) : IsLcm qs M :=
  ⟨a.pos, fun q hq => a.dv q ((h q).mpr hq), fun X hX => a.least X fun q hq => hX q ((h q).mp hq)⟩
theorem lcm_ex : ∀ (ps : List (Int × Int)), (∀ q ∈ ps, 0 < q.2) → ∃ M, IsLcm ps M
  | [], _ => ⟨1, isMet_nil.l⟩
  | (r, o) :: ps, h => by
    obtain ⟨M, l⟩ := lcm_ex ps fun q hq => h q (List.mem_cons_of_mem _ hq)
    refine ⟨_, lcm_perm (lcm_snoc l (r := r) (h (r, o) List.mem_cons_self)) fun q => ?_⟩
    simp only [List.mem_append, List.mem_cons, List.not_mem_nil, or_false]
    exact or_comm
/-- if each m of the list has gcd(m, c) dividing x, so has their least common multiple -/
theorem gcd_lcm {c x : Int} (hc : 0 < c) : ∀ (ps : List (Int × Int)) (M : Int), IsLcm ps M → (∀ q ∈ ps, 0 < q.2) → (∀ q ∈ ps, gcdI q.2 c ∣ x) → gcdI M c ∣ x
  | [], M, l, _, _ => by
    have e : M = 1 := lcm_eq l isMet_nil.l
    subst e
    have h : gcdI 1 c ∣ 1 := gcd_dl 1 c
    exact Int.dvd_trans h (Int.one_dvd x)
  | (r, o) :: ps, M, l, hp, hd => by
    have hp' : ∀ q ∈ ps, 0 < q.2 := fun q hq => hp q (List.mem_cons_of_mem _ hq)
    have ho : 0 < o := hp (r, o) List.mem_cons_self
    obtain ⟨M', l'⟩ := lcm_ex ps hp'
    have h1 := gcd_lcm hc ps M' l' hp' fun q hq => hd q (List.mem_cons_of_mem _ hq)
    have e : M = M' / gcdI M' o * o := by
      refine lcm_eq l (lcm_perm (lcm_snoc l' (r := r) ho) fun q => ?_)
      simp only [List.mem_append, List.mem_cons, List.not_mem_nil, or_false]
      exact or_comm
    rw [e]
    exact gcd_two l'.pos ho hc h1 (hd (r, o) List.mem_cons_self)
theorem crt : ∀ (l pre : List (Int × Int)) (R M : Int), IsMet pre R M → (∀ q ∈ pre ++ l, okP q) → ¬ Against (pre ++ l) → ∃ R' M', IsMet (pre ++ l) R' M'
  | [], pre, R, M, a, _, _ => ⟨R, M, by rw [List.append_nil]; exact a⟩
  | (r, o) :: l, pre, R, M, a, ok, na => by
    have okp : ∀ q ∈ pre, okP q := fun q hq => ok q (List.mem_append_left _ hq)
    have okq : okP (r, o) := ok (r, o) (List.mem_append_right _ List.mem_cons_self)
    have ho : 0 < o := Int.lt_of_lt_of_le (by decide) okq.1
    have hd : gcdI M o ∣ r - R := by
      refine gcd_lcm ho pre M a.l (fun q hq => Int.lt_of_lt_of_le (by decide) (okp q hq).1) fun q hq => ?_
      have o1 := okp q hq
      have h1 := (cong o1.2.2.1 o1.2.2.2).mp (a.sol q hq)
      have h2 : gcdI q.2 o ∣ q.1 - r := by
        refine emod0.mp ?_
        by_cases z : (q.1 - r) % gcdI q.2 o = 0
        · exact z
        · exact absurd ⟨q, List.mem_append_left _ hq, (r, o), List.mem_append_right _ List.mem_cons_self, z⟩ na
      have e : r - R = -(q.1 - r) - (R - q.1) := by omega
      rw [e]
      exact Int.dvd_sub (Int.dvd_neg.mpr h2) (Int.dvd_trans (gcd_dl _ _) h1)
    obtain ⟨s, h0, hs, hdv⟩ := seek a.l.pos ho hd
    have a2 := met_snoc a okp okq h0 hs (emod0.mpr hdv)
    have e : pre ++ (r, o) :: l = (pre ++ [(r, o)]) ++ l := by simp
    rw [e] at ok na ⊢
    exact crt l _ _ _ a2 ok na
theorem no_against {ps : List (Int × Int)} (ok : ∀ q ∈ ps, okP q) (h : ¬ ∃ x, Sol ps x) : Against ps := by
  by_cases z : Against ps
  · exact z
  · obtain ⟨R, M, a⟩ := crt ps [] 0 1 isMet_nil ok z
    exact absurd ⟨R, a.sol⟩ h
end Sw

namespace K62
open PySem PySem.Spec PyProof.Rows L2 Evl Sw
/-! ### the text -/
def topS (i : Nat) : Stmt := PySem.Challenge.pw_sievewright_k62_whole_rests_together.main.body.getD i (.Pass ⟨0, 0, 0, 0⟩)
abbrev s_common : Stmt := topS 4
abbrev N_common : List Str := ["one", "other"]
theorem sc_common : FnScope N_common ["one", "other"] (defScope s_common) := ⟨rfl, rfl, rfl, by decide +kernel, rfl, by decide +kernel, by decide +kernel⟩
abbrev s_is_pair : Stmt := topS 8
abbrev N_is_pair : List Str := ["thing", "rest", "modulus", "one"]
theorem sc_is_pair : FnScope N_is_pair ["thing"] (defScope s_is_pair) := ⟨rfl, rfl, rfl, by decide +kernel, rfl, by decide +kernel, by decide +kernel⟩
abbrev s_met : Stmt := topS 9
abbrev N_met : List Str := ["pairs", "rest", "modulus", "own", "other", "by", "step", "pair"]
theorem sc_met : FnScope N_met ["pairs"] (defScope s_met) := ⟨rfl, rfl, rfl, by decide +kernel, rfl, by decide +kernel, by decide +kernel⟩
abbrev s__law_cell : Stmt := topS 11
abbrev N__law_cell : List Str := ["script", "k"]
theorem sc__law_cell : FnScope N__law_cell ["script", "k"] (defScope s__law_cell) := ⟨rfl, rfl, rfl, by decide +kernel, rfl, by decide +kernel, by decide +kernel⟩
abbrev s__law_drawn : Stmt := topS 12
abbrev N__law_drawn : List Str := ["cell", "k", "more"]
theorem sc__law_drawn : FnScope N__law_drawn ["cell", "k"] (defScope s__law_drawn) := ⟨rfl, rfl, rfl, by decide +kernel, rfl, by decide +kernel, by decide +kernel⟩
abbrev s__law_common : Stmt := topS 13
abbrev N__law_common : List Str := ["one", "other"]
theorem sc__law_common : FnScope N__law_common ["one", "other"] (defScope s__law_common) := ⟨rfl, rfl, rfl, by decide +kernel, rfl, by decide +kernel, by decide +kernel⟩
abbrev s__law_against : Stmt := topS 14
abbrev N__law_against : List Str := ["pairs", "rest", "modulus", "other", "far", "both"]
theorem sc__law_against : FnScope N__law_against ["pairs"] (defScope s__law_against) := ⟨rfl, rfl, rfl, by decide +kernel, rfl, by decide +kernel, by decide +kernel⟩
abbrev s_law : Stmt := topS 15
abbrev N_law : List Str := ["script", "k", "more", "number", "pairs", "j", "here", "modulus", "rest", "kept", "told", "whole"]
theorem sc_law : FnScope N_law ["script"] (defScope s_law) := ⟨rfl, rfl, rfl, by decide +kernel, rfl, by decide +kernel, by decide +kernel⟩
/-- where the defs stand -/
structure Ad where
  f_common : Addr
  d_common : FuncData
  f_is_pair : Addr
  d_is_pair : FuncData
  f_met : Addr
  d_met : FuncData
  f__law_cell : Addr
  d__law_cell : FuncData
  f__law_drawn : Addr
  d__law_drawn : FuncData
  f__law_common : Addr
  d__law_common : FuncData
  f__law_against : Addr
  d__law_against : FuncData
  f_law : Addr
  d_law : FuncData
/-- what the top has left -/
structure Txt (a : Ad) (K : PySem.W.Frag) (mg : Str → Option Value) : Prop where
  F_common : Fun K "common" "common" s_common a.f_common a.d_common
  g_common : mg "common" = some (.ref a.f_common)
  b_common : Binds K a.d_common ["one", "other"] []
  F_is_pair : Fun K "is_pair" "is_pair" s_is_pair a.f_is_pair a.d_is_pair
  g_is_pair : mg "is_pair" = some (.ref a.f_is_pair)
  b_is_pair : Binds K a.d_is_pair ["thing"] []
  F_met : Fun K "met" "met" s_met a.f_met a.d_met
  g_met : mg "met" = some (.ref a.f_met)
  b_met : Binds K a.d_met ["pairs"] []
  F__law_cell : Fun K "_law_cell" "_law_cell" s__law_cell a.f__law_cell a.d__law_cell
  g__law_cell : mg "_law_cell" = some (.ref a.f__law_cell)
  b__law_cell : Binds K a.d__law_cell ["script", "k"] []
  F__law_drawn : Fun K "_law_drawn" "_law_drawn" s__law_drawn a.f__law_drawn a.d__law_drawn
  g__law_drawn : mg "_law_drawn" = some (.ref a.f__law_drawn)
  b__law_drawn : Binds K a.d__law_drawn ["cell", "k"] []
  F__law_common : Fun K "_law_common" "_law_common" s__law_common a.f__law_common a.d__law_common
  g__law_common : mg "_law_common" = some (.ref a.f__law_common)
  b__law_common : Binds K a.d__law_common ["one", "other"] []
  F__law_against : Fun K "_law_against" "_law_against" s__law_against a.f__law_against a.d__law_against
  g__law_against : mg "_law_against" = some (.ref a.f__law_against)
  b__law_against : Binds K a.d__law_against ["pairs"] []
  F_law : Fun K "law" "law" s_law a.f_law a.d_law
  g_law : mg "law" = some (.ref a.f_law)
  b_law : Binds K a.d_law ["script"] []
  z_all : mg "all" = none
  z_any : mg "any" = none
  z_bool : mg "bool" = none
  z_int : mg "int" = none
  z_isinstance : mg "isinstance" = none
  z_len : mg "len" = none
  z_list : mg "list" = none
  z_max : mg "max" = none
  z_min : mg "min" = none
  z_range : mg "range" = none
  z_tuple : mg "tuple" = none
  c_MOST_MODULUS : ∃ t, mg "MOST_MODULUS" = some (.int 2000 t)
  c_MOST_PAIRS : ∃ t, mg "MOST_PAIRS" = some (.int 6 t)
def pairD (q : Int × Int) : PyData := .tuple [.int q.1, .int q.2]
def pairsD (ps : List (Int × Int)) : PyData := .list (ps.map pairD)
open Classical in
noncomputable def metD (ps : List (Int × Int)) : PyData := if h : ∃ x : Int × Int, IsMet ps x.1 x.2 then .tuple [.int (Classical.choose h).1, .int (Classical.choose h).2] else .none
theorem metD_some {ps : List (Int × Int)} (ok : ∀ q ∈ ps, okP q) {R M : Int} (a : IsMet ps R M) : metD ps = .tuple [.int R, .int M] := by
  have h : ∃ x : Int × Int, IsMet ps x.1 x.2 := ⟨(R, M), a⟩
  unfold metD
  rw [dif_pos h]
  have e := met_eq ok (Classical.choose_spec h) a
  rw [e.1, e.2]
theorem metD_none {ps : List (Int × Int)} (h : ¬ ∃ x, Sol ps x) : metD ps = .none := by
  unfold metD
  rw [dif_neg]
  rintro ⟨x, a⟩
  exact h ⟨x.1, a.sol⟩
def sp_is_pair (K : PySem.W.Frag) : Sp := fun vs H Q _ => ∃ (v : V) (q : Int × Int), vs = [v] ∧ Dp K H v (pairD q) ∧ okP q ∧ RetV (.bl true) H Q
noncomputable def sp_met (K : PySem.W.Frag) : Sp := fun vs H Q _ => ∃ (v : V) (ps : List (Int × Int)), vs = [v] ∧ Dp K H v (pairsD ps) ∧ ps.length ≤ 6 ∧ (∀ q ∈ ps, okP q) ∧ ∀ u H', Ex H H' → Dp K H' u (metD ps) → Q u H'
def sp__law_common (K : PySem.W.Frag) : Sp := sp_common K
open Classical in
noncomputable def sp__law_against (K : PySem.W.Frag) : Sp := fun vs H Q _ => ∃ (v : V) (ps : List (Int × Int)), vs = [v] ∧ Dp K H v (pairsD ps) ∧ (∀ q ∈ ps, okP q) ∧ RetV (.bl (decide (Against ps))) H Q
def sp_law (K : PySem.W.Frag) : Sp := fun vs H Q _ => ∃ (a : Addr) (ns : List Int), vs = [.ref a] ∧ SqL K H a (ns.map V.int) ∧ ns.length ≤ 63 ∧ ∀ H', Q (.bl true) H'
def t_is_pair (K : PySem.W.Frag) : TS :=
 (tSeq (tIfS (tOr (tNot (tB (tCB (rIsi K) (tCons (tVar 0) (tCons (tC (.ty "tuple")) tNil))))) (tTest (tOp jNe (tCB (rLenS K) (tCons (tVar 0) tNil)) (tC (.int 2))))) (tRet (tC (.bl false))) tNext)
 (tSeq (tAsg (tVar 0) (gTup K 2 (gCons (gName 1) (gCons (gName 2) gNil))))
 (tSeq (tIfS (tB (tCB (rAny K) (tCons (tLc (iTup K (tVar 0)) (gName 3) tYes (tOrV (tNotV (tCB (rIsi K) (tCons (tVar 3) (tCons (tC (.ty "int")) tNil)))) (tCB (rIsi K) (tCons (tVar 3) (tCons (tC (.ty "bool")) tNil)))) (([("one", 3)] : List (Str × Nat)).map (·.2))) tNil))) (tRet (tC (.bl false))) tNext)
 (tRet (tAndV (tChain jLe jLe (tC (.int 1)) (tVar 2) (tC (.int 2000))) (tChain jLe jLt (tC (.int 0)) (tVar 1) (tVar 2)))))))
def t_met (K : PySem.W.Frag) : TS :=
 (tSeq (tIfS (tOr (tNot (tB (tCB (rIsi K) (tCons (tVar 0) (tCons (tC (.ty "list")) tNil))))) (tOr (tTest (tOp jGt (tCB (rLenS K) (tCons (tVar 0) tNil)) (tC (.int 6)))) (tNot (tB (tCB (rAll K) (tCons (tLc (iList K (tVar 0)) (gName 7) tYes (tCall (sp_is_pair K) [] E0 (tCons (tVar 7) tNil)) (([("pair", 7)] : List (Str × Nat)).map (·.2))) tNil)))))) tNever tNext)
 (tSeq (tAsg (tTup (tCons (tC (.int 0)) (tCons (tC (.int 1)) tNil))) (gTup K 2 (gCons (gName 1) (gCons (gName 2) gNil))))
 (tSeq (tFor (iList K (tVar 0)) (gTup K 2 (gCons (gName 3) (gCons (gName 4) gNil)))
 (tSeq (tAsg (tCall (sp_common K) [] E0 (tCons (tVar 2) (tCons (tVar 4) tNil))) (gName 5))
 (tSeq (tIfS (tTest (tOp jNe (tOp jMod (tOp jSub (tVar 3) (tVar 1)) (tVar 5)) (tC (.int 0)))) (tRet (tC .non)) tNext)
 (tSeq (tAsg (tC (.int 0)) (gName 6))
 (tSeq (tWhile (tTest (tOp jNe (tOp jMod (tOp jSub (tOp jAdd (tVar 1) (tOp jMul (tVar 6) (tVar 2))) (tVar 3)) (tVar 4)) (tC (.int 0))))
 (tAsg (tOp jAdd (tVar 6) (tC (.int 1))) (gName 6)))
 (tSeq (tAsg (tOp jAdd (tVar 1) (tOp jMul (tVar 6) (tVar 2))) (gName 1))
 (tAsg (tOp jMul (tOp jDiv (tVar 2) (tVar 5)) (tVar 4)) (gName 2))))))))
 (tRet (tTup (tCons (tVar 1) (tCons (tVar 2) tNil)))))))
def t__law_common (K : PySem.W.Frag) : TS :=
 (tSeq (tWhile (tTest (tOp jGt (tVar 1) (tC (.int 0))))
 (tPar 0 1 (tCons (tVar 1) (tCons (tOp jMod (tVar 0) (tVar 1)) tNil))))
 (tRet (tVar 0)))
def t__law_against (K : PySem.W.Frag) : TS :=
 (tSeq (tFor (iList K (tVar 0)) (gTup K 2 (gCons (gName 1) (gCons (gName 2) gNil)))
 (tFor (iList K (tVar 0)) (gTup K 2 (gCons (gName 3) (gCons (gName 4) gNil)))
 (tSeq (tAsg (tCall (sp__law_common K) [] E0 (tCons (tVar 2) (tCons (tVar 4) tNil))) (gName 5))
 (tIfS (tTest (tOp jNe (tOp jMod (tOp jSub (tVar 1) (tVar 3)) (tVar 5)) (tC (.int 0)))) (tRet (tC (.bl true))) tNext))))
 (tRet (tC (.bl false))))
def t_law (K : PySem.W.Frag) : TS :=
 (tSeq (tFor (iRng1 (tCons (tCB jMax2 (tCons (tC (.int 1)) (tCons (tCB jMin2 (tCons (tC (.int 4)) (tCons (tCB (rLenS K) (tCons (tVar 0) tNil)) tNil))) tNil))) tNil)) (gName 1)
 (tSeq (tAsg (tCall (sp__law_drawn K) [] E0 (tCons (tCall (sp__law_cell K) [] E0 (tCons (tVar 0) (tCons (tVar 1) tNil))) (tCons (tVar 1) tNil))) (gName 2))
 (tSeq (tAsg (tOp jMod (tOp jDiv (tVar 2) (tC (.int 64))) (tOp jPow (tC (.int 10)) (tC (.int 9)))) (gName 3))
 (tSeq (tAsg (tLst tNil) (gName 4))
 (tSeq (tFor (iRng1 (tCons (tOp jMod (tVar 2) (tC (.int 7))) tNil)) (gName 5)
 (tSeq (tAsg (tCall (sp__law_drawn K) [] E0 (tCons (tVar 2) (tCons (tOp jAdd (tC (.int 10)) (tVar 5)) tNil))) (gName 6))
 (tSeq (tAsg (tOp jAdd (tC (.int 1)) (tOp jMod (tVar 6) (tOp (rIxL K) (tLst (tCons (tC (.int 6)) (tCons (tC (.int 30)) (tCons (tC (.int 2000)) tNil)))) (tOp jMod (tOp jDiv (tVar 2) (tC (.int 8))) (tC (.int 3)))))) (gName 7))
 (tSeq (tAsg (tOp (rIxL K) (tLst (tCons (tOp jMod (tVar 3) (tVar 7)) (tCons (tOp jMod (tOp jDiv (tVar 6) (tC (.int 4096))) (tVar 7)) tNil))) (tCB jInt1 (tCons (tOp jEq (tOp jMod (tOp jDiv (tVar 6) (tOp jPow (tC (.int 2)) (tC (.int 40)))) (tC (.int 6))) (tC (.int 0))) tNil))) (gName 8))
 (tDrop (tBM K "list" rAppend (tVar 4) (tCons (tTup (tCons (tVar 8) (tCons (tVar 7) tNil))) tNil)))))))
 (tSeq (tPar 9 10 (tCons (tCB (rListS K) (tCons (tVar 4) tNil)) (tCons (tCall (sp_met K) [] E0 (tCons (tVar 4) tNil)) tNil)))
 (tSeq (tIfS (tOr (tTest (tOp (rNeD K) (tVar 4) (tVar 9))) (tTest (tOp (rNeD K) (tCall (sp_met K) [] E0 (tCons (tRevL K (tVar 4)) tNil)) (tVar 10)))) (tRet (tC (.bl false))) tNext)
 (tSeq (tIfS (tTest (tOp jNeB (tOp jIsN (tVar 10) (tC .non)) (tCall (sp__law_against K) [] E0 (tCons (tVar 4) tNil)))) (tRet (tC (.bl false))) tNext)
 (tSeq (tIfS (tTest (tOp jIsN (tVar 10) (tC .non))) tCont tNext)
 (tSeq (tAsg (tC (.int 1)) (gName 11))
 (tSeq (tFor (iList K (tVar 4)) (gTup K 2 (gCons (gName 8) (gCons (gName 7) gNil)))
 (tSeq (tIfS (tTest (tOp jNe (tOp jMod (tOp (rIxT K) (tVar 10) (tC (.int 0))) (tVar 7)) (tVar 8))) (tRet (tC (.bl false))) tNext)
 (tAsg (tOp jDiv (tOp jMul (tVar 11) (tVar 7)) (tCall (sp__law_common K) [] E0 (tCons (tVar 11) (tCons (tVar 7) tNil)))) (gName 11))))
 (tIfS (tOr (tTest (tOp jNe (tOp (rIxT K) (tVar 10) (tC (.int 1))) (tVar 11))) (tNot (tTest (tChain jLe jLt (tC (.int 0)) (tOp (rIxT K) (tVar 10) (tC (.int 0))) (tVar 11))))) (tRet (tC (.bl false))) tNext))))))))))))
 (tRet (tOp (rEqD K) (tCall (sp_met K) [] E0 (tCons (tLst tNil) tNil)) (tTup (tCons (tC (.int 0)) (tCons (tC (.int 1)) tNil))))))
section
variable {P : Program} {w : World} {K : PySem.W.Frag} {mg : Str → Option Value} {base : Heap}
theorem der_common {a : Ad} (T : Txt a K mg)  {cdv : Value} {A : Around} {outer : List Env} {s : Shared} {H : Hp} {E : XK} (hr : Room 0 (A.deeper (envOfC "common" (defScope s_common) s.heap.objs.size a.f_common cdv))) :
    PSs (cxOf CX0 P w K mg base N_common "common" (defScope s_common) a.f_common cdv A outer s H E).nox (defBody s_common) (t_common K) := by

  exact (pss_cons (ps_while PassesOwn.never (pt_cmpR op_gt (pv 1) pe_int (nomark _))
 (pss_one (ps_par (by rfl) sc_common.nd rfl rfl (by decide) rfl rfl (pa_cons (pv 1) (pa_cons (pe_op op_mod (pv 0) (pv 1)) pa_nil)) (by rfl))))
 (pss_one (ps_ret (pv 0))))
theorem der_is_pair {a : Ad} (T : Txt a K mg)  {cdv : Value} {A : Around} {outer : List Env} {s : Shared} {H : Hp} {E : XK} (hr : Room 0 (A.deeper (envOfC "is_pair" (defScope s_is_pair) s.heap.objs.size a.f_is_pair cdv))) :
    PSs (cxOf CX0 P w K mg base N_is_pair "is_pair" (defScope s_is_pair) a.f_is_pair cdv A outer s H E).nox (defBody s_is_pair) (t_is_pair K) := by

  obtain ⟨tok_MOST_MODULUS, c_MOST_MODULUS⟩ := T.c_MOST_MODULUS
  exact (pss_cons (ps_if (PW.pt (pw_or (pt_not (pt_val (pe_callB call_isi (by rfl) T.z_isinstance (by decide +kernel) (pa_cons (pv 0) (pa_cons (pe_bltn (by rfl) T.z_tuple (by decide +kernel) rfl) pa_nil))))) (pw_or1 (pt_cmpR op_neI (pe_callB call_len_seq (by rfl) T.z_len (by decide +kernel) (pa_cons (pv 0) pa_nil)) pe_int (nomark _))))) (pss_one (ps_ret pe_bl)) pss_nil)
 (pss_cons (ps_asg (pv 0) (pg_tup (by rfl) (pgs_cons (pg_name (i := 1) sc_is_pair.nd rfl (Or.inl rfl)) (pgs_cons (pg_name (i := 2) sc_is_pair.nd rfl (Or.inl rfl)) pgs_nil))))
 (pss_cons (ps_if (pt_val (pe_callB (cr_any rfl) (by rfl) T.z_any (by decide +kernel) (pa_cons (pe_lc (own := [("one", 3)]) (g := (gName 3)) (tt := tYes) (te := (tOrV (tNotV (tCB (rIsi K) (tCons (tVar 3) (tCons (tC (.ty "int")) tNil)))) (tCB (rIsi K) (tCons (tVar 3) (tCons (tC (.ty "bool")) tNil))))) (by rfl) sc_is_pair.nd (pi_tup (pv 0)) (blkOk_by (own := [("one", 3)]) (N := N_is_pair) (sc := defScope s_is_pair) (by decide +kernel)) (fun _ _ _ _ _ => (pg_name (i := 3) sc_is_pair.nd rfl (Or.inl rfl))) (fun _ _ _ _ _ => pts_nil) (fun _ _ _ _ _ => (pe_or (pe_not (pe_callB call_isi (by rfl) T.z_isinstance (by decide +kernel) (pa_cons (pv 3) (pa_cons (pe_bltn (by rfl) T.z_int (by decide +kernel) rfl) pa_nil)))) (pe_one (pe_callB call_isi (by rfl) T.z_isinstance (by decide +kernel) (pa_cons (pv 3) (pa_cons (pe_bltn (by rfl) T.z_bool (by decide +kernel) rfl) pa_nil))))))) pa_nil))) (pss_one (ps_ret pe_bl)) pss_nil)
 (pss_one (ps_ret (pe_and (pe_chain op_le op_le pe_int (pv 2) (pe_glob rfl c_MOST_MODULUS ⟨_, rfl⟩)) (pe_one (pe_chain op_le op_lt pe_int (pv 1) (pv 2)))))))))
theorem der_met {a : Ad} (T : Txt a K mg) (G_is_pair : FnOk P w K mg base CX0 1 a.f_is_pair a.d_is_pair ["thing"] (sp_is_pair K)) (G_common : FnOk P w K mg base CX0 1 a.f_common a.d_common ["one", "other"] (sp_common K)) {cdv : Value} {A : Around} {outer : List Env} {s : Shared} {H : Hp} {E : XK} (hr : Room 1 (A.deeper (envOfC "met" (defScope s_met) s.heap.objs.size a.f_met cdv))) :
    PSs (cxOf CX0 P w K mg base N_met "met" (defScope s_met) a.f_met cdv A outer s H E).nox (defBody s_met) (t_met K) := by
  have hr_is_pair := hr.mono (show 1 ≤ 1 by decide)
  have hr_common := hr.mono (show 1 ≤ 1 by decide)
  obtain ⟨tok_MOST_PAIRS, c_MOST_PAIRS⟩ := T.c_MOST_PAIRS
  exact (pss_cons (ps_if (PW.pt (pw_or (pt_not (pt_val (pe_callB call_isi (by rfl) T.z_isinstance (by decide +kernel) (pa_cons (pv 0) (pa_cons (pe_bltn (by rfl) T.z_list (by decide +kernel) rfl) pa_nil))))) (pw_or (pt_cmpR op_gt (pe_callB call_len_seq (by rfl) T.z_len (by decide +kernel) (pa_cons (pv 0) pa_nil)) (pe_glob rfl c_MOST_PAIRS ⟨_, rfl⟩) (nomark _)) (pw_or1 (pt_not (pt_val (pe_callB (cr_all rfl) (by rfl) T.z_all (by decide +kernel) (pa_cons (pe_lc (own := [("pair", 7)]) (g := (gName 7)) (tt := tYes) (te := (tCall (sp_is_pair K) [] E0 (tCons (tVar 7) tNil))) (by rfl) sc_met.nd (pi_list (pv 0)) (blkOk_by (own := [("pair", 7)]) (N := N_met) (sc := defScope s_met) (by decide +kernel)) (fun _ _ _ _ _ => (pg_name (i := 7) sc_met.nd rfl (Or.inl rfl))) (fun _ _ _ _ _ => pts_nil) (fun _ _ _ _ _ => (pe_call G_is_pair hr_is_pair (by rfl) T.g_is_pair T.F_is_pair.kp T.b_is_pair .nil pass0 (pa_cons (pv 7) pa_nil)))) pa_nil)))))))) (pss_one ps_never) pss_nil)
 (pss_cons (ps_asg (pe_tup (pa_cons pe_int (pa_cons pe_int pa_nil))) (pg_tup (by rfl) (pgs_cons (pg_name (i := 1) sc_met.nd rfl (Or.inl rfl)) (pgs_cons (pg_name (i := 2) sc_met.nd rfl (Or.inl rfl)) pgs_nil))))
 (pss_cons (ps_for PassesOwn.never rfl (pi_list (pv 0)) (pg_tup (by rfl) (pgs_cons (pg_name (i := 3) sc_met.nd rfl (Or.inl rfl)) (pgs_cons (pg_name (i := 4) sc_met.nd rfl (Or.inl rfl)) pgs_nil)))
 (pss_cons (ps_set (i := 5) sc_met.nd rfl (Or.inl rfl) (pe_call G_common hr_common (by rfl) T.g_common T.F_common.kp T.b_common .nil pass0 (pa_cons (pv 2) (pa_cons (pv 4) pa_nil))))
 (pss_cons (ps_if (pt_cmpR op_neI (pe_op op_mod (pe_op op_sub (pv 3) (pv 1)) (pv 5)) pe_int (nomark _)) (pss_one (ps_ret pe_non)) pss_nil)
 (pss_cons (ps_set (i := 6) sc_met.nd rfl (Or.inl rfl) pe_int)
 (pss_cons (ps_while PassesOwn.never (pt_cmpR op_neI (pe_op op_mod (pe_op op_sub (pe_op op_add (pv 1) (pe_op op_mulA (pv 6) (pv 2))) (pv 3)) (pv 4)) pe_int (nomark _))
 (pss_one (ps_set (i := 6) sc_met.nd rfl (Or.inl rfl) (pe_op op_add (pv 6) pe_int))))
 (pss_cons (ps_set (i := 1) sc_met.nd rfl (Or.inl rfl) (pe_op op_add (pv 1) (pe_op op_mulA (pv 6) (pv 2))))
 (pss_one (ps_set (i := 2) sc_met.nd rfl (Or.inl rfl) (pe_op op_mulA (pe_op op_fdivW (pv 2) (pv 5)) (pv 4))))))))))
 (pss_one (ps_ret (pe_tup (pa_cons (pv 1) (pa_cons (pv 2) pa_nil))))))))
theorem der__law_cell {a : Ad} (T : Txt a K mg)  {cdv : Value} {A : Around} {outer : List Env} {s : Shared} {H : Hp} {E : XK} (hr : Room 0 (A.deeper (envOfC "_law_cell" (defScope s__law_cell) s.heap.objs.size a.f__law_cell cdv))) :
    PSs (cxOf CX0 P w K mg base N__law_cell "_law_cell" (defScope s__law_cell) a.f__law_cell cdv A outer s H E).nox (defBody s__law_cell) (t__law_cell K) := by

  exact (pss_cons (ps_if (pt_cmpR (op_eqD hr.units) (pv 0) (pe_lst pa_nil) (nomark _)) (pss_one (ps_ret (pe_op op_mulA (pv 1) pe_int))) pss_nil)
 (pss_one (ps_ret (pe_op op_add (pe_ix ix_list (pv 0) (pe_op op_mod (pv 1) (pe_callB call_len_seq (by rfl) T.z_len (by decide +kernel) (pa_cons (pv 0) pa_nil))) (fun _ _ => rfl)) (pe_op op_mulA (pe_op op_fdivW (pv 1) (pe_callB call_len_seq (by rfl) T.z_len (by decide +kernel) (pa_cons (pv 0) pa_nil))) pe_int)))))
theorem der__law_drawn {a : Ad} (T : Txt a K mg)  {cdv : Value} {A : Around} {outer : List Env} {s : Shared} {H : Hp} {E : XK} (hr : Room 0 (A.deeper (envOfC "_law_drawn" (defScope s__law_drawn) s.heap.objs.size a.f__law_drawn cdv))) :
    PSs (cxOf CX0 P w K mg base N__law_drawn "_law_drawn" (defScope s__law_drawn) a.f__law_drawn cdv A outer s H E).nox (defBody s__law_drawn) (t__law_drawn K) := by

  exact (pss_cons (ps_set (i := 2) sc__law_drawn.nd rfl (Or.inl rfl) (pe_op op_mod (pe_op op_add (pe_op op_mulA (pv 0) pe_int) (pe_op op_mulA (pe_op op_add (pv 1) pe_int) pe_int)) pe_int))
 (pss_cons (ps_set (i := 2) sc__law_drawn.nd rfl (Or.inl rfl) (pe_op op_mod (pe_op op_mulA (pv 2) (pv 2)) pe_int))
 (pss_cons (ps_set (i := 2) sc__law_drawn.nd rfl (Or.inl rfl) (pe_op op_mulA (pe_op op_mulA (pe_op op_add (pe_op op_mod (pv 2) pe_int) pe_int) (pe_op op_add (pe_op op_fdivW (pv 2) pe_int) pe_int)) (pv 2)))
 (pss_one (ps_ret (pe_op op_mod (pv 2) pe_int))))))
theorem der__law_common {a : Ad} (T : Txt a K mg)  {cdv : Value} {A : Around} {outer : List Env} {s : Shared} {H : Hp} {E : XK} (hr : Room 0 (A.deeper (envOfC "_law_common" (defScope s__law_common) s.heap.objs.size a.f__law_common cdv))) :
    PSs (cxOf CX0 P w K mg base N__law_common "_law_common" (defScope s__law_common) a.f__law_common cdv A outer s H E).nox (defBody s__law_common) (t__law_common K) := by

  exact (pss_cons (ps_while PassesOwn.never (pt_cmpR op_gt (pv 1) pe_int (nomark _))
 (pss_one (ps_par (by rfl) sc__law_common.nd rfl rfl (by decide) rfl rfl (pa_cons (pv 1) (pa_cons (pe_op op_mod (pv 0) (pv 1)) pa_nil)) (by rfl))))
 (pss_one (ps_ret (pv 0))))
theorem der__law_against {a : Ad} (T : Txt a K mg) (G__law_common : FnOk P w K mg base CX0 1 a.f__law_common a.d__law_common ["one", "other"] (sp__law_common K)) {cdv : Value} {A : Around} {outer : List Env} {s : Shared} {H : Hp} {E : XK} (hr : Room 1 (A.deeper (envOfC "_law_against" (defScope s__law_against) s.heap.objs.size a.f__law_against cdv))) :
    PSs (cxOf CX0 P w K mg base N__law_against "_law_against" (defScope s__law_against) a.f__law_against cdv A outer s H E).nox (defBody s__law_against) (t__law_against K) := by
  have hr__law_common := hr.mono (show 1 ≤ 1 by decide)
  exact (pss_cons (ps_for PassesOwn.never rfl (pi_list (pv 0)) (pg_tup (by rfl) (pgs_cons (pg_name (i := 1) sc__law_against.nd rfl (Or.inl rfl)) (pgs_cons (pg_name (i := 2) sc__law_against.nd rfl (Or.inl rfl)) pgs_nil)))
 (pss_one (ps_for PassesOwn.never rfl (pi_list (pv 0)) (pg_tup (by rfl) (pgs_cons (pg_name (i := 3) sc__law_against.nd rfl (Or.inl rfl)) (pgs_cons (pg_name (i := 4) sc__law_against.nd rfl (Or.inl rfl)) pgs_nil)))
 (pss_cons (ps_set (i := 5) sc__law_against.nd rfl (Or.inl rfl) (pe_call G__law_common hr__law_common (by rfl) T.g__law_common T.F__law_common.kp T.b__law_common .nil pass0 (pa_cons (pv 2) (pa_cons (pv 4) pa_nil))))
 (pss_one (ps_if (pt_cmpR op_neI (pe_op op_mod (pe_op op_sub (pv 1) (pv 3)) (pv 5)) pe_int (nomark _)) (pss_one (ps_ret pe_bl)) pss_nil))))))
 (pss_one (ps_ret pe_bl)))
theorem der_law {a : Ad} (T : Txt a K mg) (G__law_drawn : FnOk P w K mg base CX0 1 a.f__law_drawn a.d__law_drawn ["cell", "k"] (sp__law_drawn K)) (G__law_cell : FnOk P w K mg base CX0 1 a.f__law_cell a.d__law_cell ["script", "k"] (sp__law_cell K)) (G_met : FnOk P w K mg base CX0 2 a.f_met a.d_met ["pairs"] (sp_met K)) (G__law_against : FnOk P w K mg base CX0 2 a.f__law_against a.d__law_against ["pairs"] (sp__law_against K)) (G__law_common : FnOk P w K mg base CX0 1 a.f__law_common a.d__law_common ["one", "other"] (sp__law_common K)) {cdv : Value} {A : Around} {outer : List Env} {s : Shared} {H : Hp} {E : XK} (hr : Room 2 (A.deeper (envOfC "law" (defScope s_law) s.heap.objs.size a.f_law cdv))) :
    PSs (cxOf CX0 P w K mg base N_law "law" (defScope s_law) a.f_law cdv A outer s H E).nox (defBody s_law) (t_law K) := by
  have hr__law_drawn := hr.mono (show 1 ≤ 2 by decide)
  have hr__law_cell := hr.mono (show 1 ≤ 2 by decide)
  have hr_met := hr.mono (show 2 ≤ 2 by decide)
  have hr__law_against := hr.mono (show 2 ≤ 2 by decide)
  have hr__law_common := hr.mono (show 1 ≤ 2 by decide)
  exact (pss_cons (ps_for PassesOwn.never rfl (pi_range1 (by rfl) T.z_range (pa_cons (pe_callB (call_max2 rfl) (by rfl) T.z_max (by decide +kernel) (pa_cons pe_int (pa_cons (pe_callB (call_min2 rfl) (by rfl) T.z_min (by decide +kernel) (pa_cons pe_int (pa_cons (pe_callB call_len_seq (by rfl) T.z_len (by decide +kernel) (pa_cons (pv 0) pa_nil)) pa_nil))) pa_nil))) pa_nil)) (pg_name (i := 1) sc_law.nd rfl (Or.inl rfl))
 (pss_cons (ps_set (i := 2) sc_law.nd rfl (Or.inl rfl) (pe_call G__law_drawn hr__law_drawn (by rfl) T.g__law_drawn T.F__law_drawn.kp T.b__law_drawn .nil pass0 (pa_cons (pe_call G__law_cell hr__law_cell (by rfl) T.g__law_cell T.F__law_cell.kp T.b__law_cell .nil pass0 (pa_cons (pv 0) (pa_cons (pv 1) pa_nil))) (pa_cons (pv 1) pa_nil))))
 (pss_cons (ps_set (i := 3) sc_law.nd rfl (Or.inl rfl) (pe_op op_mod (pe_op op_fdivW (pv 2) pe_int) (pe_op op_pow pe_int pe_int)))
 (pss_cons (ps_set (i := 4) sc_law.nd rfl (Or.inl rfl) (pe_lst pa_nil))
 (pss_cons (ps_for PassesOwn.never rfl (pi_range1 (by rfl) T.z_range (pa_cons (pe_op op_mod (pv 2) pe_int) pa_nil)) (pg_name (i := 5) sc_law.nd rfl (Or.inl rfl))
 (pss_cons (ps_set (i := 6) sc_law.nd rfl (Or.inl rfl) (pe_call G__law_drawn hr__law_drawn (by rfl) T.g__law_drawn T.F__law_drawn.kp T.b__law_drawn .nil pass0 (pa_cons (pv 2) (pa_cons (pe_op op_add pe_int (pv 5)) pa_nil))))
 (pss_cons (ps_set (i := 7) sc_law.nd rfl (Or.inl rfl) (pe_op op_add pe_int (pe_op op_mod (pv 6) (pe_ix ix_list (pe_lst (pa_cons pe_int (pa_cons pe_int (pa_cons pe_int pa_nil)))) (pe_op op_mod (pe_op op_fdivW (pv 2) pe_int) pe_int) (fun _ _ => rfl)))))
 (pss_cons (ps_set (i := 8) sc_law.nd rfl (Or.inl rfl) (pe_ix ix_list (pe_lst (pa_cons (pe_op op_mod (pv 3) (pv 7)) (pa_cons (pe_op op_mod (pe_op op_fdivW (pv 6) pe_int) (pv 7)) pa_nil))) (pe_callTy call_int1 (by rfl) T.z_int (by decide +kernel) (pa_cons (pe_cmpR op_eqI (pe_op op_mod (pe_op op_fdivW (pv 6) (pe_op op_pow pe_int pe_int)) pe_int) pe_int (nomark _)) pa_nil)) (fun _ _ => rfl)))
 (pss_one (ps_expr (pe_bm PySem.F.plainAttrs_list PySem.F.slot_list_append PySem.F.type_list_append mt_append (pv 4) (pa_cons (pe_tup (pa_cons (pv 8) (pa_cons (pv 7) pa_nil))) pa_nil))))))))
 (pss_cons (ps_par (by rfl) sc_law.nd rfl rfl (by decide) rfl rfl (pa_cons (pe_callTy call_list_of (by rfl) T.z_list (by decide +kernel) (pa_cons (pv 4) pa_nil)) (pa_cons (pe_call G_met hr_met (by rfl) T.g_met T.F_met.kp T.b_met .nil pass0 (pa_cons (pv 4) pa_nil)) pa_nil)) (by rfl))
 (pss_cons (ps_if (PW.pt (pw_or (pt_cmpR (op_neD hr.units) (pv 4) (pv 9) (nomark _)) (pw_or1 (pt_cmpR (op_neD hr.units) (pe_call G_met hr_met (by rfl) T.g_met T.F_met.kp T.b_met .nil pass0 (pa_cons (pe_revL (pv 4)) pa_nil)) (pv 10) (nomark _))))) (pss_one (ps_ret pe_bl)) pss_nil)
 (pss_cons (ps_if (pt_cmpR op_neB (pe_cmpR op_isN (pv 10) pe_non (nomark _)) (pe_call G__law_against hr__law_against (by rfl) T.g__law_against T.F__law_against.kp T.b__law_against .nil pass0 (pa_cons (pv 4) pa_nil)) (nomark _)) (pss_one (ps_ret pe_bl)) pss_nil)
 (pss_cons (ps_if (pt_cmpR op_isN (pv 10) pe_non (nomark _)) (pss_one ps_continue) pss_nil)
 (pss_cons (ps_set (i := 11) sc_law.nd rfl (Or.inl rfl) pe_int)
 (pss_cons (ps_for PassesOwn.never rfl (pi_list (pv 4)) (pg_tup (by rfl) (pgs_cons (pg_name (i := 8) sc_law.nd rfl (Or.inl rfl)) (pgs_cons (pg_name (i := 7) sc_law.nd rfl (Or.inl rfl)) pgs_nil)))
 (pss_cons (ps_if (pt_cmpR op_neI (pe_op op_mod (pe_ix ix_tup (pv 10) pe_int (fun _ _ => rfl)) (pv 7)) (pv 8) (nomark _)) (pss_one (ps_ret pe_bl)) pss_nil)
 (pss_one (ps_set (i := 11) sc_law.nd rfl (Or.inl rfl) (pe_op op_fdivW (pe_op op_mulA (pv 11) (pv 7)) (pe_call G__law_common hr__law_common (by rfl) T.g__law_common T.F__law_common.kp T.b__law_common .nil pass0 (pa_cons (pv 11) (pa_cons (pv 7) pa_nil))))))))
 (pss_one (ps_if (PW.pt (pw_or (pt_cmpR op_neI (pe_ix ix_tup (pv 10) pe_int (fun _ _ => rfl)) (pv 11) (nomark _)) (pw_or1 (pt_not (pt_chain op_le op_lt pe_int (pe_ix ix_tup (pv 10) pe_int (fun _ _ => rfl)) (pv 11)))))) (pss_one (ps_ret pe_bl)) pss_nil)))))))))))))
 (pss_one (ps_ret (pe_cmpR (op_eqD hr.units) (pe_call G_met hr_met (by rfl) T.g_met T.F_met.kp T.b_met .nil pass0 (pa_cons (pe_lst pa_nil) pa_nil)) (pe_tup (pa_cons pe_int (pa_cons pe_int pa_nil))) (nomark _)))))
end
end K62

namespace K62
open PySem PySem.Spec PyProof.Rows L2 Evl Sw
local macro_rules | `(tactic| walk_at "mul") => `(tactic| first | exact mul_r (by omega) | exact mul_l (by omega) | exact mul_w (by omega) (by omega))
local macro_rules | `(tactic| walk_at "div") => `(tactic| exact div_ok (by omega) (by omega))
local macro_rules | `(tactic| walk_at "mod") => `(tactic| (show (0 : Int) < _; omega))
section
variable {K : PySem.W.Frag}
theorem len_is_pair {vs : List V} {H : Hp} {Q : VK} {E : XK} (h : sp_is_pair K vs H Q E) : vs.length = 1 := by
  obtain ⟨_, _, rfl, _⟩ := h
  rfl
theorem len_met {vs : List V} {H : Hp} {Q : VK} {E : XK} (h : sp_met K vs H Q E) : vs.length = 1 := by
  obtain ⟨_, _, rfl, _⟩ := h
  rfl
theorem len__law_common {vs : List V} {H : Hp} {Q : VK} {E : XK} (h : sp__law_common K vs H Q E) : vs.length = 2 := len_common h
theorem len__law_against {vs : List V} {H : Hp} {Q : VK} {E : XK} (h : sp__law_against K vs H Q E) : vs.length = 1 := by
  obtain ⟨_, _, rfl, _⟩ := h
  rfl
theorem len_law {vs : List V} {H : Hp} {Q : VK} {E : XK} (h : sp_law K vs H Q E) : vs.length = 1 := by
  obtain ⟨_, _, rfl, _⟩ := h
  rfl
theorem pure__law_common (vs : List V) (H : Hp) (Q : VK) (E : XK) (h : sp__law_common K vs H Q E) : t__law_common K (EndOf Q) (start N__law_common vs) H := pure_common vs H Q E h
/-- a pair's tuple -/
theorem pair_in {H : Hp} {v : V} {q : Int × Int} (h : Dp K H v (pairD q)) : ∃ a, v = .ref a ∧ SqT K H a [.int q.1, .int q.2] := by
  unfold pairD at h
  cases h with
  | tup hs hd =>
    cases hd with
    | cons h1 h2 =>
      cases h2 with
      | cons h3 h4 =>
        cases h1; cases h3; cases h4
        exact ⟨_, rfl, hs⟩
theorem pairs_in {H : Hp} {v : V} {ps : List (Int × Int)} (h : Dp K H v (pairsD ps)) : ∃ a ts, v = .ref a ∧ SqL K H a ts ∧ DpAll K H ts (ps.map pairD) := by
  unfold pairsD at h
  cases h with
  | lst hs hd => exact ⟨_, _, rfl, hs, hd⟩
theorem pairs_at {H : Hp} {ts : List V} {ps : List (Int × Int)} (h : DpAll K H ts (ps.map pairD)) {i : Nat} {v : V} (hv : ts[i]? = some v) : ∃ q, ps[i]? = some q ∧ q ∈ ps ∧ Dp K H v (pairD q) := by
  obtain ⟨d, h1, h2⟩ := dpAll_get h hv
  rw [List.getElem?_map] at h1
  cases e : ps[i]? with
  | none => rw [e] at h1; cases h1
  | some q =>
    rw [e] at h1
    cases h1
    exact ⟨q, rfl, List.mem_of_getElem? e, h2⟩
theorem pairs_len {H : Hp} {ts : List V} {ps : List (Int × Int)} (h : DpAll K H ts (ps.map pairD)) : ts.length = ps.length := by
  have e := dpAll_len h
  rw [List.length_map] at e
  exact e
/-! ### is_pair -/
theorem pure_is_pair (vs : List V) (H : Hp) (Q : VK) (E : XK) (h : sp_is_pair K vs H Q E) : t_is_pair K (EndOf Q) (start N_is_pair vs) H := by
  obtain ⟨v, q, rfl, hd, ok, k⟩ := h
  obtain ⟨a, rfl, hT⟩ := pair_in hd
  obtain ⟨r, m⟩ := q
  obtain ⟨o1, o2, o3, o4⟩ := ok
  have o1 : 1 ≤ m := o1
  have o2 : m ≤ 2000 := o2
  have o3 : 0 ≤ r := o3
  have o4 : r < m := o4
  refine q_when (b := false) (et_is (et_or (et_not (et_B (ev_isi (ev_var rfl) hd))) fun _ => et_test (ev_op (ev_lenT (ev_var rfl) hT) ev_c rv_I0)) rfl) (fun hb => Bool.noConfusion hb) (fun _ H1 e1 => ?_)
  refine ⟨.ref a, rfl, g_pair (ex_t e1 hT) ?_⟩
  show tSeq _ _ _ [some (.ref a), some (.int r), some (.int m), none] H1
  refine q_when (b := false) (et_is (et_B (ev_anyL (bs := [false, false]) (el_is (el_lcT (fun _ => true) (fun _ => .bl false) (ev_var rfl) (ex_t e1 hT) (Nat.le_of_ble_eq_true rfl) (fun _ => rfl) (fun i x H2 e2 hx => et_yes) (fun i x H2 e2 hx _ => ?_)) rfl))) rfl) (fun hb => Bool.noConfusion hb) (fun _ H2 e2 => ?_)
  · have hx' : ∃ n : Int, x = .int n := by
      match i, hx with
      | 0, hx => exact ⟨r, (Option.some.inj hx).symm⟩
      | 1, hx => exact ⟨m, (Option.some.inj hx).symm⟩
    obtain ⟨n, rfl⟩ := hx'
    exact ev_is (ev_orV (ev_notV (ev_isi (ev_var rfl) (.int n))) fun _ => ev_isi (ev_var rfl) (.int n)) rfl
  · refine s_ret (ev_andV (ev_chain ev_c (ev_var rfl) rv_I0 ev_c rv_I0) fun _ => ev_chain ev_c (ev_var rfl) rv_I0 (ev_var rfl) rv_I0) fun H3 e3 => ?_
    have z := k H3 ((e1.trans e2).trans e3)
    rw [decide_eq_true o1, decide_eq_true o2, decide_eq_true o3, decide_eq_true o4]
    exact z
theorem sv_is_pair {H : Hp} {v : V} {q : Int × Int} (hd : Dp K H v (pairD q)) (ok : okP q) : SpV (sp_is_pair K) [v] H (.bl true) := fun H1 e Q k E => ⟨v, q, rfl, dp_ex (e := e) hd, ok, fun H2 e2 => k H2 e2⟩
/-! ### met -/
theorem pure_met (vs : List V) (H : Hp) (Q : VK) (E : XK) (h : sp_met K vs H Q E) : t_met K (EndOf Q) (start N_met vs) H := by
  obtain ⟨v, ps, rfl, hd, h6, ok, k⟩ := h
  obtain ⟨a, ts, rfl, hS, hA⟩ := pairs_in hd
  have hlen : ts.length = ps.length := pairs_len hA
  refine q_when (b := false) (et_is (et_or (et_not (et_B (ev_isi (ev_var rfl) hd))) fun _ => et_or (et_test (ev_op (ev_len (ev_var rfl) hS) ev_c rv_I0)) fun _ => et_not (et_B (ev_allL (bs := (List.range ts.length).map fun _ => true) (el_is (el_lcL (fun _ => true) (fun _ => .bl true) (ev_var rfl) hS (by omega) (fun _ => rfl) (fun i x H2 e2 hx => et_yes) (fun i x H2 e2 hx _ => ?_)) (given_bl _ _))))) ?_) (fun hb => Bool.noConfusion hb) (fun _ H1 e1 => ?_)
  · obtain ⟨q, _, hq, hdq⟩ := pairs_at hA hx
    exact ev_call (ea_cons (ev_var rfl) ea_nil) (sv_is_pair (dp_ex (e := e2) hdq) (ok q hq))
  · have h1 : ¬ (6 : Int) < (ts.length : Int) := by omega
    have h2 : ((List.range ts.length).map fun _ => true).all id = true := by simp
    rw [decide_eq_false h1, h2]
    rfl
  -- rest, modulus = 0, 1
  refine q_asgUT (ea_cons ev_c (ea_cons ev_c ea_nil)) fun H2 e2 => ?_
  show tSeq _ _ _ [some (.ref a), some (.int 0), some (.int 1), none, none, none, none, none] H2
  have eH2 : Ex H H2 := e1.trans e2
  clear e1 e2
  refine q_forL (xs := ts) (ev_var rfl) (ex_l eH2 hS) (fun i σ' H' => ∃ (R M : Int) (y3 y4 y5 y6 y7 : Option V), σ' = [some (.ref a), some (.int R), some (.int M), y3, y4, y5, y6, y7] ∧ IsMet (ps.take i) R M ∧ Ex H H')
    (fun H3 e3 => ⟨0, 1, none, none, none, none, none, rfl, isMet_nil, eH2.trans e3⟩) (fun i σ' H' hi ⟨R, M, y3, y4, y5, y6, y7, e, _, e'⟩ => ex_l e' hS) ?_ ?_
  · rintro i x σ' H' hx ⟨R, M, y3, y4, y5, y6, y7, rfl, hM, e'⟩
    obtain ⟨q, hqi, hq, hdq⟩ := pairs_at hA hx
    have okq := ok q hq
    obtain ⟨b, rfl, hT⟩ := pair_in (dp_ex (e := e') hdq)
    obtain ⟨r, o⟩ := q
    have o1 : 1 ≤ o := okq.1
    have o2 : o ≤ 2000 := okq.2.1
    have o3 : 0 ≤ r := okq.2.2.1
    have o4 : r < o := okq.2.2.2
    have okpre : ∀ q ∈ ps.take i, okP q := fun q hq => ok q (List.mem_of_mem_take hq)
    have hMp := hM.l.pos
    have gp : 0 < gcdI M o := gcd_pos (by omega)
    have gl : gcdI M o ≤ o := gcd_le (by omega)
    refine g_pair hT ?_
    show tSeq _ _ _ [some (.ref a), some (.int R), some (.int M), some (.int r), some (.int o), y5, y6, y7] H'
    refine q_asg (ev_call (ea_cons (ev_var rfl) (ea_cons (ev_var rfl) ea_nil)) (sv_common (by omega) (by omega))) fun H3 e3 => ?_
    show tSeq _ _ _ [some (.ref a), some (.int R), some (.int M), some (.int r), some (.int o), some (.int (gcdI M o)), y6, y7] H3
    refine q_when (et_test (ev_op (ev_op (ev_op (ev_var rfl) (ev_var rfl) rv_I0) (ev_var rfl) (rv_I gp)) ev_c rv_I0)) (fun hb H4 e4 => ?_) (fun hb H4 e4 => ?_)
    · -- none
      have hne : (r - R) % gcdI M o ≠ 0 := by simpa using hb
      refine s_ret ev_c fun H5 e5 => ?_
      have hno : ¬ ∃ x, Sol ps x := by
        have e := no_sol (more := ps.drop (i + 1)) hM okpre okq hne
        have e2 : ps.take i ++ (r, o) :: ps.drop (i + 1) = ps := by
          have hi : i < ps.length := (List.getElem?_eq_some_iff.mp hqi).1
          have h1 : ps[i] = (r, o) := (List.getElem?_eq_some_iff.mp hqi).2
          rw [← h1, ← List.drop_eq_getElem_cons hi, List.take_append_drop]
        rwa [e2] at e
      refine k .non H5 (((e'.trans e3).trans e4).trans e5) ?_
      rw [metD_none hno]
      exact .non
    · have hd0 : (r - R) % gcdI M o = 0 := by simpa using hb
      obtain ⟨s0, hs0, hs1, hs2⟩ := seek hMp (show 0 < o by omega) (emod0.mp hd0)
      have hs3 : o / gcdI M o ≤ o := Int.ediv_le_self _ (by omega)
      refine q_asg ev_c fun H5 e5 => ?_
      show tSeq _ _ _ [some (.ref a), some (.int R), some (.int M), some (.int r), some (.int o), some (.int (gcdI M o)), some (.int 0), y7] H5
      have e'5 : Ex H H5 := ((e'.trans e3).trans e4).trans e5
      clear e3 e4 e5
      refine q_while (fun m σ2 H2 => ∃ s : Int, σ2 = [some (.ref a), some (.int R), some (.int M), some (.int r), some (.int o), some (.int (gcdI M o)), some (.int s), y7] ∧ 0 ≤ s ∧ s ≤ s0 ∧ m = (s0 - s).toNat ∧ Ex H H2) s0.toNat ⟨0, rfl, by omega, hs0, by omega, e'5⟩ ?_
      rintro m σ2 H2 ⟨s, rfl, h0, h1, rfl, e6⟩
      refine ⟨_, et_test (ev_op (ev_op (ev_op (ev_op (ev_var rfl) (ev_op (ev_var rfl) (ev_var rfl) (rv_I (mul_l (by omega)))) rv_I0) (ev_var rfl) rv_I0) (ev_var rfl) (rv_I (show 0 < o by omega))) ev_c rv_I0), fun hb H3 e3 => ?_, fun hb H3 e3 => ?_⟩
      · have hne : (R + s * M - r) % o ≠ 0 := by simpa using hb
        have hlt : s < s0 := by
          by_cases z : s = s0
          · subst z
            exact absurd (emod0.mpr hs2) hne
          · omega
        refine ⟨fun σ3 H4 => σ3 = [some (.ref a), some (.int R), some (.int M), some (.int r), some (.int o), some (.int (gcdI M o)), some (.int (s + 1)), y7] ∧ Ex H H4, ?_, s_asg (ev_op (ev_var rfl) ev_c rv_I0) fun H4 e4 => ⟨rfl, (e6.trans e3).trans e4⟩⟩
        rintro σ3 H4 ⟨rfl, e7⟩
        exact ⟨(s0 - (s + 1)).toNat, by omega, s + 1, rfl, by omega, by omega, rfl, e7⟩
      · have hz : (R + s * M - r) % o = 0 := by simpa using hb
        refine q_asg (ev_op (ev_var rfl) (ev_op (ev_var rfl) (ev_var rfl) (rv_I (mul_l (by omega)))) rv_I0) fun H4 e4 => ?_
        show tAsg _ _ _ [some (.ref a), some (.int (R + s * M)), some (.int M), some (.int r), some (.int o), some (.int (gcdI M o)), some (.int s), y7] H4
        refine s_asg (ev_op (ev_op (ev_var rfl) (ev_var rfl) (rv_I (div_ok gp (by omega)))) (ev_var rfl) (rv_I (mul_r (by omega)))) fun H5 e5 => ?_
        refine ⟨R + s * M, M / gcdI M o * o, _, _, _, _, _, rfl, ?_, ((e6.trans e3).trans e4).trans e5⟩
        have hi : i < ps.length := (List.getElem?_eq_some_iff.mp hqi).1
        have h1 : ps[i] = (r, o) := (List.getElem?_eq_some_iff.mp hqi).2
        rw [List.take_add_one, hqi]
        exact met_snoc hM okpre okq h0 (by omega) hz
  · rintro σ' H' ⟨R, M, y3, y4, y5, y6, y7, rfl, hM, e'⟩
    have hM : IsMet ps R M := by
      rw [hlen, List.take_length] at hM
      exact hM
    refine s_retU (eu_tup (ea_cons (ev_var rfl) (ea_cons (ev_var rfl) ea_nil)) (Nat.le_of_ble_eq_true rfl)) fun p H2 np e2 hp => ?_
    refine k (.ref p) H2 (e'.trans e2) ?_
    rw [metD_some ok hM]
    exact .tup (st_of hp) (.cons (.int R) (.cons (.int M) .nil))
/-! ### _law_against -/
open Classical in
theorem pure__law_against (vs : List V) (H : Hp) (Q : VK) (E : XK) (h : sp__law_against K vs H Q E) : t__law_against K (EndOf Q) (start N__law_against vs) H := by
  obtain ⟨v, ps, rfl, hd, ok, k⟩ := h
  obtain ⟨a, ts, rfl, hS, hA⟩ := pairs_in hd
  have hlen : ts.length = ps.length := pairs_len hA
  refine q_forL (xs := ts) (ev_var rfl) hS (fun i σ' H' => ∃ (y1 y2 y3 y4 y5 : Option V), σ' = [some (.ref a), y1, y2, y3, y4, y5] ∧ (∀ p ∈ ps.take i, ∀ q ∈ ps, (p.1 - q.1) % gcdI p.2 q.2 = 0) ∧ Ex H H')
    (fun H3 e3 => ⟨none, none, none, none, none, rfl, by simp, e3⟩) (fun i σ' H' hi ⟨y1, y2, y3, y4, y5, e, _, e'⟩ => ex_l e' hS) ?_ ?_
  · rintro i x σ' H' hx ⟨y1, y2, y3, y4, y5, rfl, hall, e'⟩
    obtain ⟨p, hpi, hp, hdp⟩ := pairs_at hA hx
    have okp := ok p hp
    obtain ⟨b, rfl, hT⟩ := pair_in (dp_ex (e := e') hdp)
    refine g_pair hT ?_
    show tFor _ _ _ _ [some (.ref a), some (.int p.1), some (.int p.2), y3, y4, y5] H'
    refine s_forL (xs := ts) (ev_var rfl) (ex_l e' hS) (fun j σ2 H2 => ∃ (y3 y4 y5 : Option V), σ2 = [some (.ref a), some (.int p.1), some (.int p.2), y3, y4, y5] ∧ (∀ q ∈ ps.take j, (p.1 - q.1) % gcdI p.2 q.2 = 0) ∧ Ex H H2)
      (fun H3 e3 => ⟨y3, y4, y5, rfl, by simp, e'.trans e3⟩) (fun j σ2 H2 hj ⟨y3, y4, y5, e, _, e2⟩ => ex_l e2 hS) ?_ ?_
    · rintro j x σ2 H2 hx2 ⟨y3, y4, y5, rfl, hall2, e2⟩
      obtain ⟨q, hqj, hq, hdq⟩ := pairs_at hA hx2
      have okq := ok q hq
      obtain ⟨b2, rfl, hT2⟩ := pair_in (dp_ex (e := e2) hdq)
      have p1 : 1 ≤ p.2 := okp.1
      have q1 : 1 ≤ q.2 := okq.1
      have gp : 0 < gcdI p.2 q.2 := gcd_pos (by omega)
      refine g_pair hT2 ?_
      show tSeq _ _ _ [some (.ref a), some (.int p.1), some (.int p.2), some (.int q.1), some (.int q.2), y5] H2
      refine q_asg (ev_call (ea_cons (ev_var rfl) (ea_cons (ev_var rfl) ea_nil)) (sv_common (by omega) (by omega))) fun H3 e3 => ?_
      show tIfS _ _ _ _ [some (.ref a), some (.int p.1), some (.int p.2), some (.int q.1), some (.int q.2), some (.int (gcdI p.2 q.2))] H3
      refine s_when (et_test (ev_op (ev_op (ev_op (ev_var rfl) (ev_var rfl) rv_I0) (ev_var rfl) (rv_I gp)) ev_c rv_I0)) (fun hb H4 e4 => ?_) (fun hb H4 e4 => ?_)
      · have hne : (p.1 - q.1) % gcdI p.2 q.2 ≠ 0 := by simpa using hb
        refine s_ret ev_c fun H5 e5 => ?_
        have z := k H5 (((e2.trans e3).trans e4).trans e5)
        rw [decide_eq_true (show Against ps from ⟨p, hp, q, hq, hne⟩)] at z
        exact z
      · have hz : (p.1 - q.1) % gcdI p.2 q.2 = 0 := by simpa using hb
        refine ⟨_, _, _, rfl, fun q' hq' => ?_, (e2.trans e3).trans e4⟩
        rw [List.take_add_one, hqj] at hq'
        rcases List.mem_append.mp hq' with h | h
        · exact hall2 q' h
        · have : q' = q := by simpa using h
          rw [this]
          exact hz
    · rintro σ2 H2 ⟨y3, y4, y5, rfl, hall2, e2⟩
      rw [hlen, List.take_length] at hall2
      refine ⟨_, _, _, _, _, rfl, fun p' hp' => ?_, e2⟩
      rw [List.take_add_one, hpi] at hp'
      rcases List.mem_append.mp hp' with h | h
      · exact hall p' h
      · have : p' = p := by simpa using h
        rw [this]
        exact hall2
  · rintro σ' H' ⟨y1, y2, y3, y4, y5, rfl, hall, e'⟩
    rw [hlen, List.take_length] at hall
    refine s_ret ev_c fun H5 e5 => ?_
    have z := k H5 (e'.trans e5)
    rw [decide_eq_false (show ¬ Against ps from fun ⟨p, hp, q, hq, h⟩ => h (hall p hp q hq))] at z
    exact z
theorem sd_met {H : Hp} {v : V} {ps : List (Int × Int)} (hd : Dp K H v (pairsD ps)) (h6 : ps.length ≤ 6) (ok : ∀ q ∈ ps, okP q) : SpD K (sp_met K) [v] H (metD ps) := fun H1 e Q k E => ⟨v, ps, rfl, dp_ex (e := e) hd, h6, ok, k⟩
open Classical in
theorem sv_against {H : Hp} {v : V} {ps : List (Int × Int)} (hd : Dp K H v (pairsD ps)) (ok : ∀ q ∈ ps, okP q) : SpV (sp__law_against K) [v] H (.bl (decide (Against ps))) := fun H1 e Q k E => ⟨v, ps, rfl, dp_ex (e := e) hd, ok, fun H2 e2 => k H2 e2⟩
/-! ### the law -/
theorem canLay_pairs : ∀ (ps : List (Int × Int)), PyData.canLayAll0 (ps.map pairD) = true
  | [] => rfl
  | a :: r => by
    simp only [List.map_cons, PyData.canLayAll0, canLay_pairs r, Bool.and_true]
    rfl
theorem depth_pairs : ∀ (ps : List (Int × Int)), PyData.depthAll (ps.map pairD) ≤ 1
  | [] => by decide
  | a :: r => by
    simp only [List.map_cons, PyData.depthAll]
    have h := depth_pairs r
    have e : (pairD a).depth = 1 := rfl
    rw [e]
    omega
theorem shaped_pairs (ps : List (Int × Int)) : SeqAt.shaped (pairsD ps) = true := by
  unfold SeqAt.shaped pairsD
  simp only [PyData.canLay0, PyData.depth, canLay_pairs, Bool.true_and]
  have := depth_pairs ps
  exact decide_eq_true (by omega)
theorem shaped_met (ps : List (Int × Int)) : SeqAt.shaped (metD ps) = true := by
  unfold metD
  split <;> rfl
theorem metD_rev {ps : List (Int × Int)} (ok : ∀ q ∈ ps, okP q) : metD ps.reverse = metD ps := by
  have okr : ∀ q ∈ ps.reverse, okP q := fun q h => ok q (List.mem_reverse.mp h)
  by_cases h : ∃ x : Int × Int, IsMet ps x.1 x.2
  · obtain ⟨x, a⟩ := h
    have a2 : IsMet ps.reverse x.1 x.2 := met_rev (by rw [List.reverse_reverse]; exact a)
    rw [metD_some ok a, metD_some okr a2]
  · have h2 : ¬ ∃ x : Int × Int, IsMet ps.reverse x.1 x.2 := fun ⟨x, a⟩ => h ⟨x, met_rev a⟩
    unfold metD
    rw [dif_neg h, dif_neg h2]
theorem met_cases {ps : List (Int × Int)} (ok : ∀ q ∈ ps, okP q) : (metD ps = .none ∧ Against ps) ∨ (¬ Against ps ∧ ∃ R M, metD ps = .tuple [.int R, .int M] ∧ IsMet ps R M) := by
  by_cases h : Against ps
  · exact .inl ⟨metD_none (against_no ok h), h⟩
  · obtain ⟨R, M, a⟩ := crt ps [] 0 1 isMet_nil ok h
    exact .inr ⟨h, R, M, metD_some ok a, a⟩
theorem mul_div_gcd {W m : Int} (h : 0 < m) : W * m / gcdI W m = W / gcdI W m * m := by
  obtain ⟨w', e⟩ := gcd_dl W m
  have gp : 0 < gcdI W m := gcd_pos h
  have e1 : W / gcdI W m = w' := by
    conv => lhs; lhs; rw [e]
    exact Int.mul_ediv_cancel_left _ (by omega)
  rw [e1]
  have e2 : W * m = gcdI W m * (w' * m) := by
    conv => lhs; lhs; rw [e]
    rw [Int.mul_assoc]
  rw [e2]
  exact Int.mul_ediv_cancel_left _ (by omega)
open Classical in
theorem pure_law (vs : List V) (H : Hp) (Q : VK) (E : XK) (h : sp_law K vs H Q E) : t_law K (EndOf Q) (start N_law vs) H := by
  obtain ⟨a, ns, rfl, hS, hl, q⟩ := h
  refine q_forR1 (ea_cons (ev_mx2 ev_c (ev_mn2 ev_c (ev_len (ev_var rfl) hS))) ea_nil) (by split <;> split <;> omega)
    (fun i σ' H' => ∃ y1 y2 y3 y4 y5 y6 y7 y8 y9 y10 y11 : Option V, σ' = [some (.ref a), y1, y2, y3, y4, y5, y6, y7, y8, y9, y10, y11] ∧ Ex H H')
    (fun H1 e1 => ⟨_, _, _, _, _, _, _, _, _, _, _, rfl, e1⟩) ?_ ?_
  · rintro k σ' H' - ⟨y1, y2, y3, y4, y5, y6, y7, y8, y9, y10, y11, rfl, e⟩
    show tSeq _ _ _ [some (.ref a), some (.int k), y2, y3, y4, y5, y6, y7, y8, y9, y10, y11] H'
    refine q_asg (ev_call (ea_cons (ev_call (ea_cons (ev_var rfl) (ea_cons (ev_var rfl) ea_nil)) (sv_cell (ex_l e hS) hl)) (ea_cons (ev_var rfl) ea_nil)) sv_drawn) fun H1 e1 => ?_
    show tSeq _ _ _ [some (.ref a), some (.int k), some (.int (drawnF (cellF ns k) k)), y3, y4, y5, y6, y7, y8, y9, y10, y11] H1
    have m0 : 0 ≤ drawnF (cellF ns k) k := drawn_nn _ _
    generalize drawnF (cellF ns k) k = more at m0
    refine q_asg (ev_op (ev_op (ev_var rfl) ev_c (rv_I (by walk_at "div"))) (ev_op ev_c ev_c (rv_I ⟨by decide, by decide, by decide⟩)) (rv_I (show (0 : Int) < 10 ^ (9 : Int).toNat by decide))) fun H2 e2 => ?_
    show tSeq _ _ _ [some (.ref a), some (.int k), some (.int more), some (.int (more / 64 % 10 ^ (9 : Int).toNat)), y4, y5, y6, y7, y8, y9, y10, y11] H2
    generalize more / 64 % 10 ^ (9 : Int).toNat = number
    refine q_asgL (el_lst ea_nil (Nat.le_of_ble_eq_true rfl)) fun o H3 no e3 ho => ?_
    show tSeq _ _ _ [some (.ref a), some (.int k), some (.int more), some (.int number), some (.ref o), y5, y6, y7, y8, y9, y10, y11] H3
    have e02 : Ex H H2 := (e.trans e1).trans e2
    have e03 : Ex H H3 := e02.trans e3
    have noH : H o = none := fresh_back e02 no
    have m7a := Int.emod_nonneg more (show (7 : Int) ≠ 0 by decide)
    have m7b := Int.emod_lt_of_pos more (show (0 : Int) < 7 by decide)
    refine q_forR1 (ea_cons (ev_op (ev_var rfl) ev_c (rv_I (show (0 : Int) < 7 by decide))) ea_nil) (by omega)
      (fun i σ' H' => ∃ (ts : List V) (ps : List (Int × Int)) (y5 y6 y7 y8 y9 y10 y11 : Option V), σ' = [some (.ref a), some (.int k), some (.int more), some (.int number), some (.ref o), y5, y6, y7, y8, y9, y10, y11] ∧ Ex H H' ∧ H' o = some (.lst ts) ∧ DpAll K (hid H' o) ts (ps.map pairD) ∧ ps.length = i ∧ ∀ q ∈ ps, okP q)
      (fun H4 e4 => ⟨[], [], _, _, _, _, _, _, _, rfl, e03.trans e4, e4 _ _ ho, .nil, rfl, (fun _ h => nomatch h)⟩) ?_ ?_
    · rintro j σ' H' hj ⟨ts, ps, y5, y6, y7, y8, y9, y10, y11, rfl, e4, ho4, hA, hl4, ok⟩
      show tSeq _ _ _ [some (.ref a), some (.int k), some (.int more), some (.int number), some (.ref o), some (.int j), y6, y7, y8, y9, y10, y11] H'
      refine q_asg (ev_call (ea_cons (ev_var rfl) (ea_cons (ev_op ev_c (ev_var rfl) rv_I0) ea_nil)) sv_drawn) fun H5 e5 => ?_
      show tSeq _ _ _ [some (.ref a), some (.int k), some (.int more), some (.int number), some (.ref o), some (.int j), some (.int (drawnF more (10 + j))), y7, y8, y9, y10, y11] H5
      have w0 : 0 ≤ drawnF more (10 + j) := drawn_nn _ _
      generalize drawnF more (10 + j) = here at w0
      obtain ⟨wv, hw, hwc⟩ := at3 (x := .int 6) (y := .int 30) (z := .int 2000) (i := more / 8 % 3) (Int.emod_nonneg _ (by decide)) (Int.emod_lt_of_pos _ (by decide))
      obtain ⟨m, rfl, hm1, hm2⟩ : ∃ m : Int, wv = .int m ∧ 1 ≤ m ∧ m ≤ 2000 := by
        rcases hwc with ⟨_, rfl⟩ | ⟨_, rfl⟩ | ⟨_, rfl⟩
        · exact ⟨6, rfl, by decide, by decide⟩
        · exact ⟨30, rfl, by decide, by decide⟩
        · exact ⟨2000, rfl, by decide, by decide⟩
      refine q_asg (ev_op ev_c (ev_op (ev_var rfl) (ev_opL1 (el_lst (ea_cons ev_c (ea_cons ev_c (ea_cons ev_c ea_nil))) (Nat.le_of_ble_eq_true rfl)) (fun _ _ => ev_op (ev_op (ev_var rfl) ev_c (rv_I (by walk_at "div"))) ev_c (rv_I (show (0 : Int) < 3 by decide))) fun _ _ h _ => rv_ixL (K := K) (sq_of h) hw) (rv_I (show 0 < m by omega))) rv_I0) fun H6 e6 => ?_
      show tSeq _ _ _ [some (.ref a), some (.int k), some (.int more), some (.int number), some (.ref o), some (.int j), some (.int here), some (.int (1 + here % m)), y8, y9, y10, y11] H6
      have u1 : 1 ≤ 1 + here % m := by have := Int.emod_nonneg here (show m ≠ 0 by omega); omega
      have u2 : 1 + here % m ≤ 2000 := by have := Int.emod_lt_of_pos here (show 0 < m by omega); omega
      generalize 1 + here % m = md at u1 u2
      obtain ⟨rv, hr, hrc⟩ := at2 (x := .int (number % md)) (y := .int (here / 4096 % md)) (i := if decide (here / 2 ^ (40 : Int).toNat % 6 = 0) then 1 else 0) (by split <;> omega) (by split <;> omega)
      obtain ⟨r, rfl, hr1, hr2⟩ : ∃ r : Int, rv = .int r ∧ 0 ≤ r ∧ r < md := by
        rcases hrc with ⟨_, rfl⟩ | ⟨_, rfl⟩
        · exact ⟨_, rfl, Int.emod_nonneg _ (by omega), Int.emod_lt_of_pos _ (by omega)⟩
        · exact ⟨_, rfl, Int.emod_nonneg _ (by omega), Int.emod_lt_of_pos _ (by omega)⟩
      refine q_asg (ev_opL1 (el_lst (ea_cons (ev_op (ev_var rfl) (ev_var rfl) (rv_I (show 0 < md by omega))) (ea_cons (ev_op (ev_op (ev_var rfl) ev_c (rv_I (by walk_at "div"))) (ev_var rfl) (rv_I (show 0 < md by omega))) ea_nil)) (Nat.le_of_ble_eq_true rfl)) (fun _ _ => ev_cb (ea_cons (ev_op (ev_op (ev_op (ev_var rfl) (ev_op ev_c ev_c (rv_I ⟨by decide, by decide, by decide⟩)) (rv_I (div_ok (show (0 : Int) < 2 ^ (40 : Int).toNat by decide) (by decide)))) ev_c (rv_I (show (0 : Int) < 6 by decide))) ev_c rv_I0) ea_nil) rc_intB) fun _ _ h _ => rv_ixL (K := K) (sq_of h) hr) fun H7 e7 => ?_
      show tDrop _ _ [some (.ref a), some (.int k), some (.int more), some (.int number), some (.ref o), some (.int j), some (.int here), some (.int md), some (.int r), y9, y10, y11] H7
      have e47 : Ex H' H7 := (e5.trans e6).trans e7
      have htl : ts.length = ps.length := pairs_len hA
      refine s_appU (l := o) (xs := ts) (e47 _ _ ho4) (ev_var rfl) (eu_tup (ea_cons (ev_var rfl) (ea_cons (ev_var rfl) ea_nil)) (Nat.le_of_ble_eq_true rfl)) (by omega) fun p H8 np e8 hp => ?_
      have po : p ≠ o := fun z => by rw [z, e47 _ _ ho4] at np; cases np
      refine ⟨ts ++ [.ref p], ps ++ [(r, md)], _, _, _, _, _, _, _, rfl, Ex.mut ((e4.trans e47).trans e8) noH, upd_same, ?_, by rw [List.length_append, hl4]; rfl, fun q hq => ?_⟩
      · rw [hid_upd, List.map_append]
        refine dpAll_append (dpAll_ex (hid_mono (e47.trans e8)) hA) (.cons (.tup (st_of ?_) (.cons (.int r) (.cons (.int md) .nil))) .nil)
        rw [hid_ne po]
        exact hp
      · rcases List.mem_append.mp hq with h | h
        · exact ok q h
        · have : q = (r, md) := by simpa using h
          subst this
          exact ⟨u1, u2, hr1, hr2⟩
    · rintro σ' H' ⟨ts, ps, y5, y6, y7, y8, y9, y10, y11, rfl, e4, ho4, hA, hl4, ok⟩
      have h6 : ps.length ≤ 6 := by omega
      have hdP : Dp K H' (.ref o) (pairsD ps) := .lst (sq_of ho4) (dpAll_ex hid_ex hA)
      clear e1 e2 e3
      -- kept, told = list(pairs), met(pairs)
      refine el_list (K := K) (ev_var (i := 4) rfl) (sq_of ho4) H' (Ex.refl H') _ fun pk H5 npk e5 hpk => ?_
      refine ed_call (K := K) (ea_cons (ev_var (i := 4) rfl) ea_nil) (sd_met hdP h6 ok) H5 e5 _ fun v H6 e6 hv => ⟨_, _, rfl, ?_⟩
      show tSeq _ _ _ [some (.ref a), some (.int k), some (.int more), some (.int number), some (.ref o), y5, y6, y7, y8, some (.ref pk), some v, y11] H6
      have e46 : Ex H' H6 := e5.trans e6
      have hdP6 : Dp K H6 (.ref o) (pairsD ps) := dp_ex (e := e46) hdP
      have hdK6 : Dp K H6 (.ref pk) (pairsD ps) := .lst (sq_of (e6 _ _ hpk)) (dpAll_ex (hid_ex.trans e46) hA)
      have ho6 : SqL K H6 o ts := sq_of (e46 _ _ ho4)
      have e06 : Ex H H6 := e4.trans e46
      have hA6 : DpAll K H6 ts (ps.map pairD) := dpAll_ex (hid_ex.trans e46) hA
      have hrev : Dp K H6 v (metD ps) := hv
      have okr : ∀ q ∈ ps.reverse, okP q := fun q h => ok q (List.mem_reverse.mp h)
      have c1 : EvT (tTest (tOp (rNeD K) (tVar 4) (tVar 9))) [some (.ref a), some (.int k), some (.int more), some (.int number), some (.ref o), y5, y6, y7, y8, some (.ref pk), some v, y11] H6 false :=
        et_test (ev_is (ev_neDD (ed_of (ev_var rfl) hdP6) (ed_of (ev_var rfl) hdK6) (shaped_pairs _) (shaped_pairs _)) (by rw [SeqAt.eqv_refl _ (SeqAt.canLay_of_shaped (shaped_pairs ps))]; rfl))
      have c2 : EvT (tTest (tOp (rNeD K) (tCall (sp_met K) [] E0 (tCons (tRevL K (tVar 4)) tNil)) (tVar 10))) [some (.ref a), some (.int k), some (.int more), some (.int number), some (.ref o), y5, y6, y7, y8, some (.ref pk), some v, y11] H6 false :=
        et_test (ev_is (ev_neDD (ed_is (ed_call1 (ed_L (el_rev (ev_var rfl) ho6) (ds := (ps.reverse).map pairD) (by rw [List.map_reverse]; exact dpAll_rev hA6)) fun u H7 e7 hu => sd_met (ps := ps.reverse) hu (by rw [List.length_reverse]; exact h6) okr) (metD_rev ok)) (ed_of (ev_var rfl) hv) (shaped_met _) (shaped_met _)) (by rw [SeqAt.eqv_refl _ (SeqAt.canLay_of_shaped (shaped_met ps))]; rfl))
      refine q_when (b := false) (et_is (et_or c1 fun _ => c2) rfl) (fun hb => Bool.noConfusion hb) (fun _ H7 e7 => ?_)
      clear c1 c2
      have e67 : Ex H H7 := e06.trans e7
      have hv7 : Dp K H7 v (metD ps) := dp_ex (e := e7) hv
      have hnon : decide (v = .non) = decide (Against ps) := by
        rcases met_cases ok with ⟨h1, h2⟩ | ⟨h1, R, M, h2, _⟩
        · rw [h1] at hv
          cases hv
          rw [decide_eq_true h2, decide_eq_true rfl]
        · rw [h2] at hv
          cases hv
          rw [decide_eq_false h1, decide_eq_false (fun z => nomatch z)]
      refine q_when (b := false) (et_is (et_test (ev_op (ev_op (ev_var rfl) ev_c rv_isN) (ev_call (ea_cons (ev_var rfl) ea_nil) (sv_against (dp_ex (e := e7) hdP6) ok)) rv_neB)) (by rw [hnon, decide_eq_true rfl]; rfl)) (fun hb => Bool.noConfusion hb) (fun _ H8 e8 => ?_)
      have e68 : Ex H H8 := e67.trans e8
      refine q_when (et_test (ev_op (ev_var rfl) ev_c rv_isN)) (fun hb H9 e9 => ?_) (fun hb H9 e9 => ?_)
      · exact ⟨_, _, _, _, _, _, _, _, _, _, _, rfl, e68.trans e9⟩
      · have hna : ¬ Against ps := by
          rw [hnon] at hb
          exact of_decide_eq_false hb
        obtain ⟨R, M, hm, hM⟩ : ∃ R M, metD ps = .tuple [.int R, .int M] ∧ IsMet ps R M := by
          rcases met_cases ok with ⟨_, h2⟩ | ⟨_, h2⟩
          · exact absurd h2 hna
          · exact h2
        rw [hm] at hv
        obtain ⟨tp, rfl, hTp⟩ : ∃ tp, v = .ref tp ∧ SqT K H6 tp [.int R, .int M] := pair_in (q := (R, M)) hv
        have e69 : Ex H6 H9 := (e7.trans e8).trans e9
        refine q_asg ev_c fun H10 e10 => ?_
        show tSeq _ _ _ [some (.ref a), some (.int k), some (.int more), some (.int number), some (.ref o), y5, y6, y7, y8, some (.ref pk), some (.ref tp), some (.int 1)] H10
        have e610 : Ex H6 H10 := e69.trans e10
        clear e7 e8 e9 e10 e67 e68 hv7
        refine q_forL (xs := ts) (ev_var rfl) (ex_l e610 ho6) (fun i σ' H' => ∃ (W : Int) (y7 y8 : Option V), σ' = [some (.ref a), some (.int k), some (.int more), some (.int number), some (.ref o), y5, y6, y7, y8, some (.ref pk), some (.ref tp), some (.int W)] ∧ IsLcm (ps.take i) W ∧ Ex H6 H')
          (fun H3 e3 => ⟨1, y7, y8, rfl, isMet_nil.l, e610.trans e3⟩) (fun i σ' H' hi ⟨W, _, _, e, _, e'⟩ => ex_l e' ho6) ?_ ?_
        · rintro i x σ' H' hx ⟨W, y7, y8, rfl, hW, e'⟩
          obtain ⟨q, hqi, hq, hdq⟩ := pairs_at hA6 hx
          have okq := ok q hq
          obtain ⟨b, rfl, hT⟩ := pair_in (dp_ex (e := e') hdq)
          have q1 : 1 ≤ q.2 := okq.1
          have q2 : q.2 ≤ 2000 := okq.2.1
          have hWp := hW.pos
          have gp : 0 < gcdI W q.2 := gcd_pos (by omega)
          have gl : gcdI W q.2 ≤ q.2 := gcd_le (by omega)
          refine g_pair hT ?_
          show tSeq _ _ _ [some (.ref a), some (.int k), some (.int more), some (.int number), some (.ref o), y5, y6, some (.int q.2), some (.int q.1), some (.ref pk), some (.ref tp), some (.int W)] H'
          refine q_when (b := false) (et_is (et_test (ev_op (ev_op (ev_op (ev_var rfl) ev_c (rv_ixT (ex_t e' hTp) rfl)) (ev_var rfl) (rv_I (show 0 < q.2 by omega))) (ev_var rfl) rv_I0)) (by rw [hM.sol q hq, decide_eq_true rfl]; rfl)) (fun hb => Bool.noConfusion hb) (fun _ H11 e11 => ?_)
          refine s_asg (ev_op (ev_op (ev_var rfl) (ev_var rfl) (rv_I (mul_r (by omega)))) (ev_call (ea_cons (ev_var rfl) (ea_cons (ev_var rfl) ea_nil)) (sv_common (by omega) (by omega))) (rv_I (div_ok gp (by omega)))) fun H12 e12 => ?_
          refine ⟨_, _, _, rfl, ?_, (e'.trans e11).trans e12⟩
          rw [List.take_add_one, hqi, mul_div_gcd (by omega)]
          exact lcm_snoc (r := q.1) hW (by omega)
        · rintro σ' H' ⟨W, y7, y8, rfl, hW, e'⟩
          rw [show ts.length = ps.length from pairs_len hA6, List.take_length] at hW
          have eW : M = W := lcm_eq hM.l hW
          subst eW
          refine s_when (b := false) (et_is (et_or (et_test (ev_op (ev_op (ev_var rfl) ev_c (rv_ixT (ex_t e' hTp) rfl)) (ev_var rfl) rv_I0)) fun _ => et_not (et_test (ev_chain ev_c (ev_op (ev_var rfl) ev_c (rv_ixT (ex_t e' hTp) rfl)) rv_I0 (ev_var rfl) rv_I0))) (by rw [decide_eq_true rfl, decide_eq_true hM.lo, decide_eq_true hM.hi]; rfl)) (fun hb => Bool.noConfusion hb) (fun _ H11 e11 => ?_)
          exact ⟨_, _, _, _, _, _, _, _, _, _, _, rfl, (e06.trans e').trans e11⟩
  · rintro σ' H' ⟨y1, y2, y3, y4, y5, y6, y7, y8, y9, y10, y11, rfl, e⟩
    refine s_ret (v := .bl true) (ev_is (ev_eqDD (d := metD []) (d' := .tuple [.int 0, .int 1]) (ed_call1 (ed_L (el_lst ea_nil (Nat.le_of_ble_eq_true rfl)) .nil) fun v H1 e1 hv => sd_met (ps := []) hv (by decide) (fun _ h => nomatch h)) (ed_U (eu_tup (ea_cons ev_c (ea_cons ev_c ea_nil)) (Nat.le_of_ble_eq_true rfl)) (.cons (.int 0) (.cons (.int 1) .nil))) (shaped_met _) rfl) ?_) fun H1 e1 => q H1
    rw [metD_some (ps := []) (fun _ h => nomatch h) isMet_nil]
    rfl
end
end K62

namespace K62
open PySem PySem.Spec PyProof.Rows L2 Evl Sw
section
variable {P : Program} {w : World} {K : PySem.W.Frag} {mg : Str → Option Value} {base : Heap}
theorem ok_common {a : Ad} (T : Txt a K mg) : FnOk P w K mg base CX0 1 a.f_common a.d_common ["one", "other"] (sp_common K) :=
  T.F_common.ok sc_common (fun vs H Q E h => len_common h) (fun cdv A outer s H vs Q E hr h => ⟨t_common K, der_common T  hr, pure_common vs H Q E h⟩)
theorem ok_is_pair {a : Ad} (T : Txt a K mg) : FnOk P w K mg base CX0 1 a.f_is_pair a.d_is_pair ["thing"] (sp_is_pair K) :=
  T.F_is_pair.ok sc_is_pair (fun vs H Q E h => len_is_pair h) (fun cdv A outer s H vs Q E hr h => ⟨t_is_pair K, der_is_pair T  hr, pure_is_pair vs H Q E h⟩)
theorem ok_met {a : Ad} (T : Txt a K mg) : FnOk P w K mg base CX0 2 a.f_met a.d_met ["pairs"] (sp_met K) :=
  T.F_met.ok sc_met (fun vs H Q E h => len_met h) (fun cdv A outer s H vs Q E hr h => ⟨t_met K, der_met T (ok_is_pair T) (ok_common T) hr, pure_met vs H Q E h⟩)
theorem ok__law_cell {a : Ad} (T : Txt a K mg) : FnOk P w K mg base CX0 1 a.f__law_cell a.d__law_cell ["script", "k"] (sp__law_cell K) :=
  T.F__law_cell.ok sc__law_cell (fun vs H Q E h => len__law_cell h) (fun cdv A outer s H vs Q E hr h => ⟨t__law_cell K, der__law_cell T  hr, pure__law_cell vs H Q E h⟩)
theorem ok__law_drawn {a : Ad} (T : Txt a K mg) : FnOk P w K mg base CX0 1 a.f__law_drawn a.d__law_drawn ["cell", "k"] (sp__law_drawn K) :=
  T.F__law_drawn.ok sc__law_drawn (fun vs H Q E h => len__law_drawn h) (fun cdv A outer s H vs Q E hr h => ⟨t__law_drawn K, der__law_drawn T  hr, pure__law_drawn vs H Q E h⟩)
theorem ok__law_common {a : Ad} (T : Txt a K mg) : FnOk P w K mg base CX0 1 a.f__law_common a.d__law_common ["one", "other"] (sp__law_common K) :=
  T.F__law_common.ok sc__law_common (fun vs H Q E h => len__law_common h) (fun cdv A outer s H vs Q E hr h => ⟨t__law_common K, der__law_common T  hr, pure__law_common vs H Q E h⟩)
theorem ok__law_against {a : Ad} (T : Txt a K mg) : FnOk P w K mg base CX0 2 a.f__law_against a.d__law_against ["pairs"] (sp__law_against K) :=
  T.F__law_against.ok sc__law_against (fun vs H Q E h => len__law_against h) (fun cdv A outer s H vs Q E hr h => ⟨t__law_against K, der__law_against T (ok__law_common T) hr, pure__law_against vs H Q E h⟩)
theorem ok_law {a : Ad} (T : Txt a K mg) : FnOk P w K mg base CX0 3 a.f_law a.d_law ["script"] (sp_law K) :=
  T.F_law.ok sc_law (fun vs H Q E h => len_law h) (fun cdv A outer s H vs Q E hr h => ⟨t_law K, der_law T (ok__law_drawn T) (ok__law_cell T) (ok_met T) (ok__law_against T) (ok__law_common T) hr, pure_law vs H Q E h⟩)
end
theorem all_mk {l : PySem.W.OpenLaw} {w : World} {K : PySem.W.Frag} {h : Heap} {mg : Str → Option Value} {fa f0 f1 f2 f3 f4 f5 f6 f7 : Addr} (X : K.In h) (G : h.Ns mainGlobals mg) (hfa : mg "law" = some (.ref fa))
        {od0 an0 : Option Addr} {sl0 : Array (Option Value)} {oc0 kV0 dc0 pm0 cd0 ct0 : Value}
    {od1 an1 : Option Addr} {sl1 : Array (Option Value)} {oc1 kV1 dc1 pm1 cd1 ct1 : Value}
    {od2 an2 : Option Addr} {sl2 : Array (Option Value)} {oc2 kV2 dc2 pm2 cd2 ct2 : Value}
    {od3 an3 : Option Addr} {sl3 : Array (Option Value)} {oc3 kV3 dc3 pm3 cd3 ct3 : Value}
    {od4 an4 : Option Addr} {sl4 : Array (Option Value)} {oc4 kV4 dc4 pm4 cd4 ct4 : Value}
    {od5 an5 : Option Addr} {sl5 : Array (Option Value)} {oc5 kV5 dc5 pm5 cd5 ct5 : Value}
    {od6 an6 : Option Addr} {sl6 : Array (Option Value)} {oc6 kV6 dc6 pm6 cd6 ct6 : Value}
    {od7 an7 : Option Addr} {sl7 : Array (Option Value)} {oc7 kV7 dc7 pm7 cd7 ct7 : Value} {tk0 : Tok} {tk1 : Tok}
    (a0 : PySem.W.nsIn K mainGlobals "common" = some (some (.ref f0))) (l0 : K.lookup f0 = some ⟨oc0, od0, .func (PySem.W.fnOf "common" "common" (defArgs s_common) (defBody s_common) (defScope s_common) .none kV0 dc0 pm0 an0 cd0 ct0), sl0⟩) (c0 : PySem.W.codeIn K cd0 "common" = true) (k0 : PySem.W.keepIn K (.ref f0) = true)
    (a1 : PySem.W.nsIn K mainGlobals "is_pair" = some (some (.ref f1))) (l1 : K.lookup f1 = some ⟨oc1, od1, .func (PySem.W.fnOf "is_pair" "is_pair" (defArgs s_is_pair) (defBody s_is_pair) (defScope s_is_pair) .none kV1 dc1 pm1 an1 cd1 ct1), sl1⟩) (c1 : PySem.W.codeIn K cd1 "is_pair" = true) (k1 : PySem.W.keepIn K (.ref f1) = true)
    (a2 : PySem.W.nsIn K mainGlobals "met" = some (some (.ref f2))) (l2 : K.lookup f2 = some ⟨oc2, od2, .func (PySem.W.fnOf "met" "met" (defArgs s_met) (defBody s_met) (defScope s_met) .none kV2 dc2 pm2 an2 cd2 ct2), sl2⟩) (c2 : PySem.W.codeIn K cd2 "met" = true) (k2 : PySem.W.keepIn K (.ref f2) = true)
    (a3 : PySem.W.nsIn K mainGlobals "_law_cell" = some (some (.ref f3))) (l3 : K.lookup f3 = some ⟨oc3, od3, .func (PySem.W.fnOf "_law_cell" "_law_cell" (defArgs s__law_cell) (defBody s__law_cell) (defScope s__law_cell) .none kV3 dc3 pm3 an3 cd3 ct3), sl3⟩) (c3 : PySem.W.codeIn K cd3 "_law_cell" = true) (k3 : PySem.W.keepIn K (.ref f3) = true)
    (a4 : PySem.W.nsIn K mainGlobals "_law_drawn" = some (some (.ref f4))) (l4 : K.lookup f4 = some ⟨oc4, od4, .func (PySem.W.fnOf "_law_drawn" "_law_drawn" (defArgs s__law_drawn) (defBody s__law_drawn) (defScope s__law_drawn) .none kV4 dc4 pm4 an4 cd4 ct4), sl4⟩) (c4 : PySem.W.codeIn K cd4 "_law_drawn" = true) (k4 : PySem.W.keepIn K (.ref f4) = true)
    (a5 : PySem.W.nsIn K mainGlobals "_law_common" = some (some (.ref f5))) (l5 : K.lookup f5 = some ⟨oc5, od5, .func (PySem.W.fnOf "_law_common" "_law_common" (defArgs s__law_common) (defBody s__law_common) (defScope s__law_common) .none kV5 dc5 pm5 an5 cd5 ct5), sl5⟩) (c5 : PySem.W.codeIn K cd5 "_law_common" = true) (k5 : PySem.W.keepIn K (.ref f5) = true)
    (a6 : PySem.W.nsIn K mainGlobals "_law_against" = some (some (.ref f6))) (l6 : K.lookup f6 = some ⟨oc6, od6, .func (PySem.W.fnOf "_law_against" "_law_against" (defArgs s__law_against) (defBody s__law_against) (defScope s__law_against) .none kV6 dc6 pm6 an6 cd6 ct6), sl6⟩) (c6 : PySem.W.codeIn K cd6 "_law_against" = true) (k6 : PySem.W.keepIn K (.ref f6) = true)
    (a7 : PySem.W.nsIn K mainGlobals "law" = some (some (.ref f7))) (l7 : K.lookup f7 = some ⟨oc7, od7, .func (PySem.W.fnOf "law" "law" (defArgs s_law) (defBody s_law) (defScope s_law) .none kV7 dc7 pm7 an7 cd7 ct7), sl7⟩) (c7 : PySem.W.codeIn K cd7 "law" = true) (k7 : PySem.W.keepIn K (.ref f7) = true)
    (z0 : PySem.W.nsIn K mainGlobals "all" = some none)
    (z1 : PySem.W.nsIn K mainGlobals "any" = some none)
    (z2 : PySem.W.nsIn K mainGlobals "bool" = some none)
    (z3 : PySem.W.nsIn K mainGlobals "int" = some none)
    (z4 : PySem.W.nsIn K mainGlobals "isinstance" = some none)
    (z5 : PySem.W.nsIn K mainGlobals "len" = some none)
    (z6 : PySem.W.nsIn K mainGlobals "list" = some none)
    (z7 : PySem.W.nsIn K mainGlobals "max" = some none)
    (z8 : PySem.W.nsIn K mainGlobals "min" = some none)
    (z9 : PySem.W.nsIn K mainGlobals "range" = some none)
    (z10 : PySem.W.nsIn K mainGlobals "tuple" = some none)
    (y0 : PySem.W.nsIn K mainGlobals "MOST_MODULUS" = some (some (.int 2000 tk0)))
    (y1 : PySem.W.nsIn K mainGlobals "MOST_PAIRS" = some (some (.int 6 tk1))) :
    ∃ fd : FuncData, (∀ (s : Shared) (v : Value), BindsTo s fd ⟨[v], []⟩ [("script", v)]) ∧ ∀ base : Heap, K.In base → base.Ns mainGlobals mg → FnOk l.prog w K mg base CX0 3 fa fd ["script"] (sp_law K) := by
  have e := hfa.symm.trans (PySem.W.mg_of X G a7)
  cases e
  have T : Txt ⟨f0, PySem.W.fnOf "common" "common" (defArgs s_common) (defBody s_common) (defScope s_common) .none kV0 dc0 pm0 an0 cd0 ct0, f1, PySem.W.fnOf "is_pair" "is_pair" (defArgs s_is_pair) (defBody s_is_pair) (defScope s_is_pair) .none kV1 dc1 pm1 an1 cd1 ct1, f2, PySem.W.fnOf "met" "met" (defArgs s_met) (defBody s_met) (defScope s_met) .none kV2 dc2 pm2 an2 cd2 ct2, f3, PySem.W.fnOf "_law_cell" "_law_cell" (defArgs s__law_cell) (defBody s__law_cell) (defScope s__law_cell) .none kV3 dc3 pm3 an3 cd3 ct3, f4, PySem.W.fnOf "_law_drawn" "_law_drawn" (defArgs s__law_drawn) (defBody s__law_drawn) (defScope s__law_drawn) .none kV4 dc4 pm4 an4 cd4 ct4, f5, PySem.W.fnOf "_law_common" "_law_common" (defArgs s__law_common) (defBody s__law_common) (defScope s__law_common) .none kV5 dc5 pm5 an5 cd5 ct5, f6, PySem.W.fnOf "_law_against" "_law_against" (defArgs s__law_against) (defBody s__law_against) (defScope s__law_against) .none kV6 dc6 pm6 an6 cd6 ct6, fa, PySem.W.fnOf "law" "law" (defArgs s_law) (defBody s_law) (defScope s_law) .none kV7 dc7 pm7 an7 cd7 ct7⟩ K mg := ⟨fun_mk (st := s_common) l0 c0 k0, PySem.W.mg_of X G a0, (fun_mk (st := s_common) l0 c0 k0).binds (ps := ["one", "other"]) fun _ _ _ _ _ _ us hl => match us, hl with | [_, _], _ => rfl,
    fun_mk (st := s_is_pair) l1 c1 k1, PySem.W.mg_of X G a1, (fun_mk (st := s_is_pair) l1 c1 k1).binds (ps := ["thing"]) fun _ _ _ _ _ _ us hl => match us, hl with | [_], _ => rfl,
    fun_mk (st := s_met) l2 c2 k2, PySem.W.mg_of X G a2, (fun_mk (st := s_met) l2 c2 k2).binds (ps := ["pairs"]) fun _ _ _ _ _ _ us hl => match us, hl with | [_], _ => rfl,
    fun_mk (st := s__law_cell) l3 c3 k3, PySem.W.mg_of X G a3, (fun_mk (st := s__law_cell) l3 c3 k3).binds (ps := ["script", "k"]) fun _ _ _ _ _ _ us hl => match us, hl with | [_, _], _ => rfl,
    fun_mk (st := s__law_drawn) l4 c4 k4, PySem.W.mg_of X G a4, (fun_mk (st := s__law_drawn) l4 c4 k4).binds (ps := ["cell", "k"]) fun _ _ _ _ _ _ us hl => match us, hl with | [_, _], _ => rfl,
    fun_mk (st := s__law_common) l5 c5 k5, PySem.W.mg_of X G a5, (fun_mk (st := s__law_common) l5 c5 k5).binds (ps := ["one", "other"]) fun _ _ _ _ _ _ us hl => match us, hl with | [_, _], _ => rfl,
    fun_mk (st := s__law_against) l6 c6 k6, PySem.W.mg_of X G a6, (fun_mk (st := s__law_against) l6 c6 k6).binds (ps := ["pairs"]) fun _ _ _ _ _ _ us hl => match us, hl with | [_], _ => rfl,
    fun_mk (st := s_law) l7 c7 k7, PySem.W.mg_of X G a7, (fun_mk (st := s_law) l7 c7 k7).binds (ps := ["script"]) fun _ _ _ _ _ _ us hl => match us, hl with | [_], _ => rfl,
    PySem.W.mg_none_of X G z0,
    PySem.W.mg_none_of X G z1,
    PySem.W.mg_none_of X G z2,
    PySem.W.mg_none_of X G z3,
    PySem.W.mg_none_of X G z4,
    PySem.W.mg_none_of X G z5,
    PySem.W.mg_none_of X G z6,
    PySem.W.mg_none_of X G z7,
    PySem.W.mg_none_of X G z8,
    PySem.W.mg_none_of X G z9,
    PySem.W.mg_none_of X G z10,
    ⟨tk0, PySem.W.mg_of X G y0⟩,
    ⟨tk1, PySem.W.mg_of X G y1⟩⟩
  exact ⟨_, fun s v => .of_eq rfl, fun base _ _ => ok_law T⟩
end K62
open PySem PySem.W PyProof.Rows
set_option maxRecDepth 100000 in
set_option maxHeartbeats 0 in
theorem PySem.Challenge.cw_sievewright_k62_whole_rests_together_holds : PySem.Challenge.rw_sievewright_k62_whole_rests_together.Holds := by
  w_on; o_law; k_head; (case hw => w_witness2)
  k_fill
  refine L2.walk_of (l := PySem.Challenge.rw_sievewright_k62_whole_rests_together) (n := 63) (k := 3) (x := "script") (CX := fun _ => L2.CX0) (sp := fun w => K62.sp_law _) rfl (by decide) rfl ⟨rfl, by decide, by decide⟩ (fun w h Y => PySem.W.kIn_of Y) ?F (fun _ _ a ns hl _ hS => ⟨a, ns, rfl, hS, hl, fun _ => rfl⟩) (fun _ _ _ _ _ h => h)
  case F =>
    intro w mg fa h KX G hmg
    refine' K62.all_mk KX G hmg ?a0 ?l0 ?c0 ?k0 ?a1 ?l1 ?c1 ?k1 ?a2 ?l2 ?c2 ?k2 ?a3 ?l3 ?c3 ?k3 ?a4 ?l4 ?c4 ?k4 ?a5 ?l5 ?c5 ?k5 ?a6 ?l6 ?c6 ?k6 ?a7 ?l7 ?c7 ?k7 ?z0 ?z1 ?z2 ?z3 ?z4 ?z5 ?z6 ?z7 ?z8 ?z9 ?z10 ?y0 ?y1
    (case a0 => k_is); (case l0 => k_is); (case c0 => k_is); (case k0 => k_is); (case a1 => k_is); (case l1 => k_is); (case c1 => k_is); (case k1 => k_is); (case a2 => k_is); (case l2 => k_is); (case c2 => k_is); (case k2 => k_is); (case a3 => k_is); (case l3 => k_is); (case c3 => k_is); (case k3 => k_is); (case a4 => k_is); (case l4 => k_is); (case c4 => k_is); (case k4 => k_is); (case a5 => k_is); (case l5 => k_is); (case c5 => k_is); (case k5 => k_is); (case a6 => k_is); (case l6 => k_is); (case c6 => k_is); (case k6 => k_is); (case a7 => k_is); (case l7 => k_is); (case c7 => k_is); (case k7 => k_is); (case z0 => k_is); (case z1 => k_is); (case z2 => k_is); (case z3 => k_is); (case z4 => k_is); (case z5 => k_is); (case z6 => k_is); (case z7 => k_is); (case z8 => k_is); (case z9 => k_is); (case z10 => k_is); (case y0 => k_is); (case y1 => k_is)

