import PyProof.Rows.All
import Wide.All
import OpenK.AllK
import Wide.FinOn
import HandS.ForMost
import HandS.Evl
import HandS.Walk
import HandS.IsInst
import HandS.Style
import HandS.WideBits
import HandS.EndBits
import HandS.Codes
import HandS.More
import HandS.SortInts
import HandS.Strs
import HandS.SetFor
import PySem.Challenge.RW_ringbeads_k01_whole_starts
set_option Elab.async false
set_option linter.all false
set_option maxRecDepth 100000
/-! Ring beads: short words over the hand layer, no program in sight. -/
namespace Rb
open PySem PySem.Spec PyProof.Rows L2
/-! ### defs by their names -/
/-- a def of the module as the top leaves it -/
def Dfn (K : PySem.W.Frag) (mg : Str → Option Value) (x : Str) (st : Stmt) (ps : List Str) : Prop :=
  ∃ f fd, Fun K x x st f fd ∧ Binds K fd ps [] ∧ mg x = some (.ref f)
/-- a def that may be called by its name, with its promise -/
def Cal (P : Program) (w : World) (K : PySem.W.Frag) (mg : Str → Option Value) (base : Heap) (k : Nat) (x : Str) (sp : Sp) : Prop :=
  ∃ f fd ps, FnOk P w K mg base CX0 k f fd ps sp ∧ mg x = some (.ref f) ∧ PySem.W.keepIn K (.ref f) = true ∧ Binds K fd ps []
section
variable {P : Program} {w : World} {K : PySem.W.Frag} {mg : Str → Option Value} {base : Heap}
theorem cal {x : Str} {st : Stmt} {N ps : List Str} {k : Nat} {sp : Sp} (D : Dfn K mg x st ps) (S : FnScope N ps (defScope st)) (len : ∀ vs H Q E, sp vs H Q E → vs.length = ps.length)
    (hbody : ∀ (f : Addr) (cdv : Value) (A : Around) (outer : List Env) (s : Shared) (H : Hp) (vs : List V) (Q : VK) (E : XK), Room k (A.deeper (envOfC x (defScope st) s.heap.objs.size f cdv)) → sp vs H Q E →
      ∃ t, PSs (cxOf CX0 P w K mg base N x (defScope st) f cdv A outer s H E).nox (defBody st) t ∧ t { nx := fun _ H' => Q .non H', rt := Q } (start N vs) H) : Cal P w K mg base (k + 1) x sp := by
  obtain ⟨f, fd, F, b, g⟩ := D
  exact ⟨f, fd, ps, F.ok S len fun cdv A outer s H vs Q E hr h => hbody f cdv A outer s H vs Q E hr h, g, F.kp, b⟩
end
/-- a def from what the top has left -/
theorem dfn_mk {K : PySem.W.Frag} {h : Heap} {mg : Str → Option Value} {x : Str} {st : Stmt} {ps : List Str} (X : K.In h) (G : h.Ns mainGlobals mg) {f : Addr} {oc : Value} {od an : Option Addr} {osl : Array (Option Value)} {kV doc pm cdv ct : Value}
    (a : PySem.W.nsIn K mainGlobals x = some (some (.ref f))) (l : K.lookup f = some ⟨oc, od, .func (PySem.W.fnOf x x (defArgs st) (defBody st) (defScope st) .none kV doc pm an cdv ct), osl⟩) (c : PySem.W.codeIn K cdv x = true) (k : PySem.W.keepIn K (.ref f) = true)
    (hb : ∀ (kV doc pm : Value) (an : Option Addr) (cdv ct : Value) (us : List Value), us.length = ps.length → bindArgs (PySem.W.fnOf x x (defArgs st) (defBody st) (defScope st) .none kV doc pm an cdv ct) ⟨us, []⟩ = pure (ps.zip us)) : Dfn K mg x st ps :=
  ⟨f, _, fun_mk l c k, (fun_mk l c k).binds hb, PySem.W.mg_of X G a⟩
section
variable {X : Cx} {k j : Nat} {x : Str} {sp : Sp} {p pos : Pos} {e : Expr} {es : List Expr} {t : TA}
theorem pe_c (c : Cal X.prog X.w X.K X.mg X.base k x sp) (hr : Room j X.A) (hk : k ≤ j) (hg : Gl X x) (ha : PA X (e :: es) t)
    (hdb : (x == ("__debug__" : Str)) = false := by decide) (he : starEach (e :: es) X.env = (false, eval e X.env) :: starEach es X.env := by rfl) (hpl : (backTo pos (starEach es X.env)).any (·.1) = false := by rfl) :
    PE X (.Call (.Name x p) (e :: es) [] pos) (tCall sp [] E0 t) := by
  obtain ⟨f, fd, ps, F, hm, kp, b⟩ := c
  exact pe_call F (hr.mono hk) hg hm kp b .nil pass0 ha hdb he hpl
end
section
variable {CX : CXT} {P : Program} {w : World} {K : PySem.W.Frag} {mg : Str → Option Value} {base : Heap} {N : List Str} {qual : Str} {scope : Scope} {f : Addr} {cd : Value} {A : Around} {outer : List Env} {s : Shared} {H : Hp} {E : XK}
/-- the written part, where the context stands in its place -/
theorem kx : (cxOf CX P w K mg base N qual scope f cd A outer s H E).nox.K = K := rfl
theorem kx' : (cxOf CX P w K mg base N qual scope f cd A outer s H E).K = K := rfl
theorem mx : (cxOf CX P w K mg base N qual scope f cd A outer s H E).nox.mg = mg := rfl
theorem mx' : (cxOf CX P w K mg base N qual scope f cd A outer s H E).mg = mg := rfl
theorem wx : (cxOf CX P w K mg base N qual scope f cd A outer s H E).nox.w = w := rfl
theorem kb {s' : Shared} {H' : Hp} {sc : Scope} {ce : Env} {fp : List Addr} : ((cxOf CX P w K mg base N qual scope f cd A outer s H E).nox.blk s' H' sc ce fp).K = K := rfl
end
/-! ### heaps that grow -/
abbrev Ex := Evl.Ex
theorem exN {H : Hp} {p : Addr} {o : HO} (h : H p = none) : Ex H (upd H p o) := Evl.Ex.new h
theorem exM {H H' : Hp} {p : Addr} {o : HO} (e : Ex H H') (h : H p = none) : Ex H (upd H' p o) := Evl.Ex.mut e h
theorem exT {H H1 H2 : Hp} (b : Ex H1 H2) (a : Ex H H1) : Ex H H2 := Evl.Ex.trans a b
theorem exB {H H' : Hp} {p : Addr} (e : Ex H H') (h : H' p = none) : H p = none := Evl.fresh_back e h
/-- all but one object -/
def hide (q : Addr) (H : Hp) : Hp := fun x => if x = q then none else H x
theorem hide_no {q : Addr} {H : Hp} : hide q H q = none := by unfold hide; rw [if_pos rfl]
theorem hide_ex {q : Addr} {H : Hp} : Ex (hide q H) H := fun a o h => by
  unfold hide at h
  split at h
  · cases h
  · exact h
theorem hide_up {q : Addr} {H0 H : Hp} (e : Ex H0 H) (n : H0 q = none) : Ex H0 (hide q H) := fun a o h => by
  unfold hide
  rw [if_neg (ne_of_none h n)]
  exact e a o h
theorem hide_at {q l : Addr} {H : Hp} {o : HO} (ne : l ≠ q) (h : H l = some o) : hide q H l = some o := by
  unfold hide
  rw [if_neg ne]
  exact h
local macro_rules | `(tactic| walk_at "ex") => `(tactic| first
  | exact Evl.Ex.refl _
  | assumption
  | exact exN (by assumption)
  | (refine exT (by assumption) ?_; walk_at "ex"))
/-! ### the readings, a step each -/
section
variable {σ : L2.St} {H : Hp} {Q : VK} {v : V}
theorem r_var {i : Nat} (h : σ[i]? = some (some v)) (q : Q v H) : tVar i σ H Q := ⟨v, h, q⟩
theorem r_c (q : Q v H) : tC v σ H Q := q
theorem r_op {r : R2} {ta tb : TE} (q : ta σ H fun x H1 => tb σ H1 fun y H2 => r x y H2 Q) : tOp r ta tb σ H Q := q
theorem r_un {r : V → Hp → VK → Prop} {ta : TE} (q : ta σ H fun x H1 => r x H1 Q) : tUn r ta σ H Q := q
theorem r_cb {r : List V → Hp → VK → Prop} {t : TA} (q : t σ H fun vs H1 => r vs H1 Q) : tCB r t σ H Q := q
/-- an expression by its value -/
theorem r_val {te : TE} (v : V) (h : ∀ R : VK, R v H → te σ H R) (q : Q v H) : te σ H Q := h Q q
/-- .. that may make objects on the way -/
theorem r_valE {te : TE} (v : V) (h : ∀ R : VK, (∀ H', Ex H H' → R v H') → te σ H R) (q : ∀ H', Ex H H' → Q v H') : te σ H Q := h Q q
theorem r_call {sp : Sp} {dvs : List V} {E : XK} {t : TA} (q : t σ H fun vs H1 => sp (vs ++ dvs) H1 Q E) : tCall sp dvs E t σ H Q := q
theorem r_if {t : TT} {ta tb : TE} (q : t σ H fun c H1 => if c = true then ta σ H1 Q else tb σ H1 Q) : tIf t ta tb σ H Q := q
theorem r_nil {Q : List V → Hp → Prop} (q : Q [] H) : tNil σ H Q := q
theorem r_cons {ta : TE} {tr : TA} {Q : List V → Hp → Prop} (q : ta σ H fun x H1 => tr σ H1 fun xs H2 => Q (x :: xs) H2) : tCons ta tr σ H Q := q
/-- a new list, a new tuple: what is wanted of it -/
def MkL (xs : List V) (H : Hp) (Q : VK) : Prop := xs.length ≤ sizeLine ∧ ∀ p, H p = none → Q (.ref p) (upd H p (.lst xs))
def MkU (xs : List V) (H : Hp) (Q : VK) : Prop := xs.length ≤ sizeLine ∧ ∀ p, H p = none → Q (.ref p) (upd H p (.tup xs))
theorem r_mkL {xs : List V} (n : xs.length ≤ sizeLine) (q : ∀ p H', H p = none → Ex H H' → H' p = some (.lst xs) → Q (.ref p) H') : MkL xs H Q := ⟨n, fun p hp => q p _ hp (exN hp) upd_same⟩
theorem r_mkU {xs : List V} (n : xs.length ≤ sizeLine) (q : ∀ p H', H p = none → Ex H H' → H' p = some (.tup xs) → Q (.ref p) H') : MkU xs H Q := ⟨n, fun p hp => q p _ hp (exN hp) upd_same⟩
theorem r_tup {t : TA} (q : t σ H fun xs H1 => MkU xs H1 Q) : tTup t σ H Q := q
theorem r_lst {t : TA} (q : t σ H fun xs H1 => MkL xs H1 Q) : tLst t σ H Q := q
theorem r_test {t : TE} {Q : Bool → Hp → Prop} (q : t σ H fun x H' => ∃ k, x = .bl k ∧ Q k H') : tTest t σ H Q := q
theorem r_tB {t : TE} {Q : Bool → Hp → Prop} (q : t σ H fun x H' => ∃ k, x = .bl k ∧ Q k H') : tB t σ H Q := q
theorem r_bl {k : Bool} {P : Bool → Prop} (q : P k) : ∃ k', V.bl k = .bl k' ∧ P k' := ⟨k, rfl, q⟩
theorem r_and {t u : TT} {Q : Bool → Hp → Prop} (q : t σ H fun c H1 => if c = true then u σ H1 Q else Q false H1) : tAnd t u σ H Q := q
theorem r_or {t u : TT} {Q : Bool → Hp → Prop} (q : t σ H fun c H1 => if c = true then Q true H1 else u σ H1 Q) : tOr t u σ H Q := q
theorem r_not {t : TT} {Q : Bool → Hp → Prop} (q : t σ H fun c H1 => Q (!c) H1) : tNot t σ H Q := q
theorem r_chain {r r' : R2} {ta tb tc : TE} (q : ta σ H fun x H1 => tb σ H1 fun y H2 => r x y H2 fun z H3 => ∃ k, z = .bl k ∧ (if k = true then tc σ H3 fun w' H4 => r' y w' H4 Q else Q (.bl false) H3)) : tChain r r' ta tb tc σ H Q := q
theorem r_andV {ta tb : TE} (q : ta σ H fun x H1 => ∃ c, x = .bl c ∧ if c = true then tb σ H1 Q else Q (.bl false) H1) : tAndV ta tb σ H Q := q
theorem r_orV {ta tb : TE} (q : ta σ H fun x H1 => ∃ c, x = .bl c ∧ if c = true then Q (.bl true) H1 else tb σ H1 Q) : tOrV ta tb σ H Q := q
theorem r_notV {ta : TE} (q : ta σ H fun x H1 => ∃ c, x = .bl c ∧ Q (.bl (!c)) H1) : tNotV ta σ H Q := q
theorem r_I0 {g : Int → Int → V} {i j : Int} (q : Q (g i j) H) : rI0 g (.int i) (.int j) H Q := ⟨i, j, rfl, rfl, q⟩
theorem r_I {C : Int → Int → Prop} {g : Int → Int → V} {i j : Int} (c : C i j) (q : Q (g i j) H) : rI C g (.int i) (.int j) H Q := ⟨i, j, rfl, rfl, c, q⟩
theorem r_U {g : Int → V} {i : Int} (q : Q (g i) H) : rU g (.int i) H Q := ⟨i, rfl, q⟩
theorem r_eqI {i j : Int} (q : Q (.bl (decide (i = j))) H) : rEq (.int i) (.int j) H Q := ⟨rfl, by rw [show decide (V.int i = V.int j) = decide (i = j) by simp]; exact q⟩
theorem r_neI {i j : Int} (q : Q (.bl (!decide (i = j))) H) : rNe (.int i) (.int j) H Q := ⟨rfl, by rw [show decide (V.int i = V.int j) = decide (i = j) by simp]; exact q⟩
theorem r_eqS {i j : Str} (q : Q (.bl (decide (i = j))) H) : rEq (.str i) (.str j) H Q := ⟨rfl, by rw [show decide (V.str i = V.str j) = decide (i = j) by simp]; exact q⟩
theorem r_neS {i j : Str} (q : Q (.bl (!decide (i = j))) H) : rNe (.str i) (.str j) H Q := ⟨rfl, by rw [show decide (V.str i = V.str j) = decide (i = j) by simp]; exact q⟩
theorem r_eqB {i j : Bool} (q : Q (.bl (decide (i = j))) H) : rEq (.bl i) (.bl j) H Q := ⟨rfl, by rw [show decide (V.bl i = V.bl j) = decide (i = j) by simp]; exact q⟩
variable {K : PySem.W.Frag}
theorem r_ixL {p : Addr} {xs : List V} {i : Int} (h : SqL K H p xs) (e : atI xs i = some v) (q : Q v H) : rIxL K (.ref p) (.int i) H Q := ⟨p, xs, i, v, rfl, rfl, h, e, q⟩
theorem r_ixT {p : Addr} {xs : List V} {i : Int} (h : SqT K H p xs) (e : atI xs i = some v) (q : Q v H) : rIxT K (.ref p) (.int i) H Q := ⟨p, xs, i, v, rfl, rfl, h, e, q⟩
end
section
variable {nx : L2.St → Hp → Prop} {rt : VK} {bk ct : L2.St → Hp → Prop} {σ : L2.St} {H : Hp}
theorem at_start {t : TS} {D : Ends} {σ0 : L2.St} (h : σ0 = σ) (q : t D σ H) : t D σ0 H := by rw [h]; exact q
theorem r_seq {t u : TS} (q : t ⟨u ⟨nx, rt, bk, ct⟩, rt, bk, ct⟩ σ H) : tSeq t u ⟨nx, rt, bk, ct⟩ σ H := q
theorem r_next (q : nx σ H) : tNext ⟨nx, rt, bk, ct⟩ σ H := q
theorem r_break (q : bk σ H) : tBreak ⟨nx, rt, bk, ct⟩ σ H := q
theorem r_asg {te : TE} {g : TG} (q : te σ H fun x H1 => g x σ H1 nx) : tAsg te g ⟨nx, rt, bk, ct⟩ σ H := q
theorem r_name {i : Nat} {v : V} {σ' : L2.St} {Q : L2.St → Hp → Prop} (h : σ.set i (some v) = σ') (q : Q σ' H) : gName i v σ H Q := by
  show Q (σ.set i (some v)) H
  rw [h]
  exact q
theorem r_ret {te : TE} (q : te σ H rt) : tRet te ⟨nx, rt, bk, ct⟩ σ H := q
theorem r_retN (q : rt .non H) : tRetN ⟨nx, rt, bk, ct⟩ σ H := q
theorem r_ifS {c : TT} {t u : TS} (q : c σ H fun b H1 => if b = true then t ⟨nx, rt, bk, ct⟩ σ H1 else u ⟨nx, rt, bk, ct⟩ σ H1) : tIfS c t u ⟨nx, rt, bk, ct⟩ σ H := q
theorem r_drop {te : TE} (q : te σ H fun _ H1 => nx σ H1) : tDrop te ⟨nx, rt, bk, ct⟩ σ H := q
theorem r_par {i j : Nat} {ta : TA} (q : ta σ H fun vs H1 => ∃ v w, vs = [v, w] ∧ nx ((σ.set i (some v)).set j (some w)) H1) : tPar i j ta ⟨nx, rt, bk, ct⟩ σ H := q
theorem r_par2 {v w : V} {i j : Nat} {σ' : L2.St} (h : (σ.set i (some v)).set j (some w) = σ') (q : nx σ' H) : ∃ v' w', [v, w] = [v', w'] ∧ nx ((σ.set i (some v')).set j (some w')) H := ⟨v, w, rfl, by rw [h]; exact q⟩
theorem r_par3 {i j l : Nat} {ta : TA} (q : ta σ H fun vs H1 => ∃ u v w, vs = [u, v, w] ∧ nx (((σ.set i (some u)).set j (some v)).set l (some w)) H1) : tPar3 i j l ta ⟨nx, rt, bk, ct⟩ σ H := q
theorem r_par3b {u v w : V} {i j l : Nat} {σ' : L2.St} (h : ((σ.set i (some u)).set j (some v)).set l (some w) = σ') (q : nx σ' H) : ∃ u' v' w', [u, v, w] = [u', v', w'] ∧ nx (((σ.set i (some u')).set j (some v')).set l (some w')) H := ⟨u, v, w, rfl, by rw [h]; exact q⟩
theorem r_aug {i : Nat} {te : TE} {ti : TIp} {x : V} (h : σ[i]? = some (some x)) (q : te σ H fun y H1 => ti x y H1 fun z H2 => nx (σ.set i (some z)) H2) : tAug i te ti ⟨nx, rt, bk, ct⟩ σ H := ⟨x, h, q⟩
theorem r_ipI {f : Int → Int → Int} {a b : Int} {Q : VK} (q : Q (.int (f a b)) H) : ipI f (.int a) (.int b) H Q := ⟨a, b, rfl, rfl, q⟩
theorem r_tup2 {K : PySem.W.Frag} {t : TGs} {a : Addr} {xs : List V} {n : Nat} {Q : L2.St → Hp → Prop} (h : SqT K H a xs) (hn : xs.length = n) (q : t xs σ H Q) : gTup K n t (.ref a) σ H Q := ⟨a, xs, rfl, h, hn, q⟩
theorem r_gcons {t : TG} {u : TGs} {v : V} {r : List V} {Q : L2.St → Hp → Prop} (q : t v σ H fun σ' H' => u r σ' H' Q) : gCons t u (v :: r) σ H Q := ⟨v, r, rfl, q⟩
theorem r_gnil {Q : L2.St → Hp → Prop} (q : Q σ H) : gNil [] σ H Q := ⟨rfl, q⟩
/-- xs.append(e) -/
theorem r_app {K : PySem.W.Frag} {to : TE} {ta : TA} {Q : VK} (q : to σ H fun x H1 => tyV K "list" x H1 ∧ ta σ H1 fun xs H2 => rAppend x xs H2 Q) : tBM K "list" rAppend to ta σ H Q := q
theorem r_app1 {K : PySem.W.Frag} {l : Addr} {xs : List V} {R : Prop} (h : H l = some (.lst xs)) (q : R) : tyV K "list" (.ref l) H ∧ R := ⟨.inl ⟨rfl, _, SqL.of h⟩, q⟩
theorem r_app2 {l : Addr} {xs : List V} {y : V} {Q : VK} (h : H l = some (.lst xs)) (n : xs.length < sizeLine) (q : Q .non (upd H l (.lst (xs ++ [y])))) : rAppend (.ref l) [y] H Q := ⟨l, xs, y, rfl, rfl, h, n, q⟩
end
/-- tests -/
theorem iteD {c : Prop} [Decidable c] {A B : Prop} (h1 : c → A) (h2 : ¬ c → B) : if decide c = true then A else B := by
  by_cases h : c
  · rw [decide_eq_true h, if_pos rfl]; exact h1 h
  · rw [decide_eq_false h, if_neg Bool.false_ne_true]; exact h2 h
theorem iteN {c : Prop} [Decidable c] {A B : Prop} (h1 : ¬ c → A) (h2 : c → B) : if (!decide c) = true then A else B := by
  by_cases h : c
  · rw [decide_eq_true h]; exact (if_neg Bool.false_ne_true).mpr (h2 h)
  · rw [decide_eq_false h]; exact (if_pos rfl).mpr (h1 h)
theorem iteNT {A B : Prop} (h : B) : if (!true) = true then A else B := (if_neg (by decide)).mpr h
theorem iteNF {A B : Prop} (h : A) : if (!false) = true then A else B := (if_pos (by decide)).mpr h
theorem iteB {c : Bool} {A B : Prop} (h1 : c = true → A) (h2 : c = false → B) : if c = true then A else B := by
  cases c with
  | true => rw [if_pos rfl]; exact h1 rfl
  | false => rw [if_neg Bool.false_ne_true]; exact h2 rfl
/-- while -/
theorem r_while {t : TT} {tb : TS} {nx : L2.St → Hp → Prop} {rt : VK} {bk ct : L2.St → Hp → Prop} {σ : L2.St} {H : Hp} (W : Nat → L2.St → Hp → Prop) (m0 : Nat) (h0 : W m0 σ H)
    (hs : ∀ m σ' H', W m σ' H' → t σ' H' fun b H1 => if b = true then ∃ N : L2.St → Hp → Prop, (∀ σ2 H2, N σ2 H2 → ∃ m', m' < m ∧ W m' σ2 H2) ∧ tb ⟨N, rt, nx, N⟩ σ' H1 else nx σ' H1) : tWhile t tb ⟨nx, rt, bk, ct⟩ σ H :=
  ⟨W, ⟨m0, h0⟩, hs⟩
theorem r_turn {tb : TS} {nx : L2.St → Hp → Prop} {rt : VK} {σ : L2.St} {H : Hp} {W : Nat → L2.St → Hp → Prop} {m : Nat} (q : tb ⟨fun σ2 H2 => ∃ m', m' < m ∧ W m' σ2 H2, rt, nx, fun σ2 H2 => ∃ m', m' < m ∧ W m' σ2 H2⟩ σ H) :
    ∃ N : L2.St → Hp → Prop, (∀ σ2 H2, N σ2 H2 → ∃ m', m' < m ∧ W m' σ2 H2) ∧ tb ⟨N, rt, nx, N⟩ σ H := ⟨_, fun _ _ h => h, q⟩
/-! ### built-ins by names of their rules -/
section
variable {X : Cx} {K : PySem.W.Frag} {H : Hp} {Q : VK}
def rLen (K : PySem.W.Frag) : List V → Hp → VK → Prop := fun xs H Q => ∃ p ys, xs = [.ref p] ∧ (SqL K H p ys ∨ SqT K H p ys) ∧ Q (.int ys.length) H
theorem cr_len : CallR X (.builtin "len") (rLen X.K) := call_len_seq
theorem r_len {p : Addr} {xs : List V} {n : Nat} (h : SqL K H p xs) (hn : xs.length = n) (q : Q (.int n) H) : rLen K [.ref p] H Q := ⟨p, xs, rfl, .inl h, by rw [hn]; exact q⟩
theorem r_lenU {p : Addr} {xs : List V} {n : Nat} (h : SqT K H p xs) (hn : xs.length = n) (q : Q (.int n) H) : rLen K [.ref p] H Q := ⟨p, xs, rfl, .inr h, by rw [hn]; exact q⟩
def rLenS : List V → Hp → VK → Prop := fun xs H Q => ∃ z : Str, xs = [.str z] ∧ z.length ≤ sizeLine ∧ Q (.int z.length) H
theorem cr_lenS : CallR X (.builtin "len") rLenS := call_len_str
theorem r_lenS {z : Str} {n : Nat} (hn : z.length = n) (h : n ≤ sizeLine) (q : Q (.int n) H) : rLenS [.str z] H Q := ⟨z, rfl, by rw [hn]; exact h, by rw [hn]; exact q⟩
def rAbs : List V → Hp → VK → Prop := fun xs H Q => ∃ i, xs = [.int i] ∧ Q (.int (if i < 0 then -i else i)) H
theorem cr_abs : CallR X (.builtin "abs") rAbs := call_abs
theorem r_abs {i : Int} (q : Q (.int (i.natAbs : Int)) H) : rAbs [.int i] H Q := ⟨i, rfl, by
  have e : (if i < 0 then -i else i) = (i.natAbs : Int) := by split <;> omega
  rw [e]
  exact q⟩
def rMax2 : List V → Hp → VK → Prop := fun xs H Q => ∃ i j, xs = [.int i, .int j] ∧ Q (.int (if j > i then j else i)) H
theorem cr_max2 (hc : X.calm = true) : CallR X (.builtin "max") rMax2 := call_max2 hc
theorem r_max2 {i j : Int} (q : Q (.int (max i j)) H) : rMax2 [.int i, .int j] H Q := ⟨i, j, rfl, by
  have e : (if j > i then j else i) = max i j := by split <;> omega
  rw [e]
  exact q⟩
def rMin2 : List V → Hp → VK → Prop := fun xs H Q => ∃ i j, xs = [.int i, .int j] ∧ Q (.int (if j < i then j else i)) H
theorem cr_min2 (hc : X.calm = true) : CallR X (.builtin "min") rMin2 := call_min2 hc
theorem r_min2 {i j : Int} (q : Q (.int (min i j)) H) : rMin2 [.int i, .int j] H Q := ⟨i, j, rfl, by
  have e : (if j < i then j else i) = min i j := by split <;> omega
  rw [e]
  exact q⟩
theorem r_sum {p : Addr} {ns : List Int} (h : SqL K H p (ns.map V.int)) (q : Q (.int ns.sum) H) : rSum K [.ref p] H Q := ⟨p, ns, rfl, h, q⟩
theorem r_all {p : Addr} {bs : List Bool} (h : SqL K H p (bs.map V.bl)) (q : Q (.bl (bs.all id)) H) : rAll K [.ref p] H Q := ⟨p, bs, rfl, h, q⟩
theorem r_any {p : Addr} {bs : List Bool} (h : SqL K H p (bs.map V.bl)) (q : Q (.bl (bs.any id)) H) : rAny K [.ref p] H Q := ⟨p, bs, rfl, h, q⟩
theorem r_minL {p : Addr} {ns : List Int} (h : SqL K H p (ns.map V.int)) (n : 0 < ns.length) (q : ∀ m, m ∈ ns → (∀ y ∈ ns, m ≤ y) → Q (.int m) H) : rMin K [.ref p] H Q := ⟨p, ns, rfl, h, n, fun m a b => q m a b⟩
theorem r_maxL {p : Addr} {ns : List Int} (h : SqL K H p (ns.map V.int)) (n : 0 < ns.length) (q : ∀ m, m ∈ ns → (∀ y ∈ ns, y ≤ m) → Q (.int m) H) : rMax K [.ref p] H Q := ⟨p, ns, rfl, h, n, fun m a b => q m a b⟩
def rListOf (K : PySem.W.Frag) : List V → Hp → VK → Prop := fun xs H Q => ∃ p ys, xs = [.ref p] ∧ (SqL K H p ys ∨ SqT K H p ys) ∧ ∀ l, H l = none → Q (.ref l) (upd H l (.lst ys))
theorem cr_listOf : CallR X (.type "list") (rListOf X.K) := call_list_of
theorem r_listOf {p : Addr} {xs : List V} (h : SqL K H p xs) (q : ∀ l H', H l = none → Ex H H' → H' l = some (.lst xs) → Q (.ref l) H') : rListOf K [.ref p] H Q := ⟨p, xs, rfl, .inl h, fun l hl => q l _ hl (exN hl) upd_same⟩
theorem r_slL {p : Addr} {xs : List V} {lo hi : Option Int} (h : SqL K H p xs) (q : ∀ l H', H l = none → Ex H H' → H' l = some (.lst (cutV xs lo hi)) → Q (.ref l) H') : rSlL K (.ref p) lo hi H Q := ⟨p, xs, rfl, h, fun l hl => q l _ hl (exN hl) upd_same⟩
theorem r_cat {p q : Addr} {xs ys : List V} (h1 : H p = some (.lst xs)) (h2 : H q = some (.lst ys)) (n : xs.length + ys.length ≤ sizeLine) (k : ∀ l H', H l = none → Ex H H' → H' l = some (.lst (xs ++ ys)) → Q (.ref l) H') : rCat (.ref p) (.ref q) H Q :=
  ⟨p, q, xs, ys, rfl, rfl, h1, h2, n, fun l hl => k l _ hl (exN hl) upd_same⟩
def rAddS : R2 := fun x y H Q => ∃ i j, x = .str i ∧ y = .str j ∧ i.length + j.length ≤ sizeLine ∧ Q (.str (i ++ j)) H
theorem op_addS : OpR X (binaryOp .Add) rAddS := op_add_str
theorem r_addS {i j : Str} (n : i.length + j.length ≤ sizeLine) (q : Q (.str (i ++ j)) H) : rAddS (.str i) (.str j) H Q := ⟨i, j, rfl, rfl, n, q⟩
theorem r_ixS {z : Str} {i : Int} {c : Nat} (n : z.length ≤ sizeLine) (e : atI z.cps.toList i = some c) (q : Q (.str ⟨#[c]⟩) H) : rIxS (.str z) (.int i) H Q := ⟨z, i, c, rfl, rfl, n, e, q⟩
theorem r_isi {x c : V} {t u : Value} {b : Bool} (hc : ClsV c u) (ht : TyX K H x t) (e : PySem.W.kitOne K t u = some b) (q : Q (.bl b) H) : rIsi K [x, c] H Q := ⟨x, c, t, u, b, rfl, hc, ht, e, q⟩
theorem r_in {x : V} {p : Addr} {xs : List V} (h : SqL K H p xs ∨ SqT K H p xs) (f1 : flatV x = true) (f2 : xs.all flatV = true) (q : Q (.bl (inV x xs)) H) : rIn K false x (.ref p) H Q := ⟨p, xs, rfl, h, f1, f2, q⟩
theorem r_eqD {x y : V} (d e : PyData) (h1 : Dp K H x d) (h2 : Dp K H y e) (s1 : SeqAt.shaped d = true) (s2 : SeqAt.shaped e = true) (q : Q (.bl (PyData.eqv d e)) H) : rEqD K x y H Q := ⟨d, e, h1, h2, s1, s2, q⟩
theorem r_neD {x y : V} (d e : PyData) (h1 : Dp K H x d) (h2 : Dp K H y e) (s1 : SeqAt.shaped d = true) (s2 : SeqAt.shaped e = true) (q : Q (.bl (!PyData.eqv d e)) H) : rNeD K x y H Q := ⟨d, e, h1, h2, s1, s2, q⟩
theorem r_tPart {te : TE} {σ : L2.St} {Q : Option Int → Hp → Prop} (q : te σ H fun x H1 => ∃ i, x = .int i ∧ Q (some i) H1) : tPart te σ H Q := q
theorem r_noPart {σ : L2.St} {Q : Option Int → Hp → Prop} (q : Q none H) : tNoPart σ H Q := q
theorem r_int {i : Int} {P : Int → Prop} (q : P i) : ∃ j, V.int i = .int j ∧ P j := ⟨i, rfl, q⟩
theorem r_sl {r : V → Option Int → Option Int → Hp → VK → Prop} {te : TE} {tl th : TO} {σ : L2.St} (q : te σ H fun x H1 => tl σ H1 fun l H2 => th σ H2 fun u H3 => r x l u H3 Q) : tSl r te tl th σ H Q := q
end
/-! ### lists of pairs -/
section
variable {K : PySem.W.Frag} {H H' : Hp}
theorem exL {a : Addr} {xs : List V} (e : Ex H H') (h : SqL K H a xs) : SqL K H' a xs := Evl.ex_l e h
theorem exU {a : Addr} {xs : List V} (e : Ex H H') (h : SqT K H a xs) : SqT K H' a xs := Evl.ex_t e h
/-- a list of two-item tuples -/
def PairsAt (K : PySem.W.Frag) (H : Hp) (a : Addr) (xs : List (V × V)) : Prop :=
  ∃ vs : List V, H a = some (.lst vs) ∧ vs.length = xs.length ∧ ∀ (i : Nat) (x : V × V), xs[i]? = some x → ∃ p, vs[i]? = some (.ref p) ∧ H p = some (.tup [x.1, x.2])
theorem PairsAt.ex {a : Addr} {xs : List (V × V)} (e : Ex H H') (h : PairsAt K H a xs) : PairsAt K H' a xs := by
  obtain ⟨vs, h1, h2, h3⟩ := h
  exact ⟨vs, e _ _ h1, h2, fun i x hx => let ⟨p, q1, q2⟩ := h3 i x hx; ⟨p, q1, e _ _ q2⟩⟩
/-- the pair of names that a turn sets -/
abbrev gPair (K : PySem.W.Frag) (i j : Nat) : TG := gTup K 2 (gCons (gName i) (gCons (gName j) gNil))
theorem g_pair {σ : L2.St} {i j : Nat} {p : Addr} {x y : V} {Q : L2.St → Hp → Prop} (h : SqT K H p [x, y]) (q : Q ((σ.set i (some x)).set j (some y)) H) : gPair K i j (.ref p) σ H Q :=
  ⟨p, [x, y], rfl, h, rfl, x, [y], rfl, y, [], rfl, rfl, q⟩
/-! ### loops and comprehensions: what is wanted of the iterator -/
/-- a for's wish of what it walks -/
def ForK (g : TG) (tb : TS) (D : Ends) (σ : L2.St) : It → Hp → Prop := fun J H1 => ∃ W : Nat → Nat → L2.St → Hp → Prop, (∃ m, W 0 m σ H1) ∧ ∀ i m σ H, W i m σ H →
  (J.stop i H ∧ D.nx σ H) ∨ (J.go i H ∧ ∃ N : L2.St → Hp → Prop, (∀ σ' H', N σ' H' → ∃ m', m' < m ∧ W (i + 1) m' σ' H') ∧ ∀ x H', J.yld i H x H' → g x σ H' fun σ2 H2 => tb { D with nx := N, ct := N, bk := D.nx } σ2 H2)
theorem r_for {wi : TI} {g : TG} {tb : TS} {nx : L2.St → Hp → Prop} {rt : VK} {bk ct : L2.St → Hp → Prop} {σ : L2.St} (q : wi σ H (ForK g tb ⟨nx, rt, bk, ct⟩ σ)) : tFor wi g tb ⟨nx, rt, bk, ct⟩ σ H := q
/-- a comprehension's -/
def LcK (g : TG) (tt : TT) (te : TE) (vs : List Nat) (σ : L2.St) (Q : VK) : It → Hp → Prop := fun J H1 => ∀ D, H1 D = none → ∃ W : Nat → Nat → Hp → Prop, (∃ m, W 0 m (upd H1 D (.lst []))) ∧ ∀ i m H, W i m H →
  (J.stop i H ∧ Q (.ref D) H) ∨ (J.go i H ∧ ∃ Nx : Hp → Prop, (∀ H', Nx H' → ∃ m', m' < m ∧ W (i + 1) m' H') ∧ ∀ x H', J.yld i H x H' → g x (wipe σ vs) H' fun σ2 H2 => wipe σ2 vs = wipe σ vs ∧ tt σ2 H2 fun b H3 =>
    if b = true then te σ2 H3 fun y H4 => ∃ acc, H4 D = some (.lst acc) ∧ acc.length < sizeLine ∧ Nx (upd H4 D (.lst (acc ++ [y]))) else Nx H3)
theorem r_lc {wi : TI} {g : TG} {tt : TT} {te : TE} {vs : List Nat} {σ : L2.St} {Q : VK} (q : wi σ H (LcK g tt te vs σ Q)) : tLc wi g tt te vs σ H Q := q
theorem r_yes {σ : L2.St} {Q : Bool → Hp → Prop} (q : Q true H) : tYes σ H Q := q
theorem r_iL {tl : TE} {σ : L2.St} {R : It → Hp → Prop} (q : tl σ H fun x H1 => ∃ a, x = .ref a ∧ (∃ xs, SqL K H1 a xs) ∧ R (Itl K a) H1) : iList K tl σ H R := q
theorem r_iT {tl : TE} {σ : L2.St} {R : It → Hp → Prop} (q : tl σ H fun x H1 => ∃ a, x = .ref a ∧ (∃ xs, SqT K H1 a xs) ∧ R (Itt K a) H1) : iTup K tl σ H R := q
theorem r_atL {a : Addr} {xs : List V} {R : It → Hp → Prop} (h : SqL K H a xs) (q : R (Itl K a) H) : ∃ a', V.ref a = .ref a' ∧ (∃ xs, SqL K H a' xs) ∧ R (Itl K a') H := ⟨a, rfl, ⟨xs, h⟩, q⟩
theorem r_atT {a : Addr} {xs : List V} {R : It → Hp → Prop} (h : SqT K H a xs) (q : R (Itt K a) H) : ∃ a', V.ref a = .ref a' ∧ (∃ xs, SqT K H a' xs) ∧ R (Itt K a') H := ⟨a, rfl, ⟨xs, h⟩, q⟩
/-- for x, y in pairs -/
theorem forK_pairs {a : Addr} {xs : List (V × V)} {i j : Nat} {tb : TS} {nx : L2.St → Hp → Prop} {rt : VK} {bk ct : L2.St → Hp → Prop} {σ : L2.St} (H0 : Hp) (h0 : PairsAt K H0 a xs) (Pv : Nat → L2.St → Hp → Prop) (p0 : Pv 0 σ H)
    (hx : ∀ n σ' H', Pv n σ' H' → Ex H0 H')
    (hs : ∀ n x σ' H', xs[n]? = some x → Pv n σ' H' → tb ⟨Pv (n + 1), rt, nx, Pv (n + 1)⟩ ((σ'.set i (some x.1)).set j (some x.2)) H')
    (hd : ∀ σ' H', Pv xs.length σ' H' → nx σ' H') : ∃ a', V.ref a = .ref a' ∧ (∃ xs, SqL K H a' xs) ∧ ForK (gPair K i j) tb ⟨nx, rt, bk, ct⟩ σ (Itl K a') H := by
  obtain ⟨vs, h1, h2, h3⟩ := h0
  refine ⟨a, rfl, ⟨vs, exL (hx _ _ _ p0) (.of h1)⟩, for_it walk_list Pv p0 (fun n σ' H' _ p => exL (hx _ _ _ p) (.of h1)) (fun n x σ' H' H'' hn p y => ?_) (fun σ' H' p => hd σ' H' (h2 ▸ p))⟩
  obtain ⟨rfl, hy⟩ := y
  have hn' : n < xs.length := h2 ▸ hn
  obtain ⟨pp, q1, q2⟩ := h3 n xs[n] (List.getElem?_eq_getElem hn')
  rw [hy] at q1
  cases q1
  exact g_pair (exU (hx _ _ _ p) (.of q2)) (hs n _ _ _ (List.getElem?_eq_getElem hn') p)
/-- [e for x, y in pairs] -/
theorem lcK_pairs {a : Addr} {xs : List (V × V)} {te : TE} {i j : Nat} {ws : List Nat} {σ : L2.St} {Q : VK} (f : V × V → V) (h0 : PairsAt K H a xs) (hz : xs.length ≤ 40000)
    (hw : ∀ x y, wipe (((wipe σ ws).set i (some x)).set j (some y)) ws = wipe σ ws)
    (he : ∀ x ∈ xs, ∀ H1, Ex H H1 → ∀ Q : VK, (∀ H2, Ex H1 H2 → Q (f x) H2) → te (((wipe σ ws).set i (some x.1)).set j (some x.2)) H1 Q)
    (q : ∀ p H', H p = none → Ex H H' → H' p = some (.lst (xs.map f)) → Q (.ref p) H') : ∃ a', V.ref a = .ref a' ∧ (∃ xs, SqL K H a' xs) ∧ LcK (gPair K i j) tYes te ws σ Q (Itl K a') H := by
  obtain ⟨vs, h1, h2, h3⟩ := h0
  refine ⟨a, rfl, ⟨vs, .of h1⟩, fun Dl hD => ?_⟩
  refine lc_it walk_list (fun n H' => Ex H H' ∧ H' Dl = some (.lst ((xs.take n).map f))) ⟨exN hD, upd_same⟩ (fun n H' _ p => exL p.1 (.of h1)) (fun n x H' H'' hn p y => ?_) (fun H' p => ?_)
  · obtain ⟨rfl, hy⟩ := y
    have hn' : n < xs.length := h2 ▸ hn
    obtain ⟨pp, q1, q2⟩ := h3 n xs[n] (List.getElem?_eq_getElem hn')
    rw [hy] at q1
    cases q1
    refine g_pair (exU p.1 (.of q2)) ⟨hw _ _, ?_⟩
    refine r_yes (iteT ?_)
    refine he xs[n] (List.getElem_mem hn') _ p.1 _ fun H2 e2 => ⟨_, e2 _ _ p.2, ?_, exM (exT e2 p.1) hD, ?_⟩
    · rw [List.length_map, List.length_take]
      exact Evl.sz_lt (by omega)
    · rw [upd_same, List.take_add_one, List.getElem?_eq_getElem hn', List.map_append]
      rfl
  · refine q Dl H' hD p.1 ?_
    rw [p.2, h2, List.take_length]
/-- [e for x in ..], the item a name: what each turn gives is told by ys -/
theorem lcK_gen {J : It} {n : Nat} {G : Hp → Prop} {P : Nat → V → Prop} (w : Walk J n G fun i H x H' => H' = H ∧ P i x) {te : TE} {j : Nat} {ws : List Nat} {σ : L2.St} {Q : VK} (ys : List V) (hl : ys.length = n) (hG : ∀ H', Ex H H' → G H') (hz : n ≤ 40000)
    (hw : ∀ x, wipe ((wipe σ ws).set j (some x)) ws = wipe σ ws)
    (he : ∀ (i : Nat) (x y : V), P i x → ys[i]? = some y → ∀ H1, Ex H H1 → ∀ Q : VK, (∀ H2, Ex H1 H2 → Q y H2) → te ((wipe σ ws).set j (some x)) H1 Q)
    (q : ∀ p H', H p = none → Ex H H' → H' p = some (.lst ys) → Q (.ref p) H') : LcK (gName j) tYes te ws σ Q J H := by
  intro Dl hD
  refine lc_it w (fun m H' => Ex H H' ∧ H' Dl = some (.lst (ys.take m))) ⟨exN hD, upd_same⟩ (fun m H' _ p => hG _ p.1) (fun m x H' H'' hm p y => ?_) (fun H' p => ?_)
  · obtain ⟨rfl, hy⟩ := y
    have hm' : m < ys.length := hl ▸ hm
    refine ⟨hw _, r_yes (iteT ?_)⟩
    refine he m x ys[m] hy (List.getElem?_eq_getElem hm') _ p.1 _ fun H2 e2 => ⟨_, e2 _ _ p.2, ?_, exM (exT e2 p.1) hD, ?_⟩
    · rw [List.length_take]
      exact Evl.sz_lt (by omega)
    · rw [upd_same, List.take_add_one, List.getElem?_eq_getElem hm']
      rfl
  · refine q Dl H' hD p.1 ?_
    rw [p.2, ← hl, List.take_length]
theorem lcK_list {a : Addr} {xs : List V} {te : TE} {j : Nat} {ws : List Nat} {σ : L2.St} {Q : VK} (ys : List V) (hl : ys.length = xs.length) (h0 : SqL K H a xs) (hz : xs.length ≤ 40000)
    (hw : ∀ x, wipe ((wipe σ ws).set j (some x)) ws = wipe σ ws)
    (he : ∀ (i : Nat) (x y : V), xs[i]? = some x → ys[i]? = some y → ∀ H1, Ex H H1 → ∀ Q : VK, (∀ H2, Ex H1 H2 → Q y H2) → te ((wipe σ ws).set j (some x)) H1 Q)
    (q : ∀ p H', H p = none → Ex H H' → H' p = some (.lst ys) → Q (.ref p) H') : ∃ a', V.ref a = .ref a' ∧ (∃ xs, SqL K H a' xs) ∧ LcK (gName j) tYes te ws σ Q (Itl K a') H :=
  ⟨a, rfl, ⟨xs, h0⟩, lcK_gen (walk_list (xs := xs)) ys hl (fun H' e => exL e h0) hz hw he q⟩
theorem lcK_range {n : Nat} {te : TE} {j : Nat} {ws : List Nat} {σ : L2.St} {Q : VK} (ys : List V) (hl : ys.length = n) (hz : n ≤ 40000)
    (hw : ∀ x, wipe ((wipe σ ws).set j (some x)) ws = wipe σ ws)
    (he : ∀ (i : Nat) (y : V), ys[i]? = some y → ∀ H1, Ex H H1 → ∀ Q : VK, (∀ H2, Ex H1 H2 → Q y H2) → te ((wipe σ ws).set j (some (.int (i : Int)))) H1 Q)
    (q : ∀ p H', H p = none → Ex H H' → H' p = some (.lst ys) → Q (.ref p) H') : LcK (gName j) tYes te ws σ Q (Itr 0 n) H :=
  lcK_gen (walk_range.mono (fun _ h => h) fun _ _ _ _ _ _ y => y) ys hl (fun _ _ => trivial) hz hw (fun i x y hx hy H1 e1 Q1 k1 => by
    have hx' : x = .int (0 + (i : Int)) := hx
    rw [Int.zero_add] at hx'
    subst hx'
    exact he i y hy H1 e1 Q1 k1) q
theorem r_rng1 {ta : TA} {σ : L2.St} {R : It → Hp → Prop} (q : ta σ H fun vs H1 => ∃ j : Int, vs = [.int j] ∧ -(2 ^ 62) ≤ j ∧ j < 2 ^ 62 ∧ R (Itr 0 j.toNat) H1) : iRng1 ta σ H R := q
theorem r_rng1b {j : Int} {n : Nat} {R : It → Hp → Prop} (hj : j = (n : Int)) (hn : n < 1000000) (q : R (Itr 0 n) H) : ∃ j' : Int, [V.int j] = [.int j'] ∧ -(2 ^ 62) ≤ j' ∧ j' < 2 ^ 62 ∧ R (Itr 0 j'.toNat) H :=
  ⟨j, rfl, by omega, by omega, by rw [hj, Int.toNat_natCast]; exact q⟩
end
/-! ### rings -/
/-- stretches: True for the kind a -/
abbrev Ring := List (Bool × Int)
def kS (k : Bool) : Str := if k then "a" else "b"
theorem kS_a (k : Bool) : decide (kS k = ("a" : Str)) = k := by cases k <;> decide
theorem kS_inj {k l : Bool} : kS k = kS l ↔ k = l := by cases k <;> cases l <;> decide
def prV (x : Bool × Int) : V × V := (.str (kS x.1), .int x.2)
def unpr (f : Bool × Int → V) : V × V → V
  | (.str s, .int m) => f (decide (s = ("a" : Str)), m)
  | _ => .non
theorem unpr_prV (f : Bool × Int → V) (x : Bool × Int) : unpr f (prV x) = f x := by
  show f (decide (kS x.1 = ("a" : Str)), x.2) = f x
  rw [kS_a]
def RingAt (K : PySem.W.Frag) (H : Hp) (a : Addr) (r : Ring) : Prop := PairsAt K H a (r.map prV)
section
variable {K : PySem.W.Frag} {H H' : Hp}
theorem RingAt.ex {a : Addr} {r : Ring} (e : Ex H H') (h : RingAt K H a r) : RingAt K H' a r := PairsAt.ex e h
theorem forK_ring {a : Addr} {r : Ring} {i j : Nat} {tb : TS} {nx : L2.St → Hp → Prop} {rt : VK} {bk ct : L2.St → Hp → Prop} {σ : L2.St} (H0 : Hp) (h0 : RingAt K H0 a r) (Pv : Nat → L2.St → Hp → Prop) (p0 : Pv 0 σ H)
    (hx : ∀ n σ' H', Pv n σ' H' → Ex H0 H')
    (hs : ∀ n k m σ' H', r[n]? = some (k, m) → Pv n σ' H' → tb ⟨Pv (n + 1), rt, nx, Pv (n + 1)⟩ ((σ'.set i (some (.str (kS k)))).set j (some (.int m))) H')
    (hd : ∀ σ' H', Pv r.length σ' H' → nx σ' H') : ∃ a', V.ref a = .ref a' ∧ (∃ xs, SqL K H a' xs) ∧ ForK (gPair K i j) tb ⟨nx, rt, bk, ct⟩ σ (Itl K a') H := by
  refine forK_pairs H0 h0 Pv p0 hx (fun n x σ' H' hn p => ?_) (fun σ' H' p => hd σ' H' (by rw [List.length_map] at p; exact p))
  rw [List.getElem?_map] at hn
  cases e : r[n]? with
  | none => rw [e] at hn; cases hn
  | some y =>
    rw [e] at hn
    cases hn
    exact hs n y.1 y.2 σ' H' e p
theorem lcK_ring {a : Addr} {r : Ring} {te : TE} {i j : Nat} {ws : List Nat} {σ : L2.St} {Q : VK} (f : Bool × Int → V) (h0 : RingAt K H a r) (hz : r.length ≤ 40000)
    (hw : ∀ x y, wipe (((wipe σ ws).set i (some x)).set j (some y)) ws = wipe σ ws)
    (he : ∀ k m, (k, m) ∈ r → ∀ H1, Ex H H1 → ∀ Q : VK, (∀ H2, Ex H1 H2 → Q (f (k, m)) H2) → te (((wipe σ ws).set i (some (.str (kS k)))).set j (some (.int m))) H1 Q)
    (q : ∀ p H', H p = none → Ex H H' → H' p = some (.lst (r.map f)) → Q (.ref p) H') : ∃ a', V.ref a = .ref a' ∧ (∃ xs, SqL K H a' xs) ∧ LcK (gPair K i j) tYes te ws σ Q (Itl K a') H := by
  have em : (r.map prV).map (unpr f) = r.map f := by
    rw [List.map_map]
    exact List.map_congr_left fun x _ => unpr_prV f x
  refine lcK_pairs (unpr f) h0 (by rw [List.length_map]; exact hz) hw (fun x hx H1 e1 Q1 k1 => ?_) (fun p H' n e h => q p H' n e (by rw [h, em]))
  obtain ⟨y, hy, rfl⟩ := List.mem_map.mp hx
  refine he y.1 y.2 hy H1 e1 Q1 fun H2 e2 => ?_
  have z := k1 H2 e2
  rw [unpr_prV] at z
  exact z
/-- a ring as data -/
def stD (x : Bool × Int) : PyData := .tuple [.str (kS x.1), .int x.2]
def rdD (r : Ring) : PyData := .list (r.map stD)
theorem rdD_all (r : Ring) : PyData.canLayAll0 (r.map stD) = true ∧ PyData.depthAll (r.map stD) ≤ 1 := by
  induction r with
  | nil => exact ⟨by simp [PyData.canLayAll0], by simp [PyData.depthAll]⟩
  | cons x r ih =>
    have h1 : PyData.strOk (kS x.1) = true := by cases x.1 <;> decide +kernel
    refine ⟨?_, ?_⟩
    · rw [List.map_cons, PyData.canLayAll0, ih.1, stD, PyData.canLay0, PyData.canLayAll0, PyData.canLay0, h1, PyData.canLayAll0, PyData.canLay0, PyData.canLayAll0]
      rfl
    · rw [List.map_cons, PyData.depthAll, stD, PyData.depth, PyData.depthAll, PyData.depth, PyData.depthAll, PyData.depth, PyData.depthAll]
      have := ih.2
      omega
theorem rdD_shaped (r : Ring) : SeqAt.shaped (rdD r) = true := by
  have h := rdD_all r
  unfold SeqAt.shaped rdD
  rw [PyData.canLay0, h.1, PyData.depth]
  have := h.2
  exact decide_eq_true (by omega)
theorem rdD_same (r : Ring) : PyData.eqv (rdD r) (rdD r) = true := SeqAt.eqv_refl _ (by
  unfold rdD
  rw [PyData.canLay0]
  exact (rdD_all r).1)
theorem rdD_nil (r : Ring) : PyData.eqv (rdD r) (rdD []) = decide (r = []) := by
  cases r with
  | nil => simp [rdD, PyData.eqv, PyData.eqvAll]
  | cons x r => simp [rdD, PyData.eqv, PyData.eqvAll]
theorem RingAt.dp {a : Addr} {r : Ring} (h : RingAt K H a r) : Dp K H (.ref a) (rdD r) := by
  obtain ⟨vs, h1, h2, h3⟩ := h
  refine Dp.lst (.of h1) ?_
  clear h1
  rw [List.length_map] at h2
  induction r generalizing vs with
  | nil =>
    cases vs with
    | nil => exact .nil
    | cons v vs => simp at h2
  | cons x r ih =>
    cases vs with
    | nil => simp at h2
    | cons v vs =>
      obtain ⟨p, q1, q2⟩ := h3 0 (prV x) rfl
      have ev : v = .ref p := by simpa using q1
      subst ev
      refine .cons (.tup (.of q2) (.cons (.str _) (.cons (.int _) .nil))) (ih vs (by simpa using h2) fun i y hy => ?_)
      obtain ⟨p', z1, z2⟩ := h3 (i + 1) y (by simpa using hy)
      exact ⟨p', by simpa using z1, z2⟩
/-! ### two things a turn, in a new pair -/
theorem forK_two {J : It} {n : Nat} {G : Hp → Prop} {f g : Nat → Option V} (w : Walk J n G (YPair f g)) {i : Nat} {g2 : TG} {tb : TS} {nx : L2.St → Hp → Prop} {rt : VK} {bk ct : L2.St → Hp → Prop} {σ : L2.St} (Pv : Nat → L2.St → Hp → Prop) (p0 : Pv 0 σ H)
    (hG : ∀ m σ' H', m ≤ n → Pv m σ' H' → G H') (hm : ∀ m σ' H' H'', Ex H' H'' → Pv m σ' H' → Pv m σ' H'')
    (hs : ∀ m x y σ' H', m < n → f m = some x → g m = some y → Pv m σ' H' → g2 y (σ'.set i (some x)) H' fun σ2 H2 => gNil [] σ2 H2 fun σ2 H2 => tb ⟨Pv (m + 1), rt, nx, Pv (m + 1)⟩ σ2 H2)
    (hd : ∀ σ' H', Pv n σ' H' → nx σ' H') : ForK (gTup K 2 (gCons (gName i) (gCons g2 gNil))) tb ⟨nx, rt, bk, ct⟩ σ J H := by
  refine for_it w Pv p0 hG (fun m x σ' H' H'' hm' p y => ?_) hd
  obtain ⟨T, a, b, rfl, hT, rfl, ha, hb⟩ := y
  refine ⟨T, [a, b], rfl, .of upd_same, rfl, a, [b], rfl, b, [], rfl, ?_⟩
  exact hs m a b σ' _ hm' ha hb (hm m σ' H' _ (exN hT) p)
theorem r_enum {ta : TA} {σ : L2.St} {R : It → Hp → Prop} (q : ta σ H fun vs H1 => ∃ a xs, vs = [.ref a] ∧ SqL K H1 a xs ∧ R (Ite K a) H1) : iEnum K ta σ H R := q
theorem r_enumb {a : Addr} {xs : List V} {R : It → Hp → Prop} (h : SqL K H a xs) (q : R (Ite K a) H) : ∃ a' xs, [V.ref a] = [.ref a'] ∧ SqL K H a' xs ∧ R (Ite K a') H := ⟨a, xs, rfl, h, q⟩
/-- for k, x in enumerate(whole numbers) -/
theorem forK_enum {a : Addr} {ns : List Int} {i j : Nat} {tb : TS} {nx : L2.St → Hp → Prop} {rt : VK} {bk ct : L2.St → Hp → Prop} {σ : L2.St} (H0 : Hp) (h0 : SqL K H0 a (ns.map V.int)) (Pv : Nat → L2.St → Hp → Prop) (p0 : Pv 0 σ H)
    (hx : ∀ n σ' H', Pv n σ' H' → Ex H0 H') (hm : ∀ m σ' H' H'', Ex H' H'' → Pv m σ' H' → Pv m σ' H'')
    (hs : ∀ n z σ' H', ns[n]? = some z → Pv n σ' H' → tb ⟨Pv (n + 1), rt, nx, Pv (n + 1)⟩ ((σ'.set i (some (.int (n : Int)))).set j (some (.int z))) H')
    (hd : ∀ σ' H', Pv ns.length σ' H' → nx σ' H') : ∃ a' xs, [V.ref a] = [.ref a'] ∧ SqL K H a' xs ∧ ForK (gPair K i j) tb ⟨nx, rt, bk, ct⟩ σ (Ite K a') H := by
  refine r_enumb (exL (hx _ _ _ p0) h0) (forK_two (walk_enum (xs := ns.map V.int)) Pv p0 (fun m σ' H' _ p => exL (hx _ _ _ p) h0) hm (fun m x y σ' H' hm' ex ey p => ?_) (fun σ' H' p => hd σ' H' (by rw [List.length_map] at p; exact p)))
  cases ex
  rw [List.getElem?_map] at ey
  cases q : ns[m]? with
  | none => rw [q] at ey; cases ey
  | some z =>
    rw [q] at ey
    cases ey
    exact ⟨rfl, hs m z σ' H' q p⟩
/-- for x, y in zip(whole numbers, whole numbers), as many of either -/
theorem r_zip {ta : TA} {σ : L2.St} {R : It → Hp → Prop} (q : ta σ H fun vs H1 => ∃ a b xs ys, vs = [.ref a, .ref b] ∧ SqL K H1 a xs ∧ SqL K H1 b ys ∧ R (Itz K a b) H1) : iZip K ta σ H R := q
theorem forK_zipI {a b : Addr} {xs ys : List Int} {i j : Nat} {tb : TS} {nx : L2.St → Hp → Prop} {rt : VK} {bk ct : L2.St → Hp → Prop} {σ : L2.St} (H0 : Hp) (h1 : SqL K H0 a (xs.map V.int)) (h2 : SqL K H0 b (ys.map V.int)) (hl : ys.length = xs.length) (Pv : Nat → L2.St → Hp → Prop) (p0 : Pv 0 σ H)
    (hx : ∀ n σ' H', Pv n σ' H' → Ex H0 H') (hm : ∀ m σ' H' H'', Ex H' H'' → Pv m σ' H' → Pv m σ' H'')
    (hs : ∀ n x y σ' H', xs[n]? = some x → ys[n]? = some y → Pv n σ' H' → tb ⟨Pv (n + 1), rt, nx, Pv (n + 1)⟩ ((σ'.set i (some (.int x))).set j (some (.int y))) H')
    (hd : ∀ σ' H', Pv xs.length σ' H' → nx σ' H') : ∃ a' b' xs ys, [V.ref a, V.ref b] = [.ref a', .ref b'] ∧ SqL K H a' xs ∧ SqL K H b' ys ∧ ForK (gPair K i j) tb ⟨nx, rt, bk, ct⟩ σ (Itz K a' b') H := by
  refine ⟨a, b, _, _, rfl, exL (hx _ _ _ p0) h1, exL (hx _ _ _ p0) h2, forK_two (walk_zip (xs := xs.map V.int) (ys := ys.map V.int) (n := xs.length) (by rw [List.length_map, List.length_map]; omega)) Pv p0 (fun m σ' H' _ p => ⟨exL (hx _ _ _ p) h1, exL (hx _ _ _ p) h2⟩) hm (fun m x y σ' H' hm' ex ey p => ?_) hd⟩
  rw [List.getElem?_map] at ex ey
  cases q1 : xs[m]? with
  | none => rw [q1] at ex; cases ex
  | some u =>
    cases q2 : ys[m]? with
    | none => rw [q2] at ey; cases ey
    | some v =>
      rw [q1] at ex
      rw [q2] at ey
      cases ex
      cases ey
      exact ⟨rfl, hs m u v σ' H' q1 q2 p⟩
/-- for k, (a, b) in enumerate(a ring) -/
theorem forK_enumRing {a : Addr} {r : Ring} {i j l : Nat} {tb : TS} {nx : L2.St → Hp → Prop} {rt : VK} {bk ct : L2.St → Hp → Prop} {σ : L2.St} (H0 : Hp) (h0 : RingAt K H0 a r) (Pv : Nat → L2.St → Hp → Prop) (p0 : Pv 0 σ H)
    (hx : ∀ n σ' H', Pv n σ' H' → Ex H0 H') (hm : ∀ m σ' H' H'', Ex H' H'' → Pv m σ' H' → Pv m σ' H'')
    (hs : ∀ n k m σ' H', r[n]? = some (k, m) → Pv n σ' H' → tb ⟨Pv (n + 1), rt, nx, Pv (n + 1)⟩ (((σ'.set i (some (.int (n : Int)))).set j (some (.str (kS k)))).set l (some (.int m))) H')
    (hd : ∀ σ' H', Pv r.length σ' H' → nx σ' H') : ∃ a' xs, [V.ref a] = [.ref a'] ∧ SqL K H a' xs ∧ ForK (gTup K 2 (gCons (gName i) (gCons (gPair K j l) gNil))) tb ⟨nx, rt, bk, ct⟩ σ (Ite K a') H := by
  obtain ⟨vs, h1, h2, h3⟩ := h0
  rw [List.length_map] at h2
  refine r_enumb (exL (hx _ _ _ p0) (.of h1)) (forK_two (walk_enum (xs := vs)) Pv p0 (fun m σ' H' _ p => exL (hx _ _ _ p) (.of h1)) hm (fun m x y σ' H' hm' ex ey p => ?_) (fun σ' H' p => hd σ' H' (h2 ▸ p)))
  cases ex
  have hr : m < r.length := h2 ▸ hm'
  obtain ⟨q, z1, z2⟩ := h3 m (prV r[m]) (by rw [List.getElem?_map, List.getElem?_eq_getElem hr]; rfl)
  have e : y = .ref q := Option.some.inj (ey.symm.trans z1)
  subst e
  exact g_pair (.of (hx _ _ _ p _ _ z2)) ⟨rfl, hs m _ _ σ' H' (List.getElem?_eq_getElem hr) p⟩
/-- for x in a tuple of whole numbers, in a list of them -/
theorem forK_tupI {a : Addr} {zs : List Int} {j : Nat} {tb : TS} {nx : L2.St → Hp → Prop} {rt : VK} {bk ct : L2.St → Hp → Prop} {σ : L2.St} (H0 : Hp) (h0 : SqT K H0 a (zs.map V.int)) (Pv : Nat → L2.St → Hp → Prop) (p0 : Pv 0 σ H)
    (hx : ∀ n σ' H', Pv n σ' H' → Ex H0 H')
    (hs : ∀ n z σ' H', zs[n]? = some z → Pv n σ' H' → tb ⟨Pv (n + 1), rt, nx, Pv (n + 1)⟩ (σ'.set j (some (.int z))) H')
    (hd : ∀ σ' H', Pv zs.length σ' H' → nx σ' H') : ∃ a', V.ref a = .ref a' ∧ (∃ xs, SqT K H a' xs) ∧ ForK (gName j) tb ⟨nx, rt, bk, ct⟩ σ (Itt K a') H := by
  refine ⟨a, rfl, ⟨_, exU (hx _ _ _ p0) h0⟩, for_it (walk_tup (xs := zs.map V.int)) Pv p0 (fun n σ' H' _ p => exU (hx _ _ _ p) h0) (fun n x σ' H' H'' hn p y => ?_) (fun σ' H' p => hd σ' H' (by rw [List.length_map] at p; exact p))⟩
  obtain ⟨rfl, hy⟩ := y
  rw [List.getElem?_map] at hy
  cases e : zs[n]? with
  | none => rw [e] at hy; cases hy
  | some z =>
    rw [e] at hy
    cases hy
    exact hs n z σ' _ e p
theorem forK_listI {a : Addr} {zs : List Int} {j : Nat} {tb : TS} {nx : L2.St → Hp → Prop} {rt : VK} {bk ct : L2.St → Hp → Prop} {σ : L2.St} (H0 : Hp) (h0 : SqL K H0 a (zs.map V.int)) (Pv : Nat → L2.St → Hp → Prop) (p0 : Pv 0 σ H)
    (hx : ∀ n σ' H', Pv n σ' H' → Ex H0 H')
    (hs : ∀ n z σ' H', zs[n]? = some z → Pv n σ' H' → tb ⟨Pv (n + 1), rt, nx, Pv (n + 1)⟩ (σ'.set j (some (.int z))) H')
    (hd : ∀ σ' H', Pv zs.length σ' H' → nx σ' H') : ∃ a', V.ref a = .ref a' ∧ (∃ xs, SqL K H a' xs) ∧ ForK (gName j) tb ⟨nx, rt, bk, ct⟩ σ (Itl K a') H := by
  refine ⟨a, rfl, ⟨_, exL (hx _ _ _ p0) h0⟩, for_it (walk_list (xs := zs.map V.int)) Pv p0 (fun n σ' H' _ p => exL (hx _ _ _ p) h0) (fun n x σ' H' H'' hn p y => ?_) (fun σ' H' p => hd σ' H' (by rw [List.length_map] at p; exact p))⟩
  obtain ⟨rfl, hy⟩ := y
  rw [List.getElem?_map] at hy
  cases e : zs[n]? with
  | none => rw [e] at hy; cases hy
  | some z =>
    rw [e] at hy
    cases hy
    exact hs n z σ' _ e p
/-! ### pairs of whole numbers as data -/
def prD (a b : Int) : PyData := .tuple [.int a, .int b]
theorem prD_shaped (a b : Int) : SeqAt.shaped (prD a b) = true := by
  unfold SeqAt.shaped prD
  rw [PyData.canLay0, PyData.canLayAll0, PyData.canLay0, PyData.canLayAll0, PyData.canLay0, PyData.canLayAll0, PyData.depth, PyData.depthAll, PyData.depth, PyData.depthAll, PyData.depth, PyData.depthAll]
  rfl
theorem prD_eqv (a b c d : Int) : PyData.eqv (prD a b) (prD c d) = decide (a = c ∧ b = d) := by
  unfold prD
  rw [PyData.eqv, PyData.eqvAll, PyData.eqv, PyData.eqvAll, PyData.eqv, PyData.eqvAll, Bool.and_true]
  by_cases h1 : a = c <;> by_cases h2 : b = d <;> simp [h1, h2]
theorem dp_pr {p : Addr} {a b : Int} (h : H p = some (.tup [.int a, .int b])) : Dp K H (.ref p) (prD a b) := .tup (.of h) (.cons (.int _) (.cons (.int _) .nil))
/-! ### rings that grow -/
theorem RingAt.nil {q : Addr} (h : H q = some (.lst [])) : RingAt K H q [] := ⟨[], h, rfl, fun i x hx => by simp at hx⟩
theorem RingAt.snoc {q p : Addr} {r : Ring} {vs : List V} {k : Bool} {m : Int} (h : RingAt K H q r) (hv : H q = some (.lst vs)) (hp : H p = some (.tup [.str (kS k), .int m])) : RingAt K (upd H q (.lst (vs ++ [.ref p]))) q (r ++ [(k, m)]) := by
  obtain ⟨ws, h1, h2, h3⟩ := h
  rw [h1] at hv
  cases hv
  have ne : ∀ {t : Addr} {xs : List V}, H t = some (.tup xs) → t ≠ q := fun ht => ne_of ht h1 (by intro z; cases z)
  rw [List.length_map] at h2
  refine ⟨_, upd_same, by simp [h2], fun i x hx => ?_⟩
  rw [List.map_append] at hx
  by_cases hi : i < r.length
  · rw [List.getElem?_append_left (by rw [List.length_map]; exact hi)] at hx
    obtain ⟨t, z1, z2⟩ := h3 i x hx
    exact ⟨t, by rw [List.getElem?_append_left (by omega)]; exact z1, by rw [upd_ne (ne z2)]; exact z2⟩
  · have e : i = r.length := by
      have := (List.getElem?_eq_some_iff.mp hx).1
      simp at this
      omega
    subst e
    have ex : x = prV (k, m) := by
      rw [List.getElem?_append_right (by simp)] at hx
      simpa using hx.symm
    subst ex
    refine ⟨p, ?_, by rw [upd_ne (ne hp)]; exact hp⟩
    rw [List.getElem?_append_right (by omega)]
    simp [h2]
theorem RingAt.one {q p : Addr} {k : Bool} {m : Int} (h : H q = some (.lst [.ref p])) (hp : H p = some (.tup [.str (kS k), .int m])) : RingAt K H q [(k, m)] :=
  ⟨_, h, rfl, fun i x hx => by
    cases i with
    | zero =>
      have ex : prV (k, m) = x := Option.some.inj hx
      subst ex
      exact ⟨p, rfl, hp⟩
    | succ i => simp at hx⟩
theorem RingAt.two {q p p' : Addr} {k k' : Bool} {m m' : Int} (h : H q = some (.lst [.ref p, .ref p'])) (hp : H p = some (.tup [.str (kS k), .int m])) (hp' : H p' = some (.tup [.str (kS k'), .int m'])) : RingAt K H q [(k, m), (k', m')] :=
  ⟨_, h, rfl, fun i x hx => by
    cases i with
    | zero =>
      have ex : prV (k, m) = x := Option.some.inj hx
      subst ex
      exact ⟨p, rfl, hp⟩
    | succ i =>
      cases i with
      | zero =>
        have ex : prV (k', m') = x := Option.some.inj hx
        subst ex
        exact ⟨p', rfl, hp'⟩
      | succ i => simp at hx⟩
theorem RingAt.cat {q p l : Addr} {r s : Ring} {vs us : List V} (hr : RingAt K H q r) (hs : RingAt K H p s) (hq : H q = some (.lst vs)) (hp : H p = some (.lst us)) (hl : H l = some (.lst (vs ++ us))) : RingAt K H l (r ++ s) := by
  obtain ⟨vs', a1, a2, a3⟩ := hr
  obtain ⟨us', b1, b2, b3⟩ := hs
  rw [hq] at a1
  rw [hp] at b1
  cases a1
  cases b1
  rw [List.length_map] at a2 b2
  refine ⟨_, hl, by simp [a2, b2], fun i x hx => ?_⟩
  rw [List.map_append] at hx
  by_cases hi : i < r.length
  · rw [List.getElem?_append_left (by rw [List.length_map]; exact hi)] at hx
    obtain ⟨t, z1, z2⟩ := a3 i x hx
    exact ⟨t, by rw [List.getElem?_append_left (by omega)]; exact z1, z2⟩
  · rw [List.getElem?_append_right (by rw [List.length_map]; omega), List.length_map] at hx
    obtain ⟨t, z1, z2⟩ := b3 _ x hx
    exact ⟨t, by rw [List.getElem?_append_right (by omega), a2]; exact z1, z2⟩
theorem RingAt.take {q l : Addr} {r : Ring} {vs : List V} {k : Nat} (hr : RingAt K H q r) (hq : H q = some (.lst vs)) (hl : H l = some (.lst (vs.take k))) : RingAt K H l (r.take k) := by
  obtain ⟨vs', a1, a2, a3⟩ := hr
  rw [hq] at a1
  cases a1
  rw [List.length_map] at a2
  refine ⟨_, hl, by simp [a2], fun i x hx => ?_⟩
  rw [List.map_take, List.getElem?_take] at hx
  split at hx
  · obtain ⟨t, z1, z2⟩ := a3 i x hx
    exact ⟨t, by rw [List.getElem?_take, if_pos (by assumption)]; exact z1, z2⟩
  · cases hx
theorem RingAt.drop {q l : Addr} {r : Ring} {vs : List V} {k : Nat} (hr : RingAt K H q r) (hq : H q = some (.lst vs)) (hl : H l = some (.lst (vs.drop k))) : RingAt K H l (r.drop k) := by
  obtain ⟨vs', a1, a2, a3⟩ := hr
  rw [hq] at a1
  cases a1
  rw [List.length_map] at a2
  refine ⟨_, hl, by simp [a2], fun i x hx => ?_⟩
  rw [List.map_drop, List.getElem?_drop] at hx
  obtain ⟨t, z1, z2⟩ := a3 _ x hx
  exact ⟨t, by rw [List.getElem?_drop]; exact z1, z2⟩
theorem RingAt.copy {q l : Addr} {r : Ring} {vs : List V} (hr : RingAt K H q r) (hq : H q = some (.lst vs)) (hl : H l = some (.lst vs)) : RingAt K H l r := by
  obtain ⟨vs', a1, a2, a3⟩ := hr
  rw [hq] at a1
  cases a1
  exact ⟨_, hl, a2, a3⟩
theorem RingAt.lst {q : Addr} {r : Ring} (h : RingAt K H q r) : ∃ vs, H q = some (.lst vs) ∧ vs.length = r.length := by
  obtain ⟨vs, h1, h2, _⟩ := h
  exact ⟨vs, h1, by rw [h2, List.length_map]⟩
theorem dp_nil {p : Addr} (h : H p = some (.lst [])) : Dp K H (.ref p) (rdD []) := Dp.lst (.of h) .nil
/-! ### letters -/
theorem ab_of {i : Int} (h0 : 0 ≤ i) (h1 : i < 2) : ∃ c : Nat, atI (("ab" : Str)).cps.toList i = some c ∧ (⟨#[c]⟩ : Str) = kS (decide (i = 0)) := by
  have hi : i = 0 ∨ i = 1 := by omega
  rcases hi with rfl | rfl
  · exact ⟨97, by decide +kernel, by decide +kernel⟩
  · exact ⟨98, by decide +kernel, by decide +kernel⟩
theorem r_ab {i : Int} {Q : VK} (h0 : 0 ≤ i) (h1 : i < 2) (q : Q (.str (kS (decide (i = 0)))) H) : rIxS (.str ("ab" : Str)) (.int i) H Q := by
  obtain ⟨c, e1, e2⟩ := ab_of h0 h1
  exact r_ixS (by decide +kernel) e1 (by rw [e2]; exact q)
theorem aab_of {i : Int} (h0 : 0 ≤ i) (h1 : i < 3) : ∃ c : Nat, atI (("aab" : Str)).cps.toList i = some c ∧ (⟨#[c]⟩ : Str) = kS (decide (i < 2)) := by
  have hi : i = 0 ∨ i = 1 ∨ i = 2 := by omega
  rcases hi with rfl | rfl | rfl
  · exact ⟨97, by decide +kernel, by decide +kernel⟩
  · exact ⟨97, by decide +kernel, by decide +kernel⟩
  · exact ⟨98, by decide +kernel, by decide +kernel⟩
theorem r_aab {i : Int} {Q : VK} (h0 : 0 ≤ i) (h1 : i < 3) (q : Q (.str (kS (decide (i < 2)))) H) : rIxS (.str ("aab" : Str)) (.int i) H Q := by
  obtain ⟨c, e1, e2⟩ := aab_of h0 h1
  exact r_ixS (by decide +kernel) e1 (by rw [e2]; exact q)
theorem cut_to (xs : List V) (k : Nat) : cutV xs none (some (k : Int)) = xs.take k := by
  unfold cutV
  rw [show HT.sIx xs.length xs.length (some (k : Int)) = min k xs.length from HT.sIx_nat _ _ _, HT.sIx_none, List.drop_zero, Nat.sub_zero]
  by_cases h : k ≤ xs.length
  · rw [Nat.min_eq_left h]
  · rw [Nat.min_eq_right (by omega), List.take_length, List.take_of_length_le (by omega)]
theorem cut_from (xs : List V) (k : Nat) : cutV xs (some (k : Int)) none = xs.drop k := by
  unfold cutV
  rw [show HT.sIx xs.length 0 (some (k : Int)) = min k xs.length from HT.sIx_nat _ _ _, HT.sIx_none]
  by_cases h : k ≤ xs.length
  · rw [Nat.min_eq_left h]
    exact List.take_of_length_le (by rw [List.length_drop]; exact Nat.le_refl _)
  · rw [Nat.min_eq_right (by omega), Nat.sub_self, List.take_zero, List.drop_of_length_le (by omega)]
end
end Rb
/-! Ring beads: the mathematics of stretches, no program in sight. -/
namespace Rb
open PySem
/-- all beads; those of the kind a -/
def size : Ring → Int
  | [] => 0
  | x :: r => x.2 + size r
def mine : Ring → Int
  | [] => 0
  | x :: r => (if x.1 then x.2 else 0) + mine r
theorem size_app (r s : Ring) : size (r ++ s) = size r + size s := by
  induction r with
  | nil => simp [size]
  | cons x r ih => simp only [List.cons_append, size, ih]; omega
theorem mine_app (r s : Ring) : mine (r ++ s) = mine r + mine s := by
  induction r with
  | nil => simp [mine]
  | cons x r ih => simp only [List.cons_append, mine, ih]; omega
theorem size_take {r : Ring} {j : Nat} {x : Bool × Int} (h : r[j]? = some x) : size (r.take (j + 1)) = size (r.take j) + x.2 := by
  rw [List.take_add_one, h, size_app]
  simp [size]
theorem mine_take {r : Ring} {j : Nat} {x : Bool × Int} (h : r[j]? = some x) : mine (r.take (j + 1)) = mine (r.take j) + (if x.1 then x.2 else 0) := by
  rw [List.take_add_one, h, mine_app]
  simp [mine]
theorem size_sum (r : Ring) : (r.map (·.2)).sum = size r := by
  induction r with
  | nil => rfl
  | cons x r ih => rw [List.map_cons, List.sum_cons, ih]; rfl
/-- a ring: few stretches, none empty, none beyond some bound -/
structure Ok (r : Ring) : Prop where
  ne : r ≠ []
  few : r.length ≤ 2000
  pos : ∀ x ∈ r, 1 ≤ x.2
  lim : ∀ x ∈ r, x.2 ≤ 1000000000000000000000000000000000000000000000
theorem Ok.len {r : Ring} (o : Ok r) : 0 < r.length := List.length_pos_iff.mpr o.ne
theorem size_lim {M : Int} (h0 : 0 ≤ M) : ∀ r : Ring, (∀ x ∈ r, x.2 ≤ M) → size r ≤ r.length * M
  | [], _ => by simp [size]
  | x :: r, h => by
    have ih := size_lim h0 r fun y hy => h y (List.mem_cons_of_mem _ hy)
    have hx := h x List.mem_cons_self
    have e : ((x :: r).length : Int) * M = r.length * M + M := by
      rw [List.length_cons, Int.natCast_add, Int.add_mul]
      simp
    rw [e]
    simp only [size]
    omega
theorem size_len : ∀ r : Ring, (∀ x ∈ r, 1 ≤ x.2) → (r.length : Int) ≤ size r
  | [], _ => by simp [size]
  | x :: r, h => by
    have ih := size_len r fun y hy => h y (List.mem_cons_of_mem _ hy)
    have hx := h x List.mem_cons_self
    simp only [size, List.length_cons]
    omega
theorem mine_le : ∀ r : Ring, (∀ x ∈ r, 1 ≤ x.2) → 0 ≤ mine r ∧ mine r ≤ size r
  | [], _ => by simp [size, mine]
  | x :: r, h => by
    have ih := mine_le r fun y hy => h y (List.mem_cons_of_mem _ hy)
    have hx := h x List.mem_cons_self
    simp only [size, mine]
    split <;> omega
theorem pos_take {r : Ring} (h : ∀ x ∈ r, 1 ≤ x.2) (j : Nat) : ∀ x ∈ r.take j, 1 ≤ x.2 := fun x hx => h x (List.mem_of_mem_take hx)
theorem Ok.size_pos {r : Ring} (o : Ok r) : 1 ≤ size r := by
  have h1 := size_len r o.pos
  have h2 := o.len
  omega
theorem Ok.size_lt {r : Ring} (o : Ok r) : size r ≤ 2000000000000000000000000000000000000000000000000 := by
  have h1 := size_lim (by decide) r o.lim
  have h2 := o.few
  omega
/-- for the begin and each stretch's end its place; how many of the kind a lie ahead -/
def ends (r : Ring) : List Int := (List.range (r.length + 1)).map fun j => size (r.take j)
def sums (r : Ring) : List Int := (List.range (r.length + 1)).map fun j => mine (r.take j)
theorem ends_len (r : Ring) : (ends r).length = r.length + 1 := by simp [ends]
theorem sums_len (r : Ring) : (sums r).length = r.length + 1 := by simp [sums]
theorem ends_at {r : Ring} {j : Nat} (h : j ≤ r.length) : (ends r)[j]? = some (size (r.take j)) := by
  unfold ends
  rw [List.getElem?_map, List.getElem?_range (by omega)]
  rfl
theorem sums_at {r : Ring} {j : Nat} (h : j ≤ r.length) : (sums r)[j]? = some (mine (r.take j)) := by
  unfold sums
  rw [List.getElem?_map, List.getElem?_range (by omega)]
  rfl
theorem ends_snoc {r : Ring} {n : Nat} {x : Bool × Int} (h : r[n]? = some x) : ends (r.take (n + 1)) = ends (r.take n) ++ [size (r.take n) + x.2] := by
  have hn : n < r.length := (List.getElem?_eq_some_iff.mp h).1
  unfold ends
  rw [List.length_take, List.length_take, Nat.min_eq_left (by omega), Nat.min_eq_left (by omega), List.range_succ (n := n + 1), List.map_append]
  have e : (List.range (n + 1)).map (fun j => size ((r.take (n + 1)).take j)) = (List.range (n + 1)).map (fun j => size ((r.take n).take j)) := by
    refine List.map_congr_left fun j hj => ?_
    rw [List.mem_range] at hj
    rw [List.take_take, List.take_take, Nat.min_eq_left (by omega), Nat.min_eq_left (by omega)]
  rw [e]
  simp only [List.map_cons, List.map_nil, List.take_take, Nat.min_self]
  rw [size_take h]
theorem sums_snoc {r : Ring} {n : Nat} {x : Bool × Int} (h : r[n]? = some x) : sums (r.take (n + 1)) = sums (r.take n) ++ [mine (r.take n) + (if x.1 then x.2 else 0)] := by
  have hn : n < r.length := (List.getElem?_eq_some_iff.mp h).1
  unfold sums
  rw [List.length_take, List.length_take, Nat.min_eq_left (by omega), Nat.min_eq_left (by omega), List.range_succ (n := n + 1), List.map_append]
  have e : (List.range (n + 1)).map (fun j => mine ((r.take (n + 1)).take j)) = (List.range (n + 1)).map (fun j => mine ((r.take n).take j)) := by
    refine List.map_congr_left fun j hj => ?_
    rw [List.mem_range] at hj
    rw [List.take_take, List.take_take, Nat.min_eq_left (by omega), Nat.min_eq_left (by omega)]
  rw [e]
  simp only [List.map_cons, List.map_nil, List.take_take, Nat.min_self]
  rw [mine_take h]
/-- the last of each -/
theorem ends_last (r : Ring) : ends r = (ends r).dropLast ++ [size r] := by
  have h : ends r ≠ [] := by
    intro h
    have := ends_len r
    rw [h] at this
    simp at this
  have e := List.dropLast_concat_getLast h
  have l : (ends r).getLast h = size r := by
    have q := ends_at (r := r) (j := r.length) (Nat.le_refl _)
    rw [List.take_length] at q
    rw [List.getLast_eq_getElem]
    have z := (List.getElem?_eq_some_iff.mp q).2
    simp only [ends_len, Nat.add_sub_cancel]
    exact z
  rw [l] at e
  exact e.symm
theorem sums_last (r : Ring) : sums r = (sums r).dropLast ++ [mine r] := by
  have h : sums r ≠ [] := by
    intro h
    have := sums_len r
    rw [h] at this
    simp at this
  have e := List.dropLast_concat_getLast h
  have l : (sums r).getLast h = mine r := by
    have q := sums_at (r := r) (j := r.length) (Nat.le_refl _)
    rw [List.take_length] at q
    rw [List.getLast_eq_getElem]
    have z := (List.getElem?_eq_some_iff.mp q).2
    simp only [sums_len, Nat.add_sub_cancel]
    exact z
  rw [l] at e
  exact e.symm
theorem ends_last_at (r : Ring) : L2.atI ((ends r).map L2.V.int) (-1) = some (.int (size r)) := by
  rw [ends_last, List.map_append]
  exact L2.atI_last _ _
theorem sums_last_at (r : Ring) : L2.atI ((sums r).map L2.V.int) (-1) = some (.int (mine r)) := by
  rw [sums_last, List.map_append]
  exact L2.atI_last _ _
theorem ends_ix {r : Ring} {j : Nat} (h : j ≤ r.length) : L2.atI ((ends r).map L2.V.int) (j : Int) = some (.int (size (r.take j))) :=
  L2.atI_nat (by rw [List.getElem?_map, ends_at h]; rfl)
theorem sums_ix {r : Ring} {j : Nat} (h : j ≤ r.length) : L2.atI ((sums r).map L2.V.int) (j : Int) = some (.int (mine (r.take j))) :=
  L2.atI_nat (by rw [List.getElem?_map, sums_at h]; rfl)
/-! ### beads of the kind a ahead of a place -/
def ahead : Ring → Int → Int
  | [], _ => 0
  | x :: r, p => if p ≤ x.2 then (if x.1 then p else 0) else (if x.1 then x.2 else 0) + ahead r (p - x.2)
theorem ahead_zero {r : Ring} (h : ∀ x ∈ r, 1 ≤ x.2) : ahead r 0 = 0 := by
  cases r with
  | nil => rfl
  | cons x r =>
    have hx := h x List.mem_cons_self
    simp only [ahead]
    rw [if_pos (by omega)]
    split <;> rfl
/-- beyond the end -/
theorem ahead_all : ∀ {r : Ring} {p : Int}, (∀ x ∈ r, 1 ≤ x.2) → size r ≤ p → ahead r p = mine r
  | [], _, _, _ => rfl
  | x :: r, p, h, hp => by
    have hx := h x List.mem_cons_self
    have hr : ∀ y ∈ r, 1 ≤ y.2 := fun y hy => h y (List.mem_cons_of_mem _ hy)
    simp only [size] at hp
    have hl := size_len r hr
    simp only [ahead, mine]
    by_cases hc : p ≤ x.2
    · rw [if_pos hc]
      have h0 : r = [] := by
        cases r with
        | nil => rfl
        | cons y s =>
          simp only [List.length_cons] at hl
          omega
      subst h0
      simp only [size] at hp
      simp only [mine]
      split <;> omega
    · rw [if_neg hc, ahead_all hr (by omega)]
/-- at a stretch's begin -/
theorem ahead_split : ∀ (r s : Ring) (p : Int), (∀ x ∈ r, 1 ≤ x.2) → 0 ≤ p → (∀ x ∈ s, 1 ≤ x.2) → ahead (r ++ s) (size r + p) = mine r + ahead s p
  | [], s, p, _, _, _ => by simp [size, mine]
  | x :: r, s, p, h, hp, hs => by
    have hx := h x List.mem_cons_self
    have hr : ∀ y ∈ r, 1 ≤ y.2 := fun y hy => h y (List.mem_cons_of_mem _ hy)
    have hl := size_len r hr
    have ih := ahead_split r s p hr hp hs
    simp only [List.cons_append, ahead, size, mine]
    by_cases hc : x.2 + size r + p ≤ x.2
    · have h0 : r = [] := by
        cases r with
        | nil => rfl
        | cons y t =>
          simp only [List.length_cons] at hl
          omega
      subst h0
      have e0 : size [] = 0 := rfl
      have hp0 : p = 0 := by omega
      subst hp0
      rw [if_pos hc, ahead_zero hs, e0]
      simp only [mine]
      split <;> omega
    · rw [if_neg hc, show x.2 + size r + p - x.2 = size r + p by omega, ih]
      omega
/-- within a stretch -/
theorem ahead_at {r : Ring} {j : Nat} {x : Bool × Int} {p : Int} (h : ∀ x ∈ r, 1 ≤ x.2) (hj : r[j]? = some x) (h0 : size (r.take j) ≤ p) (h1 : p ≤ size (r.take j) + x.2) :
    ahead r p = mine (r.take j) + (if x.1 then p - size (r.take j) else 0) := by
  have hn := (List.getElem?_eq_some_iff.mp hj).1
  have e : r = r.take j ++ x :: r.drop (j + 1) := by
    refine (List.take_append_drop j r).symm.trans ?_
    rw [List.drop_eq_getElem_cons hn, (List.getElem?_eq_some_iff.mp hj).2]
  have k := ahead_split (r.take j) (x :: r.drop (j + 1)) (p - size (r.take j)) (pos_take h j) (by omega) (fun y hy => h y (by rw [e]; exact List.mem_append_right _ hy))
  rw [← e, show size (r.take j) + (p - size (r.take j)) = p by omega] at k
  rw [k]
  simp only [ahead]
  rw [if_pos (by omega)]
/-- the periodic count, and how many among so many -/
def upTo (r : Ring) (n : Int) : Int := n / size r * mine r + ahead r (n % size r)
def among (r : Ring) (p n : Int) : Int := upTo r (p + n) - upTo r p
theorem upTo_in {r : Ring} {p : Int} (h0 : 0 ≤ p) (h1 : p < size r) : upTo r p = ahead r p := by
  unfold upTo
  rw [Int.ediv_eq_zero_of_lt h0 h1, Int.emod_eq_of_lt h0 h1]
  omega
theorem among_in {r : Ring} {p n : Int} (h0 : 0 ≤ p) (h1 : p < size r) : among r p n = (p + n) / size r * mine r + ahead r ((p + n) % size r) - ahead r p := by
  unfold among
  rw [upTo_in h0 h1]
  rfl
theorem ahead_range : ∀ {r : Ring} {p : Int}, (∀ x ∈ r, 1 ≤ x.2) → 0 ≤ p → 0 ≤ ahead r p ∧ ahead r p ≤ mine r
  | [], _, _, _ => by simp [ahead, mine]
  | x :: r, p, h, hp => by
    have hx := h x List.mem_cons_self
    have hr : ∀ y ∈ r, 1 ≤ y.2 := fun y hy => h y (List.mem_cons_of_mem _ hy)
    have hm := mine_le r hr
    simp only [ahead, mine]
    by_cases hc : p ≤ x.2
    · rw [if_pos hc]
      split <;> omega
    · rw [if_neg hc]
      have ih := ahead_range (r := r) (p := p - x.2) hr (by omega)
      split <;> omega
/-! ### the law's draws -/
def cellM (ns : List Int) (k : Nat) : Int := ns.getD k 0
def primes : List Int := [1000003, 1000033, 1000037, 1000039, 1000081, 1000099, 1000117, 1000121, 1000133, 1000151, 1000159, 1000171, 1000183, 1000187, 1000193, 1000199]
def primeM (i : Int) : Int := primes.getD i.toNat 1
theorem prime_ix {i : Int} (h0 : 0 ≤ i) (h1 : i < 16) : L2.atI (primes.map L2.V.int) i = some (.int (primeM i)) := by
  obtain ⟨n, rfl⟩ := Int.eq_ofNat_of_zero_le h0
  have hn : n < 16 := by omega
  refine L2.atI_nat ?_
  unfold primeM
  rw [List.getElem?_map, Int.toNat_natCast, List.getD_eq_getElem?_getD, List.getElem?_eq_getElem (show n < primes.length from hn)]
  rfl
theorem prime_pos {i : Int} (h0 : 0 ≤ i) (h1 : i < 16) : 0 < primeM i := by
  obtain ⟨n, rfl⟩ := Int.eq_ofNat_of_zero_le h0
  have hn : n < 16 := by omega
  have h : ∀ m : Fin 16, 0 < primeM ((m.val : Nat) : Int) := by decide
  exact h ⟨n, hn⟩
def drawM (cell k many : Int) : Int := (cell * 48271 + k * 69621) % primeM (k % 16) % many
theorem drawM_range {cell k many : Int} (h : 0 < many) : 0 ≤ drawM cell k many ∧ drawM cell k many < many := ⟨Int.emod_nonneg _ (by omega), Int.emod_lt_of_pos _ h⟩
def numM (cell k lim : Int) : Int := if 1000000000000000000 ≤ cell then (cell - 1000000000000000000) % 10000000000000000000000000000000000000000 else drawM ((cell + 977 * k) * (cell + 31 * k + 5)) (k % 9 + 1) lim
theorem numM_range {cell k lim : Int} (h : 0 < lim) (h2 : lim ≤ 10000000000000000000000000000000000000000) : 0 ≤ numM cell k lim ∧ numM cell k lim < 10000000000000000000000000000000000000000 := by
  unfold numM
  split
  · exact ⟨Int.emod_nonneg _ (by decide), Int.emod_lt_of_pos _ (by decide)⟩
  · have := drawM_range (cell := (cell + 977 * k) * (cell + 31 * k + 5)) (k := k % 9 + 1) h
    omega
/-- a law's ring -/
def limM (ns : List Int) : Int := ([2, 4, 40, 400000] : List Int).getD (drawM (cellM ns 0) 7 4).toNat 2
def slantM (ns : List Int) : Int := drawM (cellM ns 1) 6 4
def strM (lim slant : Int) (k : Nat) (cell : Int) : Bool × Int :=
  ((if slant < 2 then decide (numM cell k (2 * lim) % 2 = 0) else decide ((k : Int) % 2 = 0)),
    1 + numM cell k (2 * lim) / 2 * (if slant = 3 ∧ (if slant < 2 then decide (numM cell k (2 * lim) % 2 = 0) else decide ((k : Int) % 2 = 0)) = true then 3 else 1))
def mapK {α : Type} (f : Nat → Int → α) (ns : List Int) : List α := (List.range ns.length).map fun k => f k (cellM ns k)
theorem mapK_len {α : Type} (f : Nat → Int → α) (ns : List Int) : (mapK f ns).length = ns.length := by simp [mapK]
theorem mapK_take {α : Type} {f : Nat → Int → α} {ns : List Int} {k : Nat} {z : Int} (h : ns[k]? = some z) : (mapK f ns).take (k + 1) = (mapK f ns).take k ++ [f k z] := by
  have hk := (List.getElem?_eq_some_iff.mp h).1
  rw [List.take_add_one]
  congr 1
  unfold mapK
  rw [List.getElem?_map, List.getElem?_range hk]
  show [f k (cellM ns k)] = _
  unfold cellM
  rw [List.getD_eq_getElem?_getD, h]
  rfl
theorem mapK_mem {α : Type} {f : Nat → Int → α} {ns : List Int} {x : α} (h : x ∈ mapK f ns) : ∃ k z, k < ns.length ∧ x = f k z := by
  obtain ⟨k, hk, rfl⟩ := List.mem_map.mp h
  exact ⟨k, _, List.mem_range.mp hk, rfl⟩
def orOne (x : Bool × Int) (l : Ring) : Ring := if l = [] then [x] else l
def ringM (ns : List Int) : Ring := orOne (true, 1) (mapK (strM (limM ns) (slantM ns)) ns)
/-- a small one -/
def smM (by_ : Int) (k : Nat) (cell : Int) : Bool × Int := (decide (numM cell (k + by_) 900000 % 3 < 2), 1 + numM cell (k + by_) 900000 / 3 % 3)
def smallM (ns : List Int) (by_ : Int) : Ring := orOne (true, 2) (mapK (smM by_) (ns.take 10))
theorem limM_range (ns : List Int) : 2 ≤ limM ns ∧ limM ns ≤ 400000 := by
  have h := drawM_range (cell := cellM ns 0) (k := 7) (many := 4) (by decide)
  unfold limM
  generalize drawM (cellM ns 0) 7 4 = d at h
  obtain ⟨n, rfl⟩ := Int.eq_ofNat_of_zero_le h.1
  have hn : n < 4 := by omega
  have hh : ∀ m : Fin 4, 2 ≤ ([2, 4, 40, 400000] : List Int).getD ((m.val : Nat) : Int).toNat 2 ∧ ([2, 4, 40, 400000] : List Int).getD ((m.val : Nat) : Int).toNat 2 ≤ 400000 := by decide
  exact hh ⟨n, hn⟩
theorem lim_ix (ns : List Int) : L2.atI (([2, 4, 40, 400000] : List Int).map L2.V.int) (drawM (cellM ns 0) 7 4) = some (.int (limM ns)) := by
  have h := drawM_range (cell := cellM ns 0) (k := 7) (many := 4) (by decide)
  unfold limM
  generalize drawM (cellM ns 0) 7 4 = d at h
  obtain ⟨n, rfl⟩ := Int.eq_ofNat_of_zero_le h.1
  have hn : n < 4 := by omega
  refine L2.atI_nat ?_
  rw [List.getElem?_map, Int.toNat_natCast, List.getD_eq_getElem?_getD, List.getElem?_eq_getElem (show n < ([2, 4, 40, 400000] : List Int).length from hn)]
  rfl
theorem strM_range {lim slant : Int} (h : 2 ≤ lim) (h2 : lim ≤ 400000) (k : Nat) (cell : Int) : 1 ≤ (strM lim slant k cell).2 ∧ (strM lim slant k cell).2 ≤ 1000000000000000000000000000000000000000000000 := by
  have hn := numM_range (cell := cell) (k := (k : Int)) (lim := 2 * lim) (by omega) (by omega)
  have key : ∀ (q : Int) (c : Prop) [Decidable c], 0 ≤ q → q ≤ 10000000000000000000000000000000000000000 → 1 ≤ 1 + q * (if c then 3 else 1) ∧ 1 + q * (if c then 3 else 1) ≤ 1000000000000000000000000000000000000000000000 := by
    intro q c _ h0 h1
    split <;> omega
  unfold strM
  exact key _ _ (by omega) (by omega)
theorem smM_range (by_ : Int) (k : Nat) (cell : Int) : 1 ≤ (smM by_ k cell).2 ∧ (smM by_ k cell).2 ≤ 3 := by
  unfold smM
  dsimp only
  omega
theorem Ok.orOne {x : Bool × Int} {l : Ring} (hx : 1 ≤ x.2 ∧ x.2 ≤ 1000000000000000000000000000000000000000000000) (few : l.length ≤ 2000) (h : ∀ y ∈ l, 1 ≤ y.2 ∧ y.2 ≤ 1000000000000000000000000000000000000000000000) : Ok (orOne x l) := by
  unfold Rb.orOne
  split
  · refine ⟨by simp, by simp, ?_, ?_⟩
    · intro y hy; simp at hy; subst hy; exact hx.1
    · intro y hy; simp at hy; subst hy; exact hx.2
  · exact ⟨by assumption, few, fun y hy => (h y hy).1, fun y hy => (h y hy).2⟩
theorem ringM_ok {ns : List Int} (h : ns.length ≤ 63) : Ok (ringM ns) := by
  refine Ok.orOne (by decide) (by rw [mapK_len]; omega) fun y hy => ?_
  obtain ⟨k, z, _, rfl⟩ := mapK_mem hy
  exact strM_range (limM_range ns).1 (limM_range ns).2 k z
theorem smallM_ok (ns : List Int) (by_ : Int) : Ok (smallM ns by_) := by
  refine Ok.orOne (by decide) (by rw [mapK_len, List.length_take]; omega) fun y hy => ?_
  obtain ⟨k, z, _, rfl⟩ := mapK_mem hy
  have := smM_range by_ k z
  omega
theorem ringM_len {ns : List Int} (h : ns.length ≤ 63) : (ringM ns).length ≤ 63 := by
  unfold ringM orOne
  split
  · simp
  · rw [mapK_len]; exact h
theorem smallM_len (ns : List Int) (by_ : Int) : (smallM ns by_).length ≤ 10 := by
  unfold smallM orOne
  split
  · simp
  · rw [mapK_len, List.length_take]; omega
theorem smallM_three (ns : List Int) (by_ : Int) : ∀ x ∈ smallM ns by_, x.2 ≤ 3 := by
  unfold smallM orOne
  split
  · intro x hx; simp at hx; subst hx; decide
  · intro x hx
    obtain ⟨k, z, _, rfl⟩ := mapK_mem hx
    exact (smM_range by_ k z).2
/-! ### how many bits -/
open Builtin.Int in
theorem lt_of_bits {n : Int} {a : Nat} (h : intBits n ≤ a) : n.natAbs < 2 ^ a := by
  unfold intBits at h
  split at h
  · have e : n = 0 := by simpa using ‹(n == 0) = true›
    subst e
    exact Nat.pow_pos (by decide)
  · have h0 : n.natAbs ≠ 0 := by
      intro e
      have : n = 0 := by omega
      simp [this] at *
    have := (Nat.log2_lt h0).mp (show n.natAbs.log2 < a by omega)
    exact this
open Builtin.Int in
theorem bits_add {i j : Int} {a : Nat} (hi : intBits i ≤ a) (hj : intBits j ≤ a) : intBits (i + j) ≤ a + 1 := by
  have h1 := lt_of_bits hi
  have h2 := lt_of_bits hj
  refine PyProof.Rows.intBits_le ?_
  rw [Nat.pow_succ]
  have := Int.natAbs_add_le i j
  omega
open Builtin.Int in
theorem bits_mul {i j : Int} {a b : Nat} (hi : intBits i ≤ a) (hj : intBits j ≤ b) : intBits (i * j) ≤ a + b := by
  have h1 := lt_of_bits hi
  have h2 := lt_of_bits hj
  refine PyProof.Rows.intBits_le ?_
  rw [Int.natAbs_mul, Nat.pow_add]
  exact Nat.mul_lt_mul'' h1 h2
open Builtin.Int in
theorem bits_small {i : Int} {a : Nat} (h : i.natAbs < 2 ^ a) : intBits i ≤ a := PyProof.Rows.intBits_le h
open Builtin.Int in
/-- numbers below sixty figures have few bits -/
theorem bits_60 {i : Int} (h : -1000000000000000000000000000000000000000000000000000000000000 ≤ i ∧ i ≤ 1000000000000000000000000000000000000000000000000000000000000) : intBits i ≤ 200 := by
  refine bits_small ?_
  have e : (2 : Nat) ^ 200 = 1606938044258990275541962092341162602522202993782792835301376 := by decide
  rw [e]
  omega
theorem mulx_60 {i j : Int} (h : -1000000000000000000000000000000000000000000000000000000000000 ≤ i ∧ i ≤ 1000000000000000000000000000000000000000000000000000000000000) (h2 : -1000000000000000000000000000000000000000000000000000000000000 ≤ j ∧ j ≤ 1000000000000000000000000000000000000000000000000000000000000) : L2.CMulX i j := by
  have h1 := bits_60 h
  have h3 := bits_60 h2
  unfold L2.CMulX
  omega
theorem divw_60 {i j : Int} (h : 0 < j) (h2 : j ≤ 1000000000000000000000000000000000000000000000000000000000000) : L2.CDivW i j := by
  refine L2.wide_div (b := 200) h ?_ (by decide) (by decide)
  have e : (2 : Nat) ^ 200 = 1606938044258990275541962092341162602522202993782792835301376 := by decide
  rw [e]
  omega
theorem cell_bits {ns : List Int} (h : ∀ z ∈ ns, Builtin.Int.intBits z ≤ 1048576) (k : Nat) : Builtin.Int.intBits (cellM ns k) ≤ 1048576 := by
  unfold cellM
  rw [List.getD_eq_getElem?_getD]
  cases e : ns[k]? with
  | none => decide
  | some z => exact h z (List.mem_of_getElem? e)
/-! ### tables as objects -/
open L2
/-- the table of a ring: two lists of whole numbers -/
def TabAt (K : PySem.W.Frag) (H : Hp) (t : Addr) (r : Ring) : Prop :=
  ∃ e s : Addr, SqT K H t [.ref e, .ref s] ∧ SqL K H e ((ends r).map V.int) ∧ SqL K H s ((sums r).map V.int)
theorem TabAt.ex {K : PySem.W.Frag} {H H' : Hp} {t : Addr} {r : Ring} (e : Ex H H') (h : TabAt K H t r) : TabAt K H' t r := by
  obtain ⟨a, b, h1, h2, h3⟩ := h
  exact ⟨a, b, exU e h1, exL e h2, exL e h3⟩
end Rb
/-! Ring beads: the beads one by one, as a text. -/
namespace Rb
open PySem PySem.Spec PyProof.Rows L2
def cd (b : Bool) : Nat := if b then 97 else 98
theorem cd_inj {a b : Bool} (h : cd a = cd b) : a = b := by
  cases a <;> cases b <;> first | rfl | (exact absurd h (by decide))
def txt (l : List Bool) : Str := SX.S (l.map cd)
theorem kS_txt (k : Bool) : kS k = txt [k] := by cases k <;> decide +kernel
theorem txt_len (l : List Bool) : (txt l).length = l.length := by
  unfold txt
  rw [SX.S_len, List.length_map]
theorem txt_app (l m : List Bool) : txt l ++ txt m = txt (l ++ m) := by
  unfold txt
  rw [SX.S_cat, List.map_append]
theorem txt_inj {l m : List Bool} (h : txt l = txt m) : l = m := by
  have e := SX.S_inj h
  exact (List.map_inj_right fun a b h => cd_inj h).mp e
theorem joinL_nil : ∀ ls : List (List Nat), TL.joinL [] ls = ls.flatten
  | [] => rfl
  | [p] => by simp [TL.joinL]
  | p :: q :: r => by
    rw [TL.joinL, joinL_nil (q :: r)]
    simp
theorem txt_join (ls : List (List Bool)) : Txt.join (SX.S []) (ls.map txt) = txt ls.flatten := by
  have e : ls.map txt = (ls.map fun l => l.map cd).map SX.S := by rw [List.map_map]; rfl
  rw [e, SX.join_S, joinL_nil]
  unfold txt
  rw [List.map_flatten]
theorem empty_S : ("" : Str) = SX.S [] := by decide +kernel
/-- the beads one by one -/
def row (r : Ring) : List Bool := (r.map fun x => List.replicate x.2.toNat x.1).flatten
theorem row_len : ∀ {r : Ring}, (∀ x ∈ r, 1 ≤ x.2) → ((row r).length : Int) = size r
  | [], _ => rfl
  | x :: r, h => by
    have hx := h x List.mem_cons_self
    have ih := row_len (r := r) fun y hy => h y (List.mem_cons_of_mem _ hy)
    unfold row at ih ⊢
    rw [List.map_cons, List.flatten_cons, List.length_append, List.length_replicate]
    simp only [size]
    omega
/-- a letter some times -/
def rRepS : R2 := fun x y H Q => ∃ k n, x = .str (kS k) ∧ y = .int n ∧ 1 ≤ n ∧ n ≤ 1000 ∧ Q (.str (txt (List.replicate n.toNat k))) H
theorem rep_fold (k : Bool) : ∀ (n : Nat) (acc : Array Nat), (List.replicate n (kS k).cps).foldl (· ++ ·) acc = acc ++ ((List.replicate n k).map cd).toArray
  | 0, acc => by simp
  | n + 1, acc => by
    rw [List.replicate_succ, List.foldl_cons, rep_fold k n]
    have e : (kS k).cps = #[cd k] := by cases k <;> decide +kernel
    rw [e, List.replicate_succ, List.map_cons]
    refine Array.toList_inj.mp ?_
    simp
theorem op_rep_str {X : Cx} : OpR X (binaryOp .Mult) rRepS := by
  intro pins s σ H x y v u Q I rx ry h
  obtain ⟨k, n, rfl, rfl, h1, h2, q⟩ := h
  obtain ⟨t, rfl⟩ := rx
  obtain ⟨t', rfl⟩ := ry
  have l1 : (kS k).length = 1 := by cases k <;> decide +kernel
  have pw : (2 : Int) ^ 63 = 9223372036854775808 := by decide
  refine PySem.P.mul_str (by rw [decide_eq_false (by omega), decide_eq_false (by omega)]; rfl) (fun _ _ => ?_) (fun _ _ => ?_) ?_
  · rw [l1, pw]
    have : 1 ≤ (9223372036854775808 - 1) / n := by
      rw [Int.le_ediv_iff_mul_le (by omega)]
      omega
    omega
  · rw [l1, Nat.one_mul]
    have : ¬ n.toNat > sizeLine := by rw [sizeLine_eq]; omega
    exact decide_eq_false this
  · rw [if_neg (by omega)]
    by_cases hn : n = 1
    · subst hn
      rw [if_pos (by simp)]
      refine ⟨.str (kS k), H, I, ⟨t, rfl⟩, ?_⟩
      have e : txt (List.replicate (1 : Int).toNat k) = kS k := (kS_txt k).symm
      rw [e] at q
      exact q
    · rw [if_neg (by simp [l1, hn])]
      have e : (⟨(List.replicate n.toNat (kS k).cps).foldl (· ++ ·) #[]⟩ : Str) = txt (List.replicate n.toNat k) := by
        rw [rep_fold]
        simp [txt, SX.S]
      rw [e]
      refine ⟨?_, .str (txt (List.replicate n.toNat k)), H, I.tok _, ⟨_, rfl⟩, q⟩
      rw [txt_len, List.length_replicate, sizeLine_eq]
      omega
theorem r_repS {k : Bool} {n : Int} {H : Hp} {Q : VK} (h1 : 1 ≤ n) (h2 : n ≤ 1000) (q : Q (.str (txt (List.replicate n.toNat k))) H) : rRepS (.str (kS k)) (.int n) H Q := ⟨k, n, rfl, rfl, h1, h2, q⟩
def rJoin (K : PySem.W.Frag) : V → List V → Hp → VK → Prop := fun x xs H Q => ∃ a p, ∃ ys : List Str, x = .str a ∧ xs = [.ref p] ∧ (SqL K H p (ys.map V.str) ∨ SqT K H p (ys.map V.str)) ∧
      (ys.map (·.length)).sum + ys.length * a.length ≤ 16777216 ∧ Q (.str (Txt.join a ys)) H
theorem pe_joinR {X : Cx} {o e : Expr} {to te : TE} {apos pos : Pos} (ho : PE X o to) (he : PE X e te) (hs : starEach [e] X.env = [(false, eval e X.env)] := by rfl) (hbase : attributeBase o "join" X.env (eval o X.env) = eval o X.env := by rfl) (hline : (apos.endLine == pos.line) = true := by rfl) :
    PE X (.Call (.Attribute o "join" apos) [e] [] pos) (tM1 (rJoin X.K) to te) := pe_join ho he hs hbase hline
theorem r_M1 {r : V → List V → Hp → VK → Prop} {to te : TE} {σ : L2.St} {H : Hp} {Q : VK} (q : to σ H fun x H1 => (∃ a, x = .str a) ∧ te σ H1 fun y H2 => r x [y] H2 Q) : tM1 r to te σ H Q := q
theorem r_isS {x : Str} {P : Prop} (q : P) : (∃ a, V.str x = .str a) ∧ P := ⟨⟨x, rfl⟩, q⟩
theorem r_join {K : PySem.W.Frag} {p : Addr} {ls : List (List Bool)} {H : Hp} {Q : VK} (h : SqL K H p ((ls.map txt).map V.str)) (n : (ls.map (·.length)).sum ≤ 16777216) (q : Q (.str (txt ls.flatten)) H) : rJoin K (.str ("" : Str)) [.ref p] H Q := by
  refine ⟨"", p, ls.map txt, rfl, rfl, .inl h, ?_, ?_⟩
  · rw [empty_S, SX.S_len, List.length_nil, Nat.mul_zero, List.map_map]
    have e : ((fun x : Str => x.length) ∘ txt) = fun l => l.length := funext fun l => txt_len l
    rw [e]
    exact n
  · rw [empty_S, txt_join]
    exact q
theorem ones_sum : ∀ l : List Bool, ((l.map fun b => [b]).map (·.length)).sum = l.length
  | [] => rfl
  | b :: l => by
    rw [List.map_cons, List.map_cons, List.sum_cons, ones_sum l, List.length_cons]
    show 1 + l.length = l.length + 1
    omega
theorem ones_flat : ∀ l : List Bool, (l.map fun b => [b]).flatten = l
  | [] => rfl
  | b :: l => by rw [List.map_cons, List.flatten_cons, ones_flat l]; rfl
/-! ### counts by the beads -/
theorem row_cons (x : Bool × Int) (r : Ring) : row (x :: r) = List.replicate x.2.toNat x.1 ++ row r := rfl
theorem row_app (r s : Ring) : row (r ++ s) = row r ++ row s := by
  unfold row
  rw [List.map_append, List.flatten_append]
theorem ahead_row : ∀ {r : Ring} {p : Int}, (∀ x ∈ r, 1 ≤ x.2) → 0 ≤ p → ahead r p = (((row r).take p.toNat).count true : Int)
  | [], p, _, _ => by simp [ahead, row]
  | x :: r, p, h, hp => by
    have hx := h x List.mem_cons_self
    have hr : ∀ y ∈ r, 1 ≤ y.2 := fun y hy => h y (List.mem_cons_of_mem _ hy)
    rw [row_cons]
    simp only [ahead]
    by_cases hc : p ≤ x.2
    · rw [if_pos hc, List.take_append_of_le_length (by rw [List.length_replicate]; omega), List.take_replicate, Nat.min_eq_left (by omega), List.count_replicate]
      cases x.1
      · simp
      · simp; omega
    · have e : p.toNat = x.2.toNat + (p - x.2).toNat := by omega
      rw [if_neg hc, ahead_row hr (by omega), e, List.take_append, List.length_replicate, Nat.add_sub_cancel_left, List.count_append, List.take_replicate, Nat.min_eq_right (by omega), List.count_replicate]
      cases x.1
      · simp
      · simp; omega
theorem mine_row : ∀ {r : Ring}, (∀ x ∈ r, 1 ≤ x.2) → mine r = ((row r).count true : Int)
  | [], _ => rfl
  | x :: r, h => by
    have hx := h x List.mem_cons_self
    have ih := mine_row (r := r) fun y hy => h y (List.mem_cons_of_mem _ hy)
    rw [row_cons, List.count_append, List.count_replicate]
    simp only [mine, ih]
    cases x.1
    · simp
    · simp; omega
/-- the same beads: the same counts -/
theorem among_row {r s : Ring} (hr : ∀ x ∈ r, 1 ≤ x.2) (hs : ∀ x ∈ s, 1 ≤ x.2) (e : row r = row s) (p n : Int) (h : 0 < size s) : among r p n = among s p n := by
  have e1 : size r = size s := by rw [← row_len hr, ← row_len hs, e]
  have e2 : mine r = mine s := by rw [mine_row hr, mine_row hs, e]
  have e3 : ∀ q, 0 ≤ q → ahead r q = ahead s q := fun q hq => by rw [ahead_row hr hq, ahead_row hs hq, e]
  unfold among upTo
  rw [e1, e2, e3 _ (Int.emod_nonneg _ (by omega)), e3 _ (Int.emod_nonneg _ (by omega))]
theorem size_row {r s : Ring} (hr : ∀ x ∈ r, 1 ≤ x.2) (hs : ∀ x ∈ s, 1 ≤ x.2) (e : row r = row s) : size r = size s := by rw [← row_len hr, ← row_len hs, e]
/-! ### one bead -/
theorem ahead_size {r : Ring} (h : ∀ x ∈ r, 1 ≤ x.2) : ahead r (size r) = mine r := ahead_all h (Int.le_refl _)
theorem among_one {r : Ring} {p : Int} (h : ∀ x ∈ r, 1 ≤ x.2) (h0 : 0 ≤ p) (h1 : p < size r) : among r p 1 = ahead r (p + 1) - ahead r p := by
  rw [among_in h0 h1]
  by_cases hc : p + 1 < size r
  · rw [Int.ediv_eq_zero_of_lt (by omega) hc, Int.emod_eq_of_lt (by omega) hc]
    omega
  · have e : p + 1 = size r := by omega
    rw [e, Int.ediv_self (by omega), Int.emod_self, ahead_zero h, ahead_size h]
    omega
theorem among_at {r : Ring} {j : Nat} {x : Bool × Int} {p : Int} (h : ∀ x ∈ r, 1 ≤ x.2) (hj : r[j]? = some x) (h0 : size (r.take j) ≤ p) (h1 : p < size (r.take j) + x.2) (h2 : 0 ≤ p) (h3 : p < size r) :
    decide (among r p 1 = 1) = x.1 := by
  rw [among_one h h2 h3, ahead_at h hj h0 (by omega), ahead_at h hj (p := p + 1) (by omega) (by omega)]
  cases x.1
  · simp
  · simp; omega
theorem among_bead {r : Ring} {i : Nat} (h : ∀ x ∈ r, 1 ≤ x.2) (hi : i < (row r).length) : decide (among r i 1 = 1) = (row r)[i] := by
  have hl := row_len h
  rw [among_one h (by omega) (by omega), ahead_row h (by omega), ahead_row h (by omega), show ((i : Int) + 1).toNat = i + 1 by omega, Int.toNat_natCast, List.take_add_one, List.getElem?_eq_getElem hi, List.count_append]
  generalize (row r)[i] = b
  cases b
  · simp
  · simp; omega
theorem row_by_kinds {r : Ring} (h : ∀ x ∈ r, 1 ≤ x.2) : (List.range (row r).length).map (fun i : Nat => decide (among r i 1 = 1)) = row r := by
  refine List.ext_getElem (by simp) fun i h1 h2 => ?_
  rw [List.getElem_map, List.getElem_range]
  exact among_bead h h2
/-! ### the ring begun elsewhere -/
theorem upTo_round {r : Ring} (h : 0 < size r) (n c : Int) : upTo r (n + size r * c) = upTo r n + c * mine r := by
  unfold upTo
  rw [Int.add_mul_ediv_left _ _ (by omega), Int.add_mul_emod_self_left, Int.add_mul]
  omega
theorem ahead_left {r s : Ring} {p : Int} (hr : ∀ x ∈ r, 1 ≤ x.2) (hs : ∀ x ∈ s, 1 ≤ x.2) (h0 : 0 ≤ p) (h1 : p ≤ size r) : ahead (r ++ s) p = ahead r p := by
  have hrs : ∀ x ∈ r ++ s, 1 ≤ x.2 := fun x hx => (List.mem_append.mp hx).elim (hr x) (hs x)
  have hl := row_len hr
  rw [ahead_row hrs h0, ahead_row hr h0, row_app, List.take_append_of_le_length (by omega)]
theorem upTo_turned {x y : Ring} (hx : ∀ z ∈ x, 1 ≤ z.2) (hy : ∀ z ∈ y, 1 ≤ z.2) (ny : 0 < size y) (q : Int) : upTo (y ++ x) q = upTo (x ++ y) (q + size x) - mine x := by
  have sx := size_len x hx
  have e1 := size_app x y
  have e2 := size_app y x
  have m1 := mine_app x y
  have m2 := mine_app y x
  have hxy : ∀ z ∈ x ++ y, 1 ≤ z.2 := fun z hz => (List.mem_append.mp hz).elim (hx z) (hy z)
  have hyx : ∀ z ∈ y ++ x, 1 ≤ z.2 := fun z hz => (List.mem_append.mp hz).elim (hy z) (hx z)
  have wp : 0 < size (y ++ x) := by omega
  have we : size (y ++ x) = size (x ++ y) := by omega
  have me : mine (y ++ x) = mine (x ++ y) := by omega
  have d := Int.emod_add_mul_ediv q (size (y ++ x))
  have r0 := Int.emod_nonneg q (show size (y ++ x) ≠ 0 by omega)
  have r1 := Int.emod_lt_of_pos q wp
  generalize q % size (y ++ x) = q0 at d r0 r1
  generalize q / size (y ++ x) = j at d
  subst d
  rw [upTo_round wp, show q0 + size (y ++ x) * j + size x = (q0 + size x) + size (x ++ y) * j by rw [we]; omega, upTo_round (by omega), me, upTo_in r0 r1]
  have key : ahead (y ++ x) q0 = upTo (x ++ y) (q0 + size x) - mine x := by
    by_cases hc : q0 < size y
    · rw [ahead_left hy hx r0 (by omega), upTo_in (by omega) (by omega), show q0 + size x = size x + q0 by omega, ahead_split x y q0 hx r0 hy]
      omega
    · have e : q0 + size x = (q0 - size y) + size (x ++ y) * 1 := by omega
      rw [e, upTo_round (by omega), upTo_in (by omega) (by omega), ahead_left hx hy (by omega) (by omega)]
      have z := ahead_split y x (q0 - size y) hy (by omega) hx
      rw [show size y + (q0 - size y) = q0 by omega] at z
      omega
  omega
theorem among_turned {x y : Ring} (hx : ∀ z ∈ x, 1 ≤ z.2) (hy : ∀ z ∈ y, 1 ≤ z.2) (ny : 0 < size y) (p n : Int) : among (y ++ x) ((p - size x) % size (x ++ y)) n = among (x ++ y) p n := by
  have sx := size_len x hx
  have e1 := size_app x y
  have wp : 0 < size (x ++ y) := by omega
  have d := Int.emod_add_mul_ediv (p - size x) (size (x ++ y))
  generalize (p - size x) % size (x ++ y) = q at d
  generalize (p - size x) / size (x ++ y) = c at d
  unfold among
  rw [upTo_turned hx hy ny, upTo_turned hx hy ny]
  have f1 : p = (q + size x) + size (x ++ y) * c := by omega
  have f2 : p + n = (q + n + size x) + size (x ++ y) * c := by omega
  rw [f2, upTo_round wp, f1, upTo_round wp]
  omega
/-- in parts -/
theorem among_parts (r : Ring) (p n m : Int) (h : 0 < size r) : among r p (n + m) = among r p n + among r ((p + n) % size r) m := by
  have d := Int.emod_add_mul_ediv (p + n) (size r)
  generalize (p + n) % size r = q at d
  generalize (p + n) / size r = c at d
  unfold among
  have e1 : p + (n + m) = (q + m) + size r * c := by omega
  have e2 : p + n = q + size r * c := by omega
  rw [e1, upTo_round h, e2, upTo_round h]
  omega
/-! ### stretches cut in two -/
def firstM (cell : Int) (k : Nat) (m : Int) : Int := (cell + 31 * k) * (k + 3) % m
def pieceM (cell : Int) (k : Nat) (x : Bool × Int) : Ring := if 0 < firstM cell k x.2 ∧ 0 < (cell + k) % 3 then [(x.1, firstM cell k x.2), (x.1, x.2 - firstM cell k x.2)] else [x]
def cutM (cell : Int) : Nat → Ring → Ring
  | _, [] => []
  | k, x :: r => pieceM cell k x ++ cutM cell (k + 1) r
theorem cutM_app (cell : Int) : ∀ (k : Nat) (r s : Ring), cutM cell k (r ++ s) = cutM cell k r ++ cutM cell (k + r.length) s
  | k, [], s => by simp [cutM]
  | k, x :: r, s => by
    rw [List.cons_append, cutM, cutM, cutM_app cell (k + 1) r s, List.append_assoc, List.length_cons, show k + 1 + r.length = k + (r.length + 1) by omega]
theorem cutM_snoc {cell : Int} {r : Ring} {n : Nat} {x : Bool × Int} (h : r[n]? = some x) : cutM cell 0 (r.take (n + 1)) = cutM cell 0 (r.take n) ++ pieceM cell n x := by
  have hn := (List.getElem?_eq_some_iff.mp h).1
  rw [List.take_add_one, h, cutM_app, List.length_take, Nat.min_eq_left (by omega), Nat.zero_add]
  simp [cutM]
theorem pieceM_row {cell : Int} {k : Nat} {x : Bool × Int} (h : 1 ≤ x.2) : row (pieceM cell k x) = List.replicate x.2.toNat x.1 ∧ (∀ y ∈ pieceM cell k x, 1 ≤ y.2 ∧ y.2 ≤ x.2) ∧ (pieceM cell k x).length ≤ 2 ∧ 1 ≤ (pieceM cell k x).length := by
  have f1 : firstM cell k x.2 < x.2 := Int.emod_lt_of_pos _ (by omega)
  unfold pieceM
  split
  · rename_i hc
    refine ⟨?_, ?_, by simp, by simp⟩
    · simp only [row, List.map_cons, List.map_nil, List.flatten_cons, List.flatten_nil, List.append_nil]
      rw [List.replicate_append_replicate]
      congr 1
      omega
    · intro y hy
      simp only [List.mem_cons, List.not_mem_nil, or_false] at hy
      rcases hy with rfl | rfl <;> dsimp only <;> omega
  · refine ⟨by simp [row], ?_, by simp, by simp⟩
    intro y hy
    simp only [List.mem_cons, List.not_mem_nil, or_false] at hy
    subst hy
    omega
theorem cutM_row {cell : Int} : ∀ {k : Nat} {r : Ring}, (∀ x ∈ r, 1 ≤ x.2) → row (cutM cell k r) = row r ∧ (∀ y ∈ cutM cell k r, 1 ≤ y.2 ∧ ∃ x ∈ r, y.2 ≤ x.2) ∧ (cutM cell k r).length ≤ 2 * r.length ∧ r.length ≤ (cutM cell k r).length
  | k, [], _ => ⟨rfl, fun y hy => by simp [cutM] at hy, by simp [cutM], by simp [cutM]⟩
  | k, x :: r, h => by
    have hx := h x List.mem_cons_self
    obtain ⟨a1, a2, a3, a4⟩ := cutM_row (cell := cell) (k := k + 1) (r := r) fun y hy => h y (List.mem_cons_of_mem _ hy)
    obtain ⟨b1, b2, b3, b4⟩ := pieceM_row (cell := cell) (k := k) hx
    rw [cutM]
    refine ⟨by rw [row_app, a1, b1, row_cons], fun y hy => ?_, by rw [List.length_append, List.length_cons]; omega, by rw [List.length_append, List.length_cons]; omega⟩
    rcases List.mem_append.mp hy with hy | hy
    · exact ⟨(b2 y hy).1, x, List.mem_cons_self, (b2 y hy).2⟩
    · obtain ⟨c1, z, c2, c3⟩ := a2 y hy
      exact ⟨c1, z, List.mem_cons_of_mem _ c2, c3⟩
theorem cutM_ok {cell : Int} {r : Ring} (ok : Ok r) (h : r.length ≤ 1000) : Ok (cutM cell 0 r) := by
  obtain ⟨a1, a2, a3, a4⟩ := cutM_row (cell := cell) (k := 0) ok.pos
  have := ok.len
  refine ⟨fun e => ?_, by omega, fun x hx => (a2 x hx).1, fun x hx => ?_⟩
  · rw [e, List.length_nil] at a4
    omega
  · obtain ⟨_, z, hz, hl⟩ := a2 x hx
    have := ok.lim z hz
    omega
end Rb
/-! Ring beads: a dict of whole numbers as a set of places; its keys in order, however many. -/
namespace Rb
open PySem PySem.Spec PyProof.Rows L2
/-- sorted(d), keys that are whole numbers, any many -/
def rSortedK : List V → Hp → VK → Prop := fun us H Q => ∃ (a : Addr) (m : List (Key × V)) (ks : List Int), us = [.ref a] ∧ H a = some (.dK m) ∧ m.map (·.1) = ks.map Sum.inl ∧
  ∀ (out : List Int) (p : Addr), out.Perm ks → out.Pairwise (· ≤ ·) → H p = none → Q (.ref p) (upd H p (.lst (out.map V.int)))
/-- what a walk of the keys collects are these numbers -/
theorem keys_ints {vs : List (Key × Value)} {ks : List Int} (e : vs.map (·.1) = ks.map Sum.inl) {got : List Value} (hl : got.length = ks.length)
    (h : ∀ (j : Nat) (v : Value), got[j]? = some v → ∃ (k : Key) (x : Value), vs[j]? = some (k, x) ∧ keyIs k v = true) : IntsAre got ks := by
  refine ints_each hl fun j v hv => ?_
  obtain ⟨k, x, h1, h2⟩ := h j v hv
  have h3 : (ks.map (Sum.inl : Int → Key))[j]? = some k := by rw [← e, List.getElem?_map, h1]; rfl
  rw [List.getElem?_map] at h3
  cases q : ks[j]? with
  | none =>
    rw [q] at h3
    cases h3
  | some n =>
    rw [q] at h3
    have ek : k = Sum.inl n := (Option.some.inj h3).symm
    rw [ek] at h2
    obtain ⟨t, ev⟩ := Value.isInt_shape (k := n) (v := v) h2
    exact ⟨n, t, rfl, ev⟩
theorem cr_sortedK {X : Cx} (calm : X.calm = true) : CallR X (.builtin "sorted") rSortedK := by
  intro pins s σ H us ws Q I rel ⟨a, m, ks, eu, ha, hk, q⟩
  subst eu
  obtain ⟨w1, ew, rw1⟩ := vals1 rel
  subst ew
  cases rw1
  obtain ⟨few, notSys, vs, pairs, dct⟩ := dk_rd I.hok (.inl ha)
  obtain ⟨ep, there⟩ := dct.dictAt
  have ke : vs.map (·.1) = ks.map Sum.inl := pairs.keys.symm.trans hk
  have kl : vs.length = ks.length := by simpa using congrArg List.length ke
  have small : vs.length ≤ sizeLine := by rw [← pairs.length]; exact few
  refine Calls.call_function_entry kind_sorted plain_sorted entry_sorted (args_sorted1 _) ?_
  unfold Builtin.«sorted»
  refine wpAny_bind (m := checkCount "sorted" 1 1 _) (wpAny_pure ?_)
  have src := PySem.W.kdl_dict (prog := X.prog) (w := X.w) (knd := mixKind X.prog X.w) (kvs := vs) (ep := ep) notSys
  refine wpAny_bind (PySem.W.kdu_collect (A := X.A.in1) src (I.ok.hd calm) there small ?_)
  intro h1 tk got kept made
  have gl : got.toList.length = ks.length := by rw [Array.length_toList, made.1, kl]
  have wholes : IntsAre got.toList ks := keys_ints ke gl fun j v e => made.2 j v (by rw [← Array.getElem?_toList]; exact e)
  have I1 : Inv X pins σ H { s with heap := h1, toks := tk } := I.kept kept
  have gz : got.toList.length ≤ sizeLine := by rw [gl, ← kl]; exact small
  refine wpAny_bind (wpAny_newList ?_ gz)
  have new : (h1.push (seqObj "list" got.toList.toArray 0)).get? h1.objs.size = some (seqObj "list" got.toList.toArray 0) := Heap.get?_push_size _ rfl
  have go : ∀ out : List Value, SrtO.Srtd SrtO.ltIv out → SrtO.Stb SrtO.ltIv out got.toList →
      EP X pins σ Q (.ref h1.objs.size) { s with heap := sortedHeap (h1.push (seqObj "list" got.toList.toArray 0)) h1.objs.size got.toList out.toArray, toks := tk } := by
    intro out o1 o2
    obtain ⟨k1, k2, k3⟩ := SrtO.ints_out wholes o1 o2
    obtain ⟨ep2, at2⟩ := sortedHeap_at (vs := got.toList) (out := out.toArray) new
    refine ⟨.ref h1.objs.size, upd H h1.objs.size (.lst ((out.map SrtO.iv).map V.int)), I1.laid (t' := tk) ?_ (Nat.le_refl _) ⟨?_, out, ep2, vals_of_ints k1, at2⟩, rfl, q _ _ k2 k3 (I1.hok.fresh (Nat.le_refl _))⟩
    · intro b u e
      have hb : b < h1.objs.size := Heap.lt_size e
      rw [sortedHeap_old (Nat.ne_of_lt hb) (by rw [size_push']; exact Nat.lt_succ_of_lt hb)]
      exact Heap.get?_push_of_some _ e
    · rw [List.length_map, k2.length_eq, ← gl]
      exact gz
  have sorts := SrtO.list_sort_ord (prog := X.prog) (w := X.w) (s := { s with heap := h1.push (seqObj "list" got.toList.toArray 0), toks := tk }) (E := X.xe) (A := X.A.in1.in1) (R := fun f s' => ∃ v, f = .done (.ret v) ∧ v = .none ∧ EP X pins σ Q (.ref h1.objs.size) s') SrtO.swo_int new gz (fun h2 => SrtO.ints_sortable wholes h2) fun out o1 o2 => ⟨_, rfl, rfl, go out o1 o2⟩
  refine wpAny_bind (wpAny_holding (wpAny_call_entry slot_list_sort ⟨_, new, rfl⟩ entry_list_sort ?_ (args_list_sort _)))
  refine wpAny_mono sorts (fun f s' hf => ?_) fun _ _ x => x
  obtain ⟨v, e1, e2, z⟩ := hf
  exact ⟨v, e1, wpAny_pure ⟨_, rfl, z⟩⟩
/-! ### a dict as the list of its keys -/
def DictAt (H : Hp) (d : Addr) (ks : List Int) : Prop := ∃ m : List (Key × V), H d = some (.dK m) ∧ m.map (·.1) = ks.map Sum.inl
theorem DictAt.ex {H H' : Hp} {d : Addr} {ks : List Int} (e : Ex H H') (h : DictAt H d ks) : DictAt H' d ks := let ⟨m, h1, h2⟩ := h; ⟨m, e _ _ h1, h2⟩
/-- a key put in -/
def putI (ks : List Int) (x : Int) : List Int := if x ∈ ks then ks else ks ++ [x]
theorem putI_mem {ks : List Int} {x y : Int} : y ∈ putI ks x ↔ y ∈ ks ∨ y = x := by
  unfold putI
  split
  · constructor
    · exact Or.inl
    · rintro (h | rfl) <;> assumption
  · simp
theorem putI_nodup {ks : List Int} {x : Int} (h : ks.Nodup) : (putI ks x).Nodup := by
  unfold putI
  split
  · exact h
  · rename_i hx
    rw [List.nodup_append]
    exact ⟨h, by simp, by rintro a ha b hb rfl; simp at hb; subst hb; exact hx ha⟩
theorem putI_len (ks : List Int) (x : Int) : (putI ks x).length ≤ ks.length + 1 := by
  unfold putI
  split
  · omega
  · simp
theorem keys_putK {m : List (Key × V)} {ks : List Int} (h : m.map (·.1) = ks.map Sum.inl) (x : Int) (v : V) : (putK m (Sum.inl x : Key) v).map (·.1) = (putI ks x).map Sum.inl := by
  have hin : (Sum.inl x : Key) ∈ m.map (·.1) ↔ x ∈ ks := by
    rw [h, List.mem_map]
    constructor
    · rintro ⟨y, hy, e⟩
      cases e
      exact hy
    · intro hx
      exact ⟨x, hx, rfl⟩
  cases q : valV m (Sum.inl x : Key) with
  | none =>
    have hx : x ∉ ks := fun hx => valV_not q (hin.mpr hx)
    rw [putK_new _ q, List.map_append, h]
    unfold putI
    rw [if_neg hx, List.map_append]
    rfl
  | some y =>
    have hx : x ∈ ks := hin.mp (valV_in q)
    unfold putI
    rw [if_pos hx, ← h]
    unfold putK
    rw [if_pos (by rw [valV_any, q]; rfl), List.map_map]
    refine List.map_congr_left fun z _ => ?_
    show (if z.1 = (Sum.inl x : Key) then (z.1, v) else z).1 = z.1
    split <;> rfl
theorem r_dput {ty td tv : TE} {nx : L2.St → Hp → Prop} {rt : VK} {bk ct : L2.St → Hp → Prop} {σ : L2.St} {H : Hp} (q : tv σ H fun v H1 => td σ H1 fun x H2 => ty σ H2 fun y H3 => ∃ a H4, x = .ref a ∧ DPut H3 a y v H4 ∧ nx σ H4) : sDPut td ty tv ⟨nx, rt, bk, ct⟩ σ H := q
theorem r_dput2 {d : Addr} {x : Int} {v : V} {H : Hp} {ks : List Int} {P : Hp → Prop} (h : DictAt H d ks) (n : ks.length < 16000000) (q : ∀ o, DictAt (upd H d o) d (putI ks x) → P (upd H d o)) : ∃ a H4, V.ref d = .ref a ∧ DPut H a (.int x) v H4 ∧ P H4 := by
  obtain ⟨m, h1, h2⟩ := h
  have hl : m.length = ks.length := by simpa using congrArg List.length h2
  exact ⟨d, _, rfl, DPut.k (k := Sum.inl x) h1 (by rw [hl, sizeLine_eq]; omega), q _ ⟨_, upd_same, keys_putK h2 x v⟩⟩
theorem r_sortedK {d : Addr} {ks : List Int} {H : Hp} {Q : VK} (h : DictAt H d ks) (q : ∀ (out : List Int) (p : Addr) (H' : Hp), out.Perm ks → out.Pairwise (· ≤ ·) → H p = none → Ex H H' → H' p = some (.lst (out.map V.int)) → Q (.ref p) H') : rSortedK [.ref d] H Q := by
  obtain ⟨m, h1, h2⟩ := h
  exact ⟨d, m, ks, rfl, h1, h2, fun out p a b c => q out p _ a b c (exN c) upd_same⟩
theorem r_dnew {σ : L2.St} {H : Hp} {Q : VK} (q : ∀ p H', H p = none → Ex H H' → DictAt H' p [] → Q (.ref p) H') : tDNewK σ H Q := fun p hp => q p _ hp (exN hp) ⟨[], upd_same, rfl⟩
/-- {0: True} -/
theorem r_disp1 {tk tv : TE} {σ : L2.St} {H : Hp} {Q : VK} {x : Int} {v : V} (hk : ∀ H1 (R : VK), R (.int x) H1 → tk σ H1 R) (hv : ∀ H1 (R : VK), R v H1 → tv σ H1 R) (q : ∀ p H', H p = none → Ex H H' → DictAt H' p [x] → Q (.ref p) H') : tDisp [(tk, tv)] σ H Q := by
  intro p hp
  refine hk _ _ (hv _ _ ?_)
  show upd H p (.dK []) p = some (.dK []) ∧ _
  refine ⟨upd_same, [(Sum.inl x, v)], rfl, by show 1 ≤ 15; decide, ?_⟩
  rw [upd_upd]
  exact q p _ hp (exN hp) ⟨_, upd_same, rfl⟩
end Rb
/-! Ring beads: own classes, their instances, their methods. -/
namespace Rb
open PySem PySem.Spec PyProof.Rows L2
/-- where the module's name x leads -/
def adr (mg : Str → Option Value) (x : Str) : Addr := match mg x with
  | some (.ref a) => a
  | _ => 0
theorem adr_of {mg : Str → Option Value} {x : Str} {C : Addr} (h : mg x = some (.ref C)) : adr mg x = C := by
  unfold adr
  rw [h]
/-- what of a class the top has written -/
structure ClsT (K : PySem.W.Frag) (mg : Str → Option Value) (x : Str) : Prop where
  g : mg x = some (.ref (adr mg x))
  cl : Cls K (adr mg x)
  ha : PySem.W.findIn K (.ref (adr mg x)) "__class__" = some (some (.builtin "object.__class__"))
  hn : PySem.W.specialIn K (.builtin "object.__class__") "__get__" = some (some (.builtin "getset_descriptor.__get__"))
  htk : PySem.W.takesIn K (.builtin "object.__class__") = some true
  hm : PySem.W.mroIn K (adr mg x) (.type "object") = some true
theorem clsT_mk {K : PySem.W.Frag} {h : Heap} {mg : Str → Option Value} {x : Str} {C : Addr} (X : K.In h) (G : h.Ns mainGlobals mg) (a : PySem.W.nsIn K mainGlobals x = some (some (.ref C)))
    (pg : PySem.W.plainGet K C Str.empty = true) (hd : PySem.W.hasDictIn K C = true) (po : PySem.W.plainOver K C = true) (sa : PySem.W.findIn K (.ref C) "__setattr__" = some (some (.builtin "object.__setattr__")))
    (ha : PySem.W.findIn K (.ref C) "__class__" = some (some (.builtin "object.__class__"))) (hn : PySem.W.specialIn K (.builtin "object.__class__") "__get__" = some (some (.builtin "getset_descriptor.__get__")))
    (htk : PySem.W.takesIn K (.builtin "object.__class__") = some true) (hm : PySem.W.mroIn K C (.type "object") = some true) : ClsT K mg x := by
  have g := PySem.W.mg_of X G a
  have e := adr_of g
  exact ⟨by rw [e]; exact g, by rw [e]; exact ⟨pg, hd, po, sa⟩, by rw [e]; exact ha, hn, htk, by rw [e]; exact hm⟩
theorem adr_mk {K : PySem.W.Frag} {h : Heap} {mg : Str → Option Value} {x : Str} {C : Addr} (X : K.In h) (G : h.Ns mainGlobals mg) (a : PySem.W.nsIn K mainGlobals x = some (some (.ref C))) {P : Addr → Prop} (p : P C) : P (adr mg x) := by
  rw [adr_of (PySem.W.mg_of X G a)]
  exact p
/-- __init__ of the class x; a method of it -/
def DfnI (K : PySem.W.Frag) (mg : Str → Option Value) (x qual : Str) (st : Stmt) (ps : List Str) : Prop := ∃ f fd, Fun K "__init__" qual st f fd ∧ Binds K fd ps [] ∧ Mk K (adr mg x) f
def DfnM (K : PySem.W.Frag) (mg : Str → Option Value) (x m qual : Str) (st : Stmt) (ps : List Str) : Prop := ∃ f fd, Fun K m qual st f fd ∧ Binds K fd ps [] ∧ Meth K (adr mg x) m f
theorem dfnI_mk {K : PySem.W.Frag} {h : Heap} {mg : Str → Option Value} {x qual : Str} {st : Stmt} {ps : List Str} (X : K.In h) (G : h.Ns mainGlobals mg) {C f : Addr} {oc : Value} {od an : Option Addr} {osl : Array (Option Value)} {kV doc pm cdv ct : Value}
    (ax : PySem.W.nsIn K mainGlobals x = some (some (.ref C))) (a : PySem.W.findIn K (.ref C) "__init__" = some (some (.ref f))) (i : PySem.W.isFn K (.ref f) = true)
    (l : K.lookup f = some ⟨oc, od, .func (PySem.W.fnOf "__init__" qual (defArgs st) (defBody st) (defScope st) .none kV doc pm an cdv ct), osl⟩) (c : PySem.W.codeIn K cdv qual = true) (k : PySem.W.keepIn K (.ref f) = true) (mk : PySem.W.makesIn K C = true) (kc : PySem.W.keepIn K (.ref C) = true)
    (hb : ∀ (kV doc pm : Value) (an : Option Addr) (cdv ct : Value) (us : List Value), us.length = ps.length → bindArgs (PySem.W.fnOf "__init__" qual (defArgs st) (defBody st) (defScope st) .none kV doc pm an cdv ct) ⟨us, []⟩ = pure (ps.zip us)) : DfnI K mg x qual st ps :=
  ⟨f, _, fun_mk l c k, (fun_mk l c k).binds hb, by rw [adr_of (PySem.W.mg_of X G ax)]; exact ⟨mk, a, i, kc⟩⟩
theorem dfnM_mk {K : PySem.W.Frag} {h : Heap} {mg : Str → Option Value} {x m qual : Str} {st : Stmt} {ps : List Str} (X : K.In h) (G : h.Ns mainGlobals mg) {C f : Addr} {oc : Value} {od an : Option Addr} {osl : Array (Option Value)} {kV doc pm cdv ct : Value}
    (ax : PySem.W.nsIn K mainGlobals x = some (some (.ref C))) (a : PySem.W.findIn K (.ref C) m = some (some (.ref f))) (i : PySem.W.isFn K (.ref f) = true)
    (l : K.lookup f = some ⟨oc, od, .func (PySem.W.fnOf m qual (defArgs st) (defBody st) (defScope st) .none kV doc pm an cdv ct), osl⟩) (c : PySem.W.codeIn K cdv qual = true) (k : PySem.W.keepIn K (.ref f) = true)
    (hb : ∀ (kV doc pm : Value) (an : Option Addr) (cdv ct : Value) (us : List Value), us.length = ps.length → bindArgs (PySem.W.fnOf m qual (defArgs st) (defBody st) (defScope st) .none kV doc pm an cdv ct) ⟨us, []⟩ = pure (ps.zip us)) : DfnM K mg x m qual st ps :=
  ⟨f, _, fun_mk l c k, (fun_mk l c k).binds hb, by rw [adr_of (PySem.W.mg_of X G ax)]; exact ⟨a, i, k⟩⟩
/-- a class that may be made; a method that may be called -/
def Mak (P : Program) (w : World) (K : PySem.W.Frag) (mg : Str → Option Value) (base : Heap) (k : Nat) (x : Str) (sp : Sp) : Prop :=
  ∃ f fd ps, Mk K (adr mg x) f ∧ FnOk P w K mg base CX0 k f fd ps sp ∧ mg x = some (.ref (adr mg x)) ∧ Binds K fd ps []
def Met (P : Program) (w : World) (K : PySem.W.Frag) (mg : Str → Option Value) (base : Heap) (k : Nat) (x m : Str) (sp : Sp) : Prop :=
  ∃ f fd ps, Cls K (adr mg x) ∧ Meth K (adr mg x) m f ∧ FnOk P w K mg base CX0 k f fd ps sp ∧ Binds K fd ps []
section
variable {P : Program} {w : World} {K : PySem.W.Frag} {mg : Str → Option Value} {base : Heap}
theorem mak {x qual : Str} {st : Stmt} {N ps : List Str} {k : Nat} {sp : Sp} (c : ClsT K mg x) (D : DfnI K mg x qual st ps) (S : FnScope N ps (defScope st)) (len : ∀ vs H Q E, sp vs H Q E → vs.length = ps.length)
    (hbody : ∀ (f : Addr) (cdv : Value) (A : Around) (outer : List Env) (s : Shared) (H : Hp) (vs : List V) (Q : VK) (E : XK), Room k (A.deeper (envOfC qual (defScope st) s.heap.objs.size f cdv)) → sp vs H Q E →
      ∃ t, PSs (cxOf CX0 P w K mg base N qual (defScope st) f cdv A outer s H E).nox (defBody st) t ∧ t { nx := fun _ H' => Q .non H', rt := Q } (start N vs) H) : Mak P w K mg base (k + 1) x sp := by
  obtain ⟨f, fd, F, b, M⟩ := D
  exact ⟨f, fd, ps, M, F.ok S len fun cdv A outer s H vs Q E hr h => hbody f cdv A outer s H vs Q E hr h, c.g, b⟩
theorem met {x m qual : Str} {st : Stmt} {N ps : List Str} {k : Nat} {sp : Sp} (c : ClsT K mg x) (D : DfnM K mg x m qual st ps) (S : FnScope N ps (defScope st)) (len : ∀ vs H Q E, sp vs H Q E → vs.length = ps.length)
    (hbody : ∀ (f : Addr) (cdv : Value) (A : Around) (outer : List Env) (s : Shared) (H : Hp) (vs : List V) (Q : VK) (E : XK), Room k (A.deeper (envOfC qual (defScope st) s.heap.objs.size f cdv)) → sp vs H Q E →
      ∃ t, PSs (cxOf CX0 P w K mg base N qual (defScope st) f cdv A outer s H E).nox (defBody st) t ∧ t { nx := fun _ H' => Q .non H', rt := Q } (start N vs) H) : Met P w K mg base (k + 1) x m sp := by
  obtain ⟨f, fd, F, b, M⟩ := D
  exact ⟨f, fd, ps, c.cl, M, F.ok S len fun cdv A outer s H vs Q E hr h => hbody f cdv A outer s H vs Q E hr h, b⟩
end
section
variable {X : Cx} {k j : Nat} {x m : Str} {sp : Sp} {p pos apos : Pos} {e o : Expr} {es : List Expr} {ta : TE} {t : TA}
theorem pe_mk (c : Mak X.prog X.w X.K X.mg X.base k x sp) (hr : Room j X.A) (hk : k + 1 ≤ j) (hg : Gl X x) (ha : PA X (e :: es) t)
    (hdb : (x == ("__debug__" : Str)) = false := by decide) (he : starEach (e :: es) X.env = (false, eval e X.env) :: starEach es X.env := by rfl) (hpl : (backTo pos (starEach es X.env)).any (·.1) = false := by rfl) :
    PE X (.Call (.Name x p) (e :: es) [] pos) (tMake (adr X.mg x) sp [] E0 t) := by
  obtain ⟨f, fd, ps, M, F, hm, b⟩ := c
  exact pe_make M F (hr.mono hk) hg hm b .nil pass0 ha hdb he hpl
theorem pe_mt {pl : Sem Bool} (c : Met X.prog X.w X.K X.mg X.base k x m sp) (hr : Room j X.A) (hk : k ≤ j) (he : PE X o ta) (ha : PA X (e :: es) t)
    (hst : starEach (e :: es) X.env = (false, eval e X.env) :: starEach es X.env := by rfl) (hpl : (backTo pos (starEach es X.env)).any (·.1) = false := by rfl)
    (ht : eval (.Call (.Attribute o m apos) (e :: es) [] pos) X.env = (do
      let ov ← eval o X.env
      standAt apos.atName
      let (f, first) ← holding [ov] (getMethod ov m pl)
      callWith pos f first (backTo pos (starEach (e :: es) X.env)) (backToKw pos (keywordEach [] X.env))) := by rfl) :
    PE X (.Call (.Attribute o m apos) (e :: es) [] pos) (tMeth (adr X.mg x) m sp [] E0 ta t) := by
  obtain ⟨f, fd, ps, hc, hm, F, b⟩ := c
  exact pe_meth (pl := pl) he hc hm F (hr.mono hk) b .nil pass0 ha hst hpl ht
end
/-! ### readings -/
section
variable {K : PySem.W.Frag} {σ : L2.St} {H : Hp} {Q : VK} {C : Addr}
/-- a new instance is wanted -/
def MkI (C : Addr) (sp : Sp) (vs : List V) (H : Hp) (Q : VK) : Prop := ∀ x dx, H x = none → H dx = none → dx ≠ x → sp (.ref x :: (vs ++ [])) (upd (upd H dx (.own x)) x (.ins C dx [])) (fun v H2 => v = .non ∧ Q (.ref x) H2) E0
theorem r_make {sp : Sp} {t : TA} (q : t σ H fun vs H1 => MkI C sp vs H1 Q) : tMake C sp [] E0 t σ H Q := q
theorem r_meth {m : Str} {sp : Sp} {ta : TE} {t : TA} (q : ta σ H fun x H1 => ∃ a dx fs, x = .ref a ∧ H1 a = some (.ins C dx fs) ∧ fs.lookup m = none ∧ t σ H1 fun vs H2 => sp (x :: (vs ++ [])) H2 Q E0) : tMeth C m sp [] E0 ta t σ H Q := q
/-- a field is wanted -/
def FldK (K : PySem.W.Frag) (f : Str) (x : V) (H : Hp) (Q : VK) : Prop := ∃ a C dx fs v, x = .ref a ∧ H a = some (.ins C dx fs) ∧ Cls K C ∧ NoAttr K C f ∧ fs.lookup f = some v ∧ Q v H
theorem r_fld {ta : TE} {f : Str} (q : ta σ H fun x H1 => FldK K f x H1 Q) : tFld K ta f σ H Q := q
/-- an instance of the class at C with these fields -/
def InsAt (C : Addr) (H : Hp) (x : Addr) (fs : List (Str × V)) : Prop := ∃ dx, H x = some (.ins C dx fs)
theorem InsAt.ex {H' : Hp} {x : Addr} {fs : List (Str × V)} (e : Ex H H') (h : InsAt C H x fs) : InsAt C H' x fs := let ⟨dx, z⟩ := h; ⟨dx, e _ _ z⟩
theorem r_fldb {x : Addr} {f : Str} {fs : List (Str × V)} {v : V} (h : InsAt C H x fs) (c : Cls K C) (n : NoAttr K C f) (l : fs.lookup f = some v) (q : Q v H) : FldK K f (.ref x) H Q := by
  obtain ⟨dx, z⟩ := h
  exact ⟨x, C, dx, fs, v, rfl, z, c, n, l, q⟩
theorem r_methb {x : Addr} {m : Str} {fs : List (Str × V)} {P : Prop} (h : InsAt C H x fs) (l : fs.lookup m = none) (q : P) : ∃ a dx fs, V.ref x = .ref a ∧ H a = some (.ins C dx fs) ∧ fs.lookup m = none ∧ P := by
  obtain ⟨dx, z⟩ := h
  exact ⟨x, dx, fs, rfl, z, l, q⟩
theorem r_sfld {ta tv : TE} {f : Str} {nx : L2.St → Hp → Prop} {rt : VK} {bk ct : L2.St → Hp → Prop} (q : tv σ H fun y H1 => ta σ H1 fun x H2 => ∃ a C dx fs, x = .ref a ∧ H2 a = some (.ins C dx fs) ∧ Cls K C ∧ NoAttr K C f ∧ fs.length < 1000 ∧ nx σ (upd H2 a (.ins C dx (putF f y fs)))) : sFld K ta tv f ⟨nx, rt, bk, ct⟩ σ H := q
end
/-! ### the two answers' fields -/
def fPlace (v : V) : List (Str × V) := putF "place" v []
def fEnds (l m : V) : List (Str × V) := putF "most" m (putF "least" l [])
theorem fPlace_place (v : V) : (fPlace v).lookup ("place" : Str) = some v := by
  unfold fPlace
  rw [lookup_putF, if_pos rfl]
theorem fPlace_shows (v : V) : (fPlace v).lookup ("shows" : Str) = none := by
  unfold fPlace
  rw [lookup_putF, if_neg (by decide +kernel)]
  rfl
theorem fEnds_least (l m : V) : (fEnds l m).lookup ("least" : Str) = some l := by
  unfold fEnds
  rw [lookup_putF, if_neg (by decide +kernel), lookup_putF, if_pos rfl]
theorem fEnds_most (l m : V) : (fEnds l m).lookup ("most" : Str) = some m := by
  unfold fEnds
  rw [lookup_putF, if_pos rfl]
theorem fEnds_shows (l m : V) : (fEnds l m).lookup ("shows" : Str) = none := by
  unfold fEnds
  rw [lookup_putF, if_neg (by decide +kernel), lookup_putF, if_neg (by decide +kernel)]
  rfl
/-- __init__ that stores what it is given -/
def sp_init1 (C : Addr) : Sp := fun vs H Q _ => ∃ (x dx : Addr) (v : V), vs = [.ref x, v] ∧ H x = some (.ins C dx []) ∧ ∀ H', (∀ b o, H b = some o → b ≠ x → H' b = some o) → InsAt C H' x (fPlace v) → Q .non H'
def sp_init2 (C : Addr) : Sp := fun vs H Q _ => ∃ (x dx : Addr) (l m : V), vs = [.ref x, l, m] ∧ H x = some (.ins C dx []) ∧ ∀ H', (∀ b o, H b = some o → b ≠ x → H' b = some o) → InsAt C H' x (fEnds l m) → Q .non H'
theorem r_mkI1 {C : Addr} {v : V} {H : Hp} {Q : VK} (q : ∀ x H', H x = none → Ex H H' → InsAt C H' x (fPlace v) → Q (.ref x) H') : MkI C (sp_init1 C) [v] H Q := fun x dx nx nd ne =>
  ⟨x, dx, v, rfl, upd_same, fun H' k i => ⟨rfl, q x H' nx (fun b o e => k b o (by rw [upd_ne (ne_of_none e nx), upd_ne (ne_of_none e nd)]; exact e) (ne_of_none e nx)) i⟩⟩
theorem r_mkI2 {C : Addr} {l m : V} {H : Hp} {Q : VK} (q : ∀ x H', H x = none → Ex H H' → InsAt C H' x (fEnds l m) → Q (.ref x) H') : MkI C (sp_init2 C) [l, m] H Q := fun x dx nx nd ne =>
  ⟨x, dx, l, m, rfl, upd_same, fun H' k i => ⟨rfl, q x H' nx (fun b o e => k b o (by rw [upd_ne (ne_of_none e nx), upd_ne (ne_of_none e nd)]; exact e) (ne_of_none e nx)) i⟩⟩
/-! ### corners -/
/-- the places at which what so many beads have begins to rise or fall otherwise -/
def Corner (r : Ring) (many x : Int) : Prop := x = 0 ∨ ∃ j, j < r.length ∧ (x = size (r.take j) ∨ x = (size (r.take j) - many) % size r)
/-- .. of the first n stretches -/
def CornerN (r : Ring) (many : Int) (n : Nat) (x : Int) : Prop := ∃ j, j < n ∧ (x = size (r.take j) ∨ x = (size (r.take j) - many) % size r)
theorem cornerN_put {r : Ring} {many : Int} {n : Nat} {ks : List Int} {z : Prop} {x : Int} (hk : x ∈ ks ↔ z ∨ CornerN r many n x) : x ∈ putI (putI ks (size (r.take n))) ((size (r.take n) - many) % size r) ↔ z ∨ CornerN r many (n + 1) x := by
  rw [putI_mem, putI_mem, hk]
  clear hk
  unfold CornerN
  constructor
  · rintro (((h | ⟨j, hj, h⟩) | h) | h)
    · exact .inl h
    · exact .inr ⟨j, by omega, h⟩
    · exact .inr ⟨n, by omega, .inl h⟩
    · exact .inr ⟨n, by omega, .inr h⟩
  · rintro (h | ⟨j, hj, h⟩)
    · exact .inl (.inl (.inl h))
    · by_cases e : j = n
      · subst e
        rcases h with h | h
        · exact .inl (.inr h)
        · exact .inr h
      · exact .inl (.inl (.inr ⟨j, by omega, h⟩))
theorem cornerN_len {r : Ring} {many : Int} {n : Nat} {ks : List Int} (h : ks.length ≤ 2 * n + 1) : (putI (putI ks (size (r.take n))) ((size (r.take n) - many) % size r)).length ≤ 2 * (n + 1) + 1 := by
  have h1 := putI_len ks (size (r.take n))
  have h2 := putI_len (putI ks (size (r.take n))) ((size (r.take n) - many) % size r)
  omega
/-- in order -/
structure Corners (r : Ring) (many : Int) (C : List Int) : Prop where
  up : C.Pairwise (· < ·)
  mem : ∀ x, x ∈ C ↔ Corner r many x
theorem corners_of {r : Ring} {many : Int} {ks out : List Int} {z : Int → Prop} (h : ∀ x, x ∈ ks ↔ z x ∨ CornerN r many r.length x) (hz : ∀ x, z x → x = 0) (n : r ≠ []) (nd : ks.Nodup) (p : out.Perm ks) (o : out.Pairwise (· ≤ ·)) : Corners r many out := by
  have nd2 : out.Nodup := p.symm.nodup nd
  refine ⟨?_, fun x => ?_⟩
  · have both := o.and nd2
    exact both.imp fun {a b} h => by have := h.1; have := h.2; omega
  · rw [p.mem_iff, h x]
    unfold Corner CornerN
    constructor
    · rintro (q | q)
      · exact .inl (hz x q)
      · exact .inr q
    · rintro (rfl | q)
      · refine .inr ⟨0, List.length_pos_iff.mpr n, .inl ?_⟩
        simp [size]
      · exact .inr q
theorem Corner.range {r : Ring} (ok : Ok r) {many x : Int} (h : Corner r many x) : 0 ≤ x ∧ x < size r := by
  have hs := ok.size_pos
  rcases h with rfl | ⟨j, hj, rfl | rfl⟩
  · omega
  · have h1 := size_len _ (pos_take ok.pos j)
    have h2 := size_app (r.take j) (r.drop j)
    rw [List.take_append_drop] at h2
    have h3 := size_len (r.drop j) fun x hx => ok.pos x (List.mem_of_mem_drop hx)
    rw [List.length_drop] at h3
    omega
  · exact ⟨Int.emod_nonneg _ (by omega), Int.emod_lt_of_pos _ (by omega)⟩
theorem Corners.ne {r : Ring} {many : Int} {C : List Int} (c : Corners r many C) : C ≠ [] := by
  intro e
  have h := (c.mem 0).mpr (.inl rfl)
  rw [e] at h
  cases h
/-- the least and the most over the corners -/
structure IsEnds (r : Ring) (many lo hi : Int) : Prop where
  lo_at : ∃ x, Corner r many x ∧ among r x many = lo
  hi_at : ∃ x, Corner r many x ∧ among r x many = hi
  lo_le : ∀ x, Corner r many x → lo ≤ among r x many
  hi_ge : ∀ x, Corner r many x → among r x many ≤ hi
theorem IsEnds.one {r : Ring} {many lo hi lo' hi' : Int} (a : IsEnds r many lo hi) (b : IsEnds r many lo' hi') : lo = lo' ∧ hi = hi' := by
  obtain ⟨x, hx, ex⟩ := a.lo_at
  obtain ⟨y, hy, ey⟩ := b.lo_at
  obtain ⟨u, hu, eu⟩ := a.hi_at
  obtain ⟨v, hv, ev⟩ := b.hi_at
  have h1 := b.lo_le x hx
  have h2 := a.lo_le y hy
  have h3 := b.hi_ge u hu
  have h4 := a.hi_ge v hv
  omega
theorem IsEnds.le {r : Ring} {many lo hi : Int} (a : IsEnds r many lo hi) : lo ≤ hi := by
  obtain ⟨x, hx, ex⟩ := a.lo_at
  have := a.hi_ge x hx
  omega
theorem Corners.ends {r : Ring} {many lo hi : Int} {C : List Int} (c : Corners r many C) (h1 : lo ∈ C.map fun x => among r x many) (h2 : ∀ y ∈ C.map fun x => among r x many, lo ≤ y) (h3 : hi ∈ C.map fun x => among r x many) (h4 : ∀ y ∈ C.map fun x => among r x many, y ≤ hi) : IsEnds r many lo hi := by
  obtain ⟨x, hx, ex⟩ := List.mem_map.mp h1
  obtain ⟨y, hy, ey⟩ := List.mem_map.mp h3
  exact ⟨⟨x, (c.mem x).mp hx, ex⟩, ⟨y, (c.mem y).mp hy, ey⟩, fun z hz => h2 _ (List.mem_map.mpr ⟨z, (c.mem z).mpr hz, rfl⟩), fun z hz => h4 _ (List.mem_map.mpr ⟨z, (c.mem z).mpr hz, rfl⟩)⟩
/-- among is between none and all -/
theorem among_lim {r : Ring} (ok : Ok r) {p n : Int} (h0 : 0 ≤ p) (h1 : p < size r) (h2 : 0 ≤ n) (h3 : n ≤ size r) : -1 ≤ among r p n ∧ among r p n ≤ 2 * size r := by
  have m := mine_le r ok.pos
  have a1 := ahead_range (p := p) ok.pos h0
  have e0 := ok.size_pos
  have q0 : 0 ≤ (p + n) % size r := Int.emod_nonneg _ (by omega)
  have a2 := ahead_range (p := (p + n) % size r) ok.pos q0
  rw [among_in h0 h1]
  have d := Int.emod_add_mul_ediv (p + n) (size r)
  have c : (p + n) / size r = 0 ∨ (p + n) / size r = 1 := by
    have u1 : 0 ≤ (p + n) / size r := Int.ediv_nonneg (by omega) (by omega)
    have u2 : (p + n) / size r < 2 := Int.ediv_lt_of_lt_mul (by omega) (by omega)
    omega
  rcases c with c | c
  · rw [c] at d ⊢
    have z : (p + n) % size r = p + n := by rw [Int.mul_zero] at d; omega
    rw [z] at a2 ⊢
    have mono : ahead r p ≤ ahead r (p + n) := by
      rw [ahead_row ok.pos h0, ahead_row ok.pos (by omega)]
      exact Int.ofNat_le.mpr (List.Sublist.count_le _ (List.take_sublist_take_left (by omega)))
    omega
  · rw [c]
    omega
end Rb
/-! Ring beads: between two corners next to each other a count rises, stays or falls evenly. -/
namespace Rb
open PySem PySem.Spec PyProof.Rows L2
theorem stretch_at : ∀ {r : Ring} {y : Int}, 0 ≤ y → y < size r → ∃ j x, r[j]? = some x ∧ size (r.take j) ≤ y ∧ y < size (r.take j) + x.2
  | [], y, h0, h1 => by simp only [size] at h1; omega
  | x :: r, y, h0, h1 => by
    by_cases hc : y < x.2
    · exact ⟨0, x, rfl, by simpa [size] using h0, by simpa [size] using hc⟩
    · simp only [size] at h1
      obtain ⟨j, z, hj, h2, h3⟩ := stretch_at (r := r) (y := y - x.2) (by omega) (by omega)
      exact ⟨j + 1, z, by simpa using hj, by simp only [List.take_succ_cons, size]; omega, by simp only [List.take_succ_cons, size]; omega⟩
theorem upTo_le {r : Ring} (ok : Ok r) {p : Int} (h0 : 0 ≤ p) (h1 : p ≤ size r) : upTo r p = ahead r p := by
  have W0 := ok.size_pos
  by_cases hc : p < size r
  · exact upTo_in h0 hc
  · have e : p = size r := by omega
    subst e
    unfold upTo
    rw [Int.ediv_self (by omega), Int.emod_self, ahead_zero ok.pos, ahead_size ok.pos]
    omega
/-- one bead -/
def bead (r : Ring) (x : Int) : Int := upTo r (x + 1) - upTo r x
theorem bead_mod {r : Ring} (ok : Ok r) (x : Int) : bead r x = bead r (x % size r) := by
  have W0 := ok.size_pos
  have d := Int.emod_add_mul_ediv x (size r)
  generalize x % size r = y at d
  generalize x / size r = c at d
  unfold bead
  rw [← d, show y + size r * c + 1 = (y + 1) + size r * c by omega, upTo_round (by omega), upTo_round (by omega)]
  omega
theorem bead_in {r : Ring} (ok : Ok r) {y : Int} (h0 : 0 ≤ y) (h1 : y < size r) {j : Nat} {x : Bool × Int} (hj : r[j]? = some x) (h2 : size (r.take j) ≤ y) (h3 : y < size (r.take j) + x.2) : bead r y = if x.1 then 1 else 0 := by
  unfold bead
  rw [upTo_le ok h0 (by omega), upTo_le ok (by omega) (by omega), ahead_at ok.pos hj h2 (by omega), ahead_at ok.pos hj (p := y + 1) (by omega) (by omega)]
  cases x.1
  · simp
  · simp; omega
theorem bead_range {r : Ring} (ok : Ok r) (x : Int) : bead r x = 0 ∨ bead r x = 1 := by
  have W0 := ok.size_pos
  rw [bead_mod ok]
  have h0 := Int.emod_nonneg x (show size r ≠ 0 by omega)
  have h1 := Int.emod_lt_of_pos x (show 0 < size r by omega)
  obtain ⟨j, z, hj, h2, h3⟩ := stretch_at h0 h1
  rw [bead_in ok h0 h1 hj h2 h3]
  split
  · exact .inr rfl
  · exact .inl rfl
/-- where no stretch begins the bead is as the one ahead of it -/
theorem bead_same {r : Ring} (ok : Ok r) {x : Int} (h : ∀ j, j < r.length → x % size r ≠ size (r.take j)) : bead r x = bead r (x - 1) := by
  have W0 := ok.size_pos
  have h0 := Int.emod_nonneg x (show size r ≠ 0 by omega)
  have h1 := Int.emod_lt_of_pos x (show 0 < size r by omega)
  obtain ⟨j, z, hj, h2, h3⟩ := stretch_at h0 h1
  have hn := (List.getElem?_eq_some_iff.mp hj).1
  have h4 := h j hn
  have z0 : x % size r ≠ 0 := fun e => h 0 ok.len (by rw [e]; simp [size])
  have e1 : (x - 1) % size r = x % size r - 1 := by
    have d := Int.emod_add_mul_ediv x (size r)
    have e : x - 1 = (x % size r - 1) + size r * (x / size r) := by omega
    rw [e, Int.add_mul_emod_self_left, Int.emod_eq_of_lt (by omega) (by omega)]
  rw [bead_mod ok x, bead_mod ok (x - 1), e1, bead_in ok h0 h1 hj h2 h3, bead_in ok (by omega) (by omega) hj (by omega) (by omega)]
theorem among_next (r : Ring) (p n : Int) : among r (p + 1) n = among r p n + (bead r (p + n) - bead r p) := by
  unfold among bead
  rw [show p + 1 + n = p + n + 1 by omega]
  omega
theorem among_round {r : Ring} (ok : Ok r) (p n c : Int) : among r (p + size r * c) n = among r p n := by
  have W0 := ok.size_pos
  unfold among
  rw [show p + size r * c + n = (p + n) + size r * c by omega, upTo_round (by omega), upTo_round (by omega)]
  omega
theorem among_mod {r : Ring} (ok : Ok r) (p n : Int) : among r (p % size r) n = among r p n := by
  have d := Int.emod_add_mul_ediv p (size r)
  have e := among_round ok (p % size r) n (p / size r)
  rw [d] at e
  exact e.symm
/-- between corners the slope is one -/
theorem slope_same {r : Ring} (ok : Ok r) {m c e : Int} (h0 : 0 ≤ c) (h1 : e ≤ size r) (hc : ∀ x, c < x → x < e → ¬ Corner r m x) {x : Int} (hx : c < x) (hx2 : x < e) : bead r (x + m) - bead r x = bead r (x - 1 + m) - bead r (x - 1) := by
  have W0 := ok.size_pos
  have no := hc x hx hx2
  have ex : x % size r = x := Int.emod_eq_of_lt (by omega) (by omega)
  have b1 := bead_same ok (x := x) fun j hj q => no (.inr ⟨j, hj, .inl (by rw [← q, ex])⟩)
  have b2 := bead_same ok (x := x + m) fun j hj q => no (.inr ⟨j, hj, .inr (by
    rw [← q, Int.sub_eq_add_neg, Int.emod_add_emod]
    rw [show x + m + -m = x by omega, ex])⟩)
  rw [b1, b2, show x + m - 1 = x - 1 + m by omega]
theorem slope_all {r : Ring} (ok : Ok r) {m c e : Int} (h0 : 0 ≤ c) (h1 : e ≤ size r) (hc : ∀ x, c < x → x < e → ¬ Corner r m x) : ∀ d : Nat, c + d < e → bead r (c + d + m) - bead r (c + d) = bead r (c + m) - bead r c
  | 0, _ => by simp
  | d + 1, hd => by
    have ih := slope_all ok h0 h1 hc d (by omega)
    have s := slope_same ok h0 h1 hc (x := c + ((d + 1 : Nat) : Int)) (by omega) hd
    rw [s, show c + ((d + 1 : Nat) : Int) - 1 = c + d by omega, ih]
/-- evenly -/
theorem arc_lin {r : Ring} (ok : Ok r) {m c e : Int} (h0 : 0 ≤ c) (h1 : e ≤ size r) (hc : ∀ x, c < x → x < e → ¬ Corner r m x) :
    (∀ d : Int, 0 ≤ d → c + d ≤ e → among r (c + d) m = among r c m + d) ∨ (∀ d : Int, 0 ≤ d → c + d ≤ e → among r (c + d) m = among r c m) ∨ (∀ d : Int, 0 ≤ d → c + d ≤ e → among r (c + d) m = among r c m - d) := by
  have s := slope_all ok h0 h1 hc
  have step : ∀ d : Nat, c + ((d + 1 : Nat) : Int) ≤ e → among r (c + ((d + 1 : Nat) : Int)) m = among r (c + d) m + (bead r (c + m) - bead r c) := fun d hd => by
    rw [← s d (by omega), show c + ((d + 1 : Nat) : Int) = c + d + 1 by omega, among_next]
  have b1 := bead_range ok (c + m)
  have b2 := bead_range ok c
  have go : ∀ k : Int, bead r (c + m) - bead r c = k → ∀ d : Nat, c + d ≤ e → among r (c + d) m = among r c m + k * d := by
    intro k hk d
    induction d with
    | zero => intro _; simp
    | succ d ih =>
      intro hd
      rw [step d hd, ih (by omega), hk, show ((d + 1 : Nat) : Int) = (d : Int) + 1 by omega, Int.mul_add]
      omega
  have go2 : ∀ k : Int, bead r (c + m) - bead r c = k → ∀ d : Int, 0 ≤ d → c + d ≤ e → among r (c + d) m = among r c m + k * d := fun k hk d hd => by
    obtain ⟨n, rfl⟩ := Int.eq_ofNat_of_zero_le hd
    exact go k hk n
  rcases b1 with b1 | b1 <;> rcases b2 with b2 | b2
  · exact .inr (.inl fun d g1 g2 => by rw [go2 0 (by omega) d g1 g2]; omega)
  · exact .inr (.inr fun d g1 g2 => by rw [go2 (-1) (by omega) d g1 g2]; omega)
  · exact .inl fun d g1 g2 => by rw [go2 1 (by omega) d g1 g2]; omega
  · exact .inr (.inl fun d g1 g2 => by rw [go2 0 (by omega) d g1 g2]; omega)
/-- two corners next to each other: e is the second, or the whole ring -/
structure Arc (r : Ring) (m c c' e : Int) : Prop where
  lo : 0 ≤ c
  up : c < e
  hi : e ≤ size r
  no : ∀ x, c < x → x < e → ¬ Corner r m x
  same : among r e m = among r c' m
theorem Corners.next {r : Ring} (ok : Ok r) {m : Int} {C : List Int} (hC : Corners r m C) {i : Nat} {c c' : Int} (h : C[i]? = some c) (h' : (C.drop 1 ++ C.take 1)[i]? = some c') : ∃ e, Arc r m c c' e ∧ (C[i + 1]? = some e ∨ (i + 1 = C.length ∧ e = size r)) := by
  have W0 := ok.size_pos
  have hi := (List.getElem?_eq_some_iff.mp h).1
  have rc := ((hC.mem c).mp (List.mem_of_getElem? h)).range ok
  have up : ∀ a b : Nat, ∀ x y, a < b → C[a]? = some x → C[b]? = some y → x < y := fun a b x y hab hx hy => by
    obtain ⟨ha, rfl⟩ := List.getElem?_eq_some_iff.mp hx
    obtain ⟨hb, rfl⟩ := List.getElem?_eq_some_iff.mp hy
    exact List.pairwise_iff_getElem.mp hC.up a b ha hb hab
  by_cases hl : i + 1 < C.length
  · rw [List.getElem?_append_left (by rw [List.length_drop]; omega), List.getElem?_drop] at h'
    rw [show 1 + i = i + 1 by omega] at h'
    have rc' := ((hC.mem c').mp (List.mem_of_getElem? h')).range ok
    refine ⟨c', ⟨rc.1, up i (i + 1) _ _ (by omega) h h', by omega, fun x x1 x2 hx => ?_, rfl⟩, .inl h'⟩
    obtain ⟨k, hk⟩ := List.getElem?_of_mem ((hC.mem x).mpr hx)
    by_cases hki : k ≤ i
    · by_cases e : k = i
      · subst e
        rw [h] at hk
        cases hk
        omega
      · have := up k i _ _ (by omega) hk h
        omega
    · by_cases e : k = i + 1
      · subst e
        rw [h'] at hk
        cases hk
        omega
      · have := up (i + 1) k _ _ (by omega) h' hk
        omega
  · have el : i + 1 = C.length := by omega
    have n0 : 0 < C.length := by omega
    obtain ⟨z, hz⟩ : ∃ z, C[0]? = some z := ⟨C[0], List.getElem?_eq_getElem n0⟩
    have z0 : z = 0 := by
      obtain ⟨k, hk⟩ := List.getElem?_of_mem ((hC.mem 0).mpr (.inl rfl))
      have rz := ((hC.mem z).mp (List.mem_of_getElem? hz)).range ok
      by_cases e : k = 0
      · subst e
        rw [hz] at hk
        exact Option.some.inj hk
      · have := up 0 k _ _ (by omega) hz hk
        omega
    have e' : c' = z := by
      rw [List.getElem?_append_right (by rw [List.length_drop]; omega), List.length_drop, show i - (C.length - 1) = 0 by omega, List.getElem?_take] at h'
      rw [if_pos (by omega), hz] at h'
      exact (Option.some.inj h').symm
    refine ⟨size r, ⟨rc.1, by omega, by omega, fun x x1 x2 hx => ?_, ?_⟩, .inr ⟨el, rfl⟩⟩
    · obtain ⟨k, hk⟩ := List.getElem?_of_mem ((hC.mem x).mpr hx)
      have hkl := (List.getElem?_eq_some_iff.mp hk).1
      by_cases e : k = i
      · subst e
        rw [h] at hk
        cases hk
        omega
      · have := up k i _ _ (by omega) hk h
        omega
    · rw [e', z0]
      have q := among_round ok 0 m 1
      rw [show (0 : Int) + size r * 1 = size r by omega] at q
      exact q
/-- what is between two corners' counts is had between them -/
theorem Arc.found {r : Ring} (ok : Ok r) {m c c' e n : Int} (a : Arc r m c c' e) (h1 : min (among r c m) (among r c' m) ≤ n) (h2 : n ≤ max (among r c m) (among r c' m)) :
    0 ≤ (c + ((n - among r c m).natAbs : Int)) % size r ∧ (c + ((n - among r c m).natAbs : Int)) % size r < size r ∧ among r ((c + ((n - among r c m).natAbs : Int)) % size r) m = n := by
  have W0 := ok.size_pos
  refine ⟨Int.emod_nonneg _ (by omega), Int.emod_lt_of_pos _ (by omega), ?_⟩
  rw [among_mod ok]
  have ups := a.up
  have sm := a.same
  rcases arc_lin ok a.lo a.hi a.no with L | L | L
  · have q := L (e - c) (by omega) (by omega)
    rw [show c + (e - c) = e by omega, sm] at q
    rw [L _ (by omega) (by omega)]
    omega
  · have q := L (e - c) (by omega) (by omega)
    rw [show c + (e - c) = e by omega, sm] at q
    rw [L _ (by omega) (by omega)]
    omega
  · have q := L (e - c) (by omega) (by omega)
    rw [show c + (e - c) = e by omega, sm] at q
    rw [L _ (by omega) (by omega)]
    omega
/-- nothing beyond the ends -/
theorem Arc.within {r : Ring} (ok : Ok r) {m c c' e p : Int} (a : Arc r m c c' e) (h1 : c ≤ p) (h2 : p ≤ e) : min (among r c m) (among r c' m) ≤ among r p m ∧ among r p m ≤ max (among r c m) (among r c' m) := by
  have ups := a.up
  have sm := a.same
  have ep : c + (p - c) = p := by omega
  rcases arc_lin ok a.lo a.hi a.no with L | L | L
  all_goals
    have q := L (e - c) (by omega) (by omega)
    rw [show c + (e - c) = e by omega, sm] at q
    have y := L (p - c) (by omega) (by omega)
    rw [ep] at y
    omega
theorem Corners.arc_of {r : Ring} (ok : Ok r) {m : Int} {C : List Int} (hC : Corners r m C) {p : Int} (h1 : p < size r) : ∀ (k i : Nat) (c : Int), C.length = i + 1 + k → C[i]? = some c → c ≤ p → ∃ a a' e, Arc r m a a' e ∧ a ≤ p ∧ p ≤ e ∧ a ∈ C ∧ a' ∈ C
  | k, i, c, hk, hi, hp => by
    have hil : i < (C.drop 1 ++ C.take 1).length := by rw [List.length_append, List.length_drop, List.length_take]; omega
    obtain ⟨c', hc'⟩ : ∃ c', (C.drop 1 ++ C.take 1)[i]? = some c' := ⟨_, List.getElem?_eq_getElem hil⟩
    have mc' : c' ∈ C := by
      rcases List.mem_append.mp (List.mem_of_getElem? hc') with z | z
      · exact List.mem_of_mem_drop z
      · exact List.mem_of_mem_take z
    obtain ⟨e, a, he⟩ := hC.next ok hi hc'
    by_cases hpe : p ≤ e
    · exact ⟨c, c', e, a, hp, hpe, List.mem_of_getElem? hi, mc'⟩
    · rcases he with he | ⟨_, rfl⟩
      · cases k with
        | zero =>
          have := (List.getElem?_eq_some_iff.mp he).1
          omega
        | succ k => exact Corners.arc_of ok hC h1 k (i + 1) e (by omega) he (by omega)
      · omega
theorem Corners.zero {r : Ring} (ok : Ok r) {m : Int} {C : List Int} (hC : Corners r m C) : ∃ z, C[0]? = some z ∧ z = 0 := by
  have n0 : 0 < C.length := List.length_pos_iff.mpr hC.ne
  refine ⟨C[0], List.getElem?_eq_getElem n0, ?_⟩
  have rz := ((hC.mem C[0]).mp (List.getElem_mem n0)).range ok
  obtain ⟨k, hk⟩ := List.getElem?_of_mem ((hC.mem 0).mpr (.inl rfl))
  obtain ⟨hkl, e⟩ := List.getElem?_eq_some_iff.mp hk
  by_cases h : k = 0
  · subst h
    exact e
  · have := List.pairwise_iff_getElem.mp hC.up 0 k n0 hkl (by omega)
    omega
theorem IsEnds.all {r : Ring} (ok : Ok r) {m lo hi : Int} {C : List Int} (hC : Corners r m C) (E : IsEnds r m lo hi) {p : Int} (h0 : 0 ≤ p) (h1 : p < size r) : lo ≤ among r p m ∧ among r p m ≤ hi := by
  obtain ⟨z, hz, rfl⟩ := hC.zero ok
  have n0 : 0 < C.length := List.length_pos_iff.mpr hC.ne
  obtain ⟨a, a', e, A, p1, p2, ma, ma'⟩ := hC.arc_of ok h1 (C.length - 1) 0 0 (by omega) hz h0
  have y := A.within ok p1 p2
  have l1 := E.lo_le a ((hC.mem a).mp ma)
  have l2 := E.lo_le a' ((hC.mem a').mp ma')
  have u1 := E.hi_ge a ((hC.mem a).mp ma)
  have u2 := E.hi_ge a' ((hC.mem a').mp ma')
  omega
/-- what is within the ends is between two corners next to each other -/
theorem IsEnds.some_pair {r : Ring} {m lo hi n : Int} {C : List Int} (hC : Corners r m C) (E : IsEnds r m lo hi) (h1 : lo ≤ n) (h2 : n ≤ hi)
    (no : ∀ (i : Nat) (c c' : Int), C[i]? = some c → (C.drop 1 ++ C.take 1)[i]? = some c' → ¬ (min (among r c m) (among r c' m) ≤ n ∧ n ≤ max (among r c m) (among r c' m))) : False := by
  have n0 : 0 < C.length := List.length_pos_iff.mpr hC.ne
  have nx : ∀ (i : Nat) (c : Int), C[i]? = some c → ∃ c', (C.drop 1 ++ C.take 1)[i]? = some c' ∧ (∀ d, C[i + 1]? = some d → c' = d) := fun i c hi => by
    have hl := (List.getElem?_eq_some_iff.mp hi).1
    have hil : i < (C.drop 1 ++ C.take 1).length := by rw [List.length_append, List.length_drop, List.length_take]; omega
    refine ⟨_, List.getElem?_eq_getElem hil, fun d hd => ?_⟩
    have h3 := (List.getElem?_eq_some_iff.mp hd).1
    have q := List.getElem?_eq_getElem hil
    rw [List.getElem?_append_left (by rw [List.length_drop]; omega), List.getElem?_drop, show 1 + i = i + 1 by omega, hd] at q
    exact (Option.some.inj q).symm
  obtain ⟨c0, hc0⟩ : ∃ c0, C[0]? = some c0 := ⟨_, List.getElem?_eq_getElem n0⟩
  have side : ∀ (i : Nat) (c : Int), C[i]? = some c → among r c m ≠ n ∧ (among r c m < n ↔ among r c0 m < n) := by
    intro i
    induction i with
    | zero =>
      intro c hc
      rw [hc0] at hc
      cases hc
      obtain ⟨c', h', _⟩ := nx 0 c0 hc0
      have z := no 0 _ _ hc0 h'
      exact ⟨by omega, Iff.rfl⟩
    | succ i ih =>
      intro c hc
      have hl := (List.getElem?_eq_some_iff.mp hc).1
      obtain ⟨b, hb⟩ : ∃ b, C[i]? = some b := ⟨_, List.getElem?_eq_getElem (by omega)⟩
      obtain ⟨i1, i2⟩ := ih b hb
      obtain ⟨b', hb', e⟩ := nx i b hb
      have eb := e c hc
      subst eb
      have z := no i _ _ hb hb'
      refine ⟨by omega, ?_⟩
      rw [← i2]
      omega
  obtain ⟨x, hx, ex⟩ := E.lo_at
  obtain ⟨y, hy, ey⟩ := E.hi_at
  obtain ⟨i, hi'⟩ := List.getElem?_of_mem ((hC.mem x).mpr hx)
  obtain ⟨j, hj⟩ := List.getElem?_of_mem ((hC.mem y).mpr hy)
  have s1 := side i x hi'
  have s2 := side j y hj
  omega
/-! ### by the beads, the ring told twice -/
theorem upTo_two {r : Ring} (ok : Ok r) {q : Int} (h0 : 0 ≤ q) (h1 : q ≤ 2 * size r) : upTo r q = (((row r ++ row r).take q.toNat).count true : Int) := by
  have W0 := ok.size_pos
  have rr : ∀ x ∈ r ++ r, 1 ≤ x.2 := fun x hx => (List.mem_append.mp hx).elim (ok.pos x) (ok.pos x)
  rw [← row_app, ← ahead_row rr h0]
  by_cases hc : q ≤ size r
  · rw [ahead_left ok.pos ok.pos h0 hc, upTo_le ok h0 hc]
  · have e := ahead_split r r (q - size r) ok.pos (by omega) ok.pos
    rw [show size r + (q - size r) = q by omega] at e
    have u := upTo_round (r := r) (by omega) (q - size r) 1
    rw [show q - size r + size r * 1 = q by omega, upTo_le ok (p := q - size r) (by omega) (by omega)] at u
    rw [e, u]
    omega
theorem among_two {r : Ring} (ok : Ok r) {p m : Nat} (h0 : (p : Int) ≤ size r) (h1 : (m : Int) ≤ size r) : among r p m = ((((row r ++ row r).drop p).take m).count true : Int) := by
  unfold among
  rw [upTo_two ok (by omega) (by omega), upTo_two ok (by omega) (by omega), show ((p : Int) + (m : Int)).toNat = p + m by omega, Int.toNat_natCast, List.take_add, List.count_append]
  omega
end Rb
/-! Ring beads: answers of either class, places one by one, counts in texts. -/
namespace Rb
open PySem PySem.Spec PyProof.Rows L2
/-! ### ends are there -/
theorem min_there : ∀ l : List Int, l ≠ [] → ∃ m, m ∈ l ∧ ∀ y ∈ l, m ≤ y
  | [], h => absurd rfl h
  | [a], _ => ⟨a, List.mem_cons_self, fun y hy => by simp at hy; omega⟩
  | a :: b :: l, _ => by
    obtain ⟨m, h1, h2⟩ := min_there (b :: l) (by simp)
    by_cases h : a ≤ m
    · refine ⟨a, List.mem_cons_self, fun y hy => ?_⟩
      rcases List.mem_cons.mp hy with rfl | hy
      · omega
      · have := h2 y hy; omega
    · refine ⟨m, List.mem_cons_of_mem _ h1, fun y hy => ?_⟩
      rcases List.mem_cons.mp hy with rfl | hy
      · omega
      · exact h2 y hy
theorem max_there (l : List Int) (h : l ≠ []) : ∃ m, m ∈ l ∧ ∀ y ∈ l, y ≤ m := by
  obtain ⟨m, h1, h2⟩ := min_there (l.map fun x => -x) (by simpa using h)
  obtain ⟨x, hx, rfl⟩ := List.mem_map.mp h1
  exact ⟨x, hx, fun y hy => by have := h2 (-y) (List.mem_map.mpr ⟨y, hy, rfl⟩); omega⟩
theorem corners_there {r : Ring} (ok : Ok r) (m : Int) : ∃ C, Corners r m C := by
  classical
  refine ⟨((List.range (size r).toNat).map fun n : Nat => (n : Int)).filter fun x => decide (Corner r m x), List.Pairwise.filter _ ?_, fun x => ?_⟩
  · rw [List.pairwise_map]
    exact List.pairwise_lt_range.imp fun {a b} h => by omega
  · rw [List.mem_filter, List.mem_map]
    constructor
    · rintro ⟨_, h⟩
      simpa using h
    · intro h
      have := h.range ok
      exact ⟨⟨x.toNat, List.mem_range.mpr (by omega), by omega⟩, by simpa using h⟩
theorem ends_there {r : Ring} (ok : Ok r) (m : Int) : ∃ lo hi, IsEnds r m lo hi := by
  obtain ⟨C, hC⟩ := corners_there ok m
  have ne : C.map (fun x => among r x m) ≠ [] := by simpa using hC.ne
  obtain ⟨lo, l1, l2⟩ := min_there _ ne
  obtain ⟨hi, u1, u2⟩ := max_there _ ne
  exact ⟨lo, hi, hC.ends l1 l2 u1 u2⟩
theorem IsEnds.at {r : Ring} (ok : Ok r) {m lo hi : Int} (E : IsEnds r m lo hi) {p : Int} (h0 : 0 ≤ p) (h1 : p < size r) : lo ≤ among r p m ∧ among r p m ≤ hi := by
  obtain ⟨C, hC⟩ := corners_there ok m
  exact E.all ok hC h0 h1
/-- what is within the ends is had somewhere -/
theorem IsEnds.had {r : Ring} (ok : Ok r) {m lo hi n : Int} (E : IsEnds r m lo hi) : (lo ≤ n ∧ n ≤ hi) ↔ ∃ p, 0 ≤ p ∧ p < size r ∧ among r p m = n := by
  constructor
  · rintro ⟨h1, h2⟩
    obtain ⟨C, hC⟩ := corners_there ok m
    by_cases h : ∃ p, 0 ≤ p ∧ p < size r ∧ among r p m = n
    · exact h
    · exfalso
      refine E.some_pair hC h1 h2 fun i c c' hc hc' y => h ?_
      obtain ⟨e, a, _⟩ := hC.next ok hc hc'
      obtain ⟨q1, q2, q3⟩ := a.found ok y.1 y.2
      exact ⟨_, q1, q2, q3⟩
  · rintro ⟨p, h0, h1, rfl⟩
    exact E.at ok h0 h1
/-- the counts of all places -/
def seen (r : Ring) (m : Int) : List Int := (List.range (row r).length).map fun p : Nat => among r p m
theorem seen_mem {r : Ring} (ok : Ok r) {m n : Int} : n ∈ seen r m ↔ ∃ p, 0 ≤ p ∧ p < size r ∧ among r p m = n := by
  have hl := row_len ok.pos
  unfold seen
  rw [List.mem_map]
  constructor
  · rintro ⟨p, hp, rfl⟩
    have := List.mem_range.mp hp
    exact ⟨p, by omega, by omega, rfl⟩
  · rintro ⟨p, h0, h1, rfl⟩
    refine ⟨p.toNat, List.mem_range.mpr (by omega), ?_⟩
    rw [show ((p.toNat : Nat) : Int) = p by omega]
theorem seen_ends {r : Ring} (ok : Ok r) {m lo hi : Int} (l1 : lo ∈ seen r m) (l2 : ∀ y ∈ seen r m, lo ≤ y) (u1 : hi ∈ seen r m) (u2 : ∀ y ∈ seen r m, y ≤ hi) : IsEnds r m lo hi := by
  obtain ⟨a, b, E⟩ := ends_there ok m
  have e1 := (E.had ok).mpr ((seen_mem ok).mp l1)
  have e2 := (E.had ok).mpr ((seen_mem ok).mp u1)
  have le := E.le
  have e3 := l2 a ((seen_mem ok).mpr ((E.had ok).mp ⟨Int.le_refl _, le⟩))
  have e4 := u2 b ((seen_mem ok).mpr ((E.had ok).mp ⟨le, Int.le_refl _⟩))
  have ea : lo = a := by omega
  have eb : hi = b := by omega
  rw [ea, eb]
  exact E
/-! ### an answer of either class -/
def tEither (t u : TE) : TE := fun σ H Q => t σ H Q ∨ u σ H Q
theorem pe_either {X : Cx} {e : Expr} {t u : TE} (a : PE X e t) (b : PE X e u) : PE X e (tEither t u) := ⟨fun pins s σ H Q I h => h.elim (a.run pins s σ H Q I) (b.run pins s σ H Q I)⟩
/-- the answer at x: is it a Found; what it says of a number -/
def AnsAt (mg : Str → Option Value) (H : Hp) (x : Addr) (r : Ring) (m lo hi : Int) (b : Bool) (g : Int → Bool) : Prop :=
  (b = true ∧ (∃ p, InsAt (adr mg "Found") H x (fPlace (.int p)) ∧ 0 ≤ p ∧ p < size r ∧ g = fun n => decide (among r p m = n))) ∨
  (b = false ∧ InsAt (adr mg "Never") H x (fEnds (.int lo) (.int hi)) ∧ g = fun n => !decide (lo ≤ n ∧ n ≤ hi))
theorem AnsAt.ex {mg : Str → Option Value} {H H' : Hp} {x : Addr} {r : Ring} {m lo hi : Int} {b : Bool} {g : Int → Bool} (e : Ex H H') (h : AnsAt mg H x r m lo hi b g) : AnsAt mg H' x r m lo hi b g := by
  rcases h with ⟨h1, p, h2, h3⟩ | ⟨h1, h2, h3⟩
  · exact .inl ⟨h1, p, h2.ex e, h3⟩
  · exact .inr ⟨h1, h2.ex e, h3⟩
/-! ### texts -/
theorem txt_slice {l : List Bool} {p m : Nat} (h : p + m ≤ l.length) : cutS (txt l) (some (p : Int)) (some ((p : Int) + (m : Int))) = txt ((l.drop p).take m) := by
  have e : (txt l).length = l.length := txt_len l
  rw [show ((p : Int) + (m : Int)) = ((p + m : Nat) : Int) by omega]
  unfold cutS
  rw [show HT.sIx (txt l).length 0 (some (p : Int)) = min p (txt l).length from HT.sIx_nat _ _ _, show HT.sIx (txt l).length (txt l).length (some ((p + m : Nat) : Int)) = min (p + m) (txt l).length from HT.sIx_nat _ _ _, e, Nat.min_eq_left h, Nat.min_eq_left (show p ≤ l.length by omega), Nat.add_sub_cancel_left]
  have q : (txt l).cps.toList = l.map cd := by simp [txt, SX.S]
  rw [q, ← List.map_drop, ← List.map_take]
  rfl
theorem cnt_txt : ∀ l : List Bool, cnt 97 (l.map cd) = (l.count true : Int)
  | [] => rfl
  | b :: l => by
    rw [List.map_cons, cnt_cons, cnt_txt l]
    cases b
    · simp [cd]
    · simp [cd]; omega
theorem txt_count (l : List Bool) : Txt.count (txt l) ("a" : Str) = (l.count true : Int) := by
  have e : ("a" : Str) = ⟨#[97]⟩ := by decide +kernel
  have q : (txt l).cps.toList = l.map cd := by simp [txt, SX.S]
  rw [e, count_cnt, q, cnt_txt]
section
variable {K : PySem.W.Frag} {σ : L2.St} {H : Hp} {Q : VK}
theorem r_slS {z : Str} {lo hi : Option Int} (n : z.length ≤ sizeLine) (q : Q (.str (cutS z lo hi)) H) : rSlS (.str z) lo hi H Q := ⟨z, rfl, n, q⟩
def rCnt : V → List V → Hp → VK → Prop := fun x xs H Q => ∃ a b, x = .str a ∧ xs = [.str b] ∧ Q (.int (Txt.count a b)) H
theorem mt_cnt {X : Cx} : MtR X "str.count" rCnt := mt_count
theorem r_cnt {a b : Str} (q : Q (.int (Txt.count a b)) H) : rCnt (.str a) [.str b] H Q := ⟨a, b, rfl, rfl, q⟩
theorem inV_int (n : Int) : ∀ xs : List Int, inV (.int n) (xs.map V.int) = decide (n ∈ xs)
  | [] => rfl
  | x :: xs => by
    have ih := inV_int n xs
    unfold inV at ih ⊢
    rw [List.map_cons, List.any_cons, ih]
    show ((x == n) || decide (n ∈ xs)) = _
    by_cases h : x = n
    · subst h
      simp
    · have h2 : ¬ n = x := fun e => h e.symm
      simp [h, h2]
theorem flat_int (xs : List Int) : (xs.map V.int).all flatV = true := by
  rw [List.all_eq_true]
  intro y hy
  obtain ⟨x, _, rfl⟩ := List.mem_map.mp hy
  rfl
theorem r_neB {i j : Bool} (q : Q (.bl (!decide (i = j))) H) : rNe (.bl i) (.bl j) H Q := ⟨rfl, by rw [show decide (V.bl i = V.bl j) = decide (i = j) by simp]; exact q⟩
theorem r_isNotB {a b : Bool} (q : Q (.bl (!decide (a = b))) H) : rNotB (.bl a) (.bl b) H Q := ⟨a, b, rfl, rfl, q⟩
theorem r_rng2 {ta : TA} {R : It → Hp → Prop} (q : ta σ H fun vs H1 => ∃ i j : Int, vs = [.int i, .int j] ∧ (-(2 ^ 62) ≤ i ∧ i < 2 ^ 62 ∧ -(2 ^ 62) ≤ j ∧ j < 2 ^ 62) ∧ R (Itr i (j - i).toNat) H1) : iRng2 ta σ H R := q
theorem r_rng2b {i j : Int} {n : Nat} {R : It → Hp → Prop} (hi : -1000000 ≤ i ∧ i ≤ 1000000) (hj : j = i + (n : Int)) (hn : n < 1000000) (q : R (Itr i n) H) : ∃ i' j' : Int, [V.int i, V.int j] = [.int i', .int j'] ∧ (-(2 ^ 62) ≤ i' ∧ i' < 2 ^ 62 ∧ -(2 ^ 62) ≤ j' ∧ j' < 2 ^ 62) ∧ R (Itr i' (j' - i').toNat) H :=
  ⟨i, j, rfl, by omega, by rw [show (j - i).toNat = n by omega]; exact q⟩
theorem forK_rng {lo : Int} {n : Nat} {j : Nat} {tb : TS} {nx : L2.St → Hp → Prop} {rt : VK} {bk ct : L2.St → Hp → Prop} (Pv : Nat → L2.St → Hp → Prop) (p0 : Pv 0 σ H)
    (hs : ∀ i σ' H', i < n → Pv i σ' H' → tb ⟨Pv (i + 1), rt, nx, Pv (i + 1)⟩ (σ'.set j (some (.int (lo + i)))) H')
    (hd : ∀ σ' H', Pv n σ' H' → nx σ' H') : ForK (gName j) tb ⟨nx, rt, bk, ct⟩ σ (Itr lo n) H :=
  for_range (lo := lo) (n := n) Pv p0 (fun i σ' H' hi p => hs i σ' H' hi p) hd
theorem lcK_tup {a : Addr} {xs : List V} {te : TE} {j : Nat} {ws : List Nat} (ys : List V) (hl : ys.length = xs.length) (h0 : SqT K H a xs) (hz : xs.length ≤ 40000)
    (hw : ∀ x, wipe ((wipe σ ws).set j (some x)) ws = wipe σ ws)
    (he : ∀ (i : Nat) (x y : V), xs[i]? = some x → ys[i]? = some y → ∀ H1, Ex H H1 → ∀ Q : VK, (∀ H2, Ex H1 H2 → Q y H2) → te ((wipe σ ws).set j (some x)) H1 Q)
    (q : ∀ p H', H p = none → Ex H H' → H' p = some (.lst ys) → Q (.ref p) H') : ∃ a', V.ref a = .ref a' ∧ (∃ xs, SqT K H a' xs) ∧ LcK (gName j) tYes te ws σ Q (Itt K a') H :=
  ⟨a, rfl, ⟨xs, h0⟩, lcK_gen (walk_tup (xs := xs)) ys hl (fun H' e => exU e h0) hz hw he q⟩
end
end Rb
/-! Ring beads: places from which the one kind stays ahead. -/
namespace Rb
open PySem PySem.Spec PyProof.Rows L2
/-! ### heights: one up for a bead of the kind a, t down for another -/
def hgt (t : Int) : Ring → Int
  | [] => 0
  | x :: r => (if x.1 then x.2 else -t * x.2) + hgt t r
theorem hgt_app (t : Int) (r s : Ring) : hgt t (r ++ s) = hgt t r + hgt t s := by
  induction r with
  | nil => simp [hgt]
  | cons x r ih => simp only [List.cons_append, hgt, ih]; omega
theorem hgt_take {t : Int} {r : Ring} {j : Nat} {x : Bool × Int} (h : r[j]? = some x) : hgt t (r.take (j + 1)) = hgt t (r.take j) + (if x.1 then x.2 else -t * x.2) := by
  rw [List.take_add_one, h, hgt_app]
  simp [hgt]
theorem hgt_eq (t : Int) : ∀ r : Ring, hgt t r = (t + 1) * mine r - t * size r
  | [] => by simp [hgt, mine, size]
  | x :: r => by
    have ih := hgt_eq t r
    simp only [hgt, mine, size, ih, Int.mul_add, Int.add_mul, Int.one_mul, Int.neg_mul]
    split
    · omega
    · simp only [Int.mul_zero]
      omega
theorem surplus_eq (t : Int) (r : Ring) : mine r - t * (size r - mine r) = hgt t r := by
  rw [hgt_eq, Int.mul_sub, Int.add_mul]
  omega
def hgts (t : Int) (r : Ring) : List Int := (List.range (r.length + 1)).map fun j => hgt t (r.take j)
theorem hgts_len (t : Int) (r : Ring) : (hgts t r).length = r.length + 1 := by simp [hgts]
theorem hgts_at {t : Int} {r : Ring} {j : Nat} (h : j ≤ r.length) : (hgts t r)[j]? = some (hgt t (r.take j)) := by
  unfold hgts
  rw [List.getElem?_map, List.getElem?_range (by omega)]
  rfl
theorem hgts_snoc {t : Int} {r : Ring} {n : Nat} {x : Bool × Int} (h : r[n]? = some x) : hgts t (r.take (n + 1)) = hgts t (r.take n) ++ [hgt t (r.take n) + (if x.1 then x.2 else -t * x.2)] := by
  have hn : n < r.length := (List.getElem?_eq_some_iff.mp h).1
  unfold hgts
  rw [List.length_take, List.length_take, Nat.min_eq_left (by omega), Nat.min_eq_left (by omega), List.range_succ (n := n + 1), List.map_append]
  have e : (List.range (n + 1)).map (fun j => hgt t ((r.take (n + 1)).take j)) = (List.range (n + 1)).map (fun j => hgt t ((r.take n).take j)) := by
    refine List.map_congr_left fun j hj => ?_
    rw [List.mem_range] at hj
    rw [List.take_take, List.take_take, Nat.min_eq_left (by omega), Nat.min_eq_left (by omega)]
  rw [e]
  simp only [List.map_cons, List.map_nil, List.take_take, Nat.min_self]
  rw [hgt_take h]
theorem hgts_mem {t : Int} {r : Ring} {z : Int} (h : z ∈ hgts t r) : ∃ i, i ≤ r.length ∧ z = hgt t (r.take i) := by
  obtain ⟨j, hj, rfl⟩ := List.mem_map.mp h
  exact ⟨j, by have := List.mem_range.mp hj; omega, rfl⟩
theorem mem_hgts {t : Int} {r : Ring} {i : Nat} (h : i ≤ r.length) : hgt t (r.take i) ∈ hgts t r := List.mem_of_getElem? (hgts_at h)
theorem hgts_tail_mem {t : Int} {r : Ring} {z : Int} : z ∈ (hgts t r).drop 1 ↔ ∃ i, 1 ≤ i ∧ i ≤ r.length ∧ z = hgt t (r.take i) := by
  constructor
  · intro h
    obtain ⟨k, hk⟩ := List.getElem?_of_mem h
    rw [List.getElem?_drop] at hk
    have hl := (List.getElem?_eq_some_iff.mp hk).1
    rw [hgts_len] at hl
    rw [hgts_at (by omega)] at hk
    exact ⟨1 + k, by omega, by omega, (Option.some.inj hk).symm⟩
  · rintro ⟨i, h1, h2, rfl⟩
    refine List.mem_of_getElem? (i := i - 1) ?_
    rw [List.getElem?_drop, show 1 + (i - 1) = i by omega, hgts_at h2]
theorem hgt_all (t : Int) (r : Ring) : hgt t (r.take r.length) = hgt t r := by rw [List.take_length]
/-- the lowest behind the begin; what a round adds to it -/
structure Low (t : Int) (r : Ring) (b : Int) : Prop where
  at_ : ∃ i, 1 ≤ i ∧ i ≤ r.length ∧ b = hgt t (r.take i)
  le : ∀ i, 1 ≤ i → i ≤ r.length → b ≤ hgt t (r.take i)
/-- the lowest of B and the heights behind the stretch j -/
def lwk (t : Int) (r : Ring) (B : Int) : Nat → Int
  | 0 => B
  | k + 1 => min (lwk t r B k) (hgt t (r.take (r.length - k)))
def lw (t : Int) (r : Ring) (B : Int) (j : Nat) : Int := lwk t r B (r.length - j)
theorem lw_last (t : Int) (r : Ring) (B : Int) : lw t r B r.length = B := by
  unfold lw
  rw [Nat.sub_self]
  rfl
theorem lw_step {t : Int} {r : Ring} {B : Int} {j : Nat} (h : j < r.length) : lw t r B j = min (lw t r B (j + 1)) (hgt t (r.take (j + 1))) := by
  unfold lw
  rw [show r.length - j = (r.length - (j + 1)) + 1 by omega, lwk, show r.length - (r.length - (j + 1)) = j + 1 by omega]
theorem lw_base {t : Int} {r : Ring} {B : Int} : ∀ (k j : Nat), j + k = r.length → lw t r B j ≤ B
  | 0, j, h => by
    rw [show j = r.length by omega, lw_last]
    exact Int.le_refl _
  | k + 1, j, h => by
    rw [lw_step (by omega)]
    have := lw_base (t := t) (r := r) (B := B) k (j + 1) (by omega)
    omega
theorem lw_le {t : Int} {r : Ring} {B : Int} : ∀ (k j i : Nat), j + k = r.length → j < i → i ≤ r.length → lw t r B j ≤ hgt t (r.take i)
  | 0, j, i, h, h1, h2 => by omega
  | k + 1, j, i, h, h1, h2 => by
    rw [lw_step (by omega)]
    by_cases e : i = j + 1
    · subst e
      omega
    · have := lw_le (t := t) (r := r) (B := B) k (j + 1) i (by omega) (by omega) h2
      omega
theorem lw_at {t : Int} {r : Ring} {B : Int} : ∀ (k j : Nat), j + k = r.length → lw t r B j = B ∨ ∃ i, j < i ∧ i ≤ r.length ∧ lw t r B j = hgt t (r.take i)
  | 0, j, h => .inl (by rw [show j = r.length by omega, lw_last])
  | k + 1, j, h => by
    rw [lw_step (by omega)]
    by_cases c : lw t r B (j + 1) ≤ hgt t (r.take (j + 1))
    · rw [show min (lw t r B (j + 1)) (hgt t (r.take (j + 1))) = lw t r B (j + 1) by omega]
      rcases lw_at (t := t) (r := r) (B := B) k (j + 1) (by omega) with e | ⟨i, h1, h2, e⟩
      · exact .inl e
      · exact .inr ⟨i, by omega, h2, e⟩
    · exact .inr ⟨j + 1, by omega, by omega, by omega⟩
/-- how many starts a stretch has, and what is reached ahead of it -/
def cnt1 (t : Int) (r : Ring) (B : Int) (j : Nat) (x : Bool × Int) : Int := if x.1 then min x.2 (max 0 (lw t r B j - hgt t (r.take j))) else 0
def mm (t : Int) (r : Ring) (B : Int) (j : Nat) : Int := min (hgt t (r.take j)) (lw t r B j)
theorem mm_next {t : Int} {r : Ring} {B : Int} {j : Nat} (h : j < r.length) : mm t r B (j + 1) = lw t r B j := by
  rw [lw_step h]
  unfold mm
  omega
theorem cnt1_eq {t : Int} (ht : 1 ≤ t) {r : Ring} (ok : Ok r) {B : Int} {j : Nat} {x : Bool × Int} (h : r[j]? = some x) : cnt1 t r B j x = mm t r B (j + 1) - mm t r B j ∧ 0 ≤ cnt1 t r B j x ∧ cnt1 t r B j x ≤ x.2 ∧ (x.1 = false → cnt1 t r B j x = 0) := by
  have hn := (List.getElem?_eq_some_iff.mp h).1
  have hx := ok.pos x (List.mem_of_getElem? h)
  have l := lw_le (t := t) (r := r) (B := B) (r.length - j) j (j + 1) (by omega) (by omega) (by omega)
  rw [hgt_take h] at l
  rw [mm_next hn]
  unfold cnt1 mm
  cases e : x.1
  · rw [e] at l
    simp only [Bool.false_eq_true, if_false] at l ⊢
    have m : 1 * 1 ≤ t * x.2 := Int.mul_le_mul ht hx (by decide) (by omega)
    rw [Int.neg_mul] at l
    exact ⟨by omega, by omega, by omega, fun _ => trivial⟩
  · rw [e] at l
    simp only [if_true] at l ⊢
    exact ⟨by omega, by omega, by omega, fun z => nomatch z⟩
/-- the surplus is above nothing; b the lowest behind the begin -/
structure Up (t : Int) (r : Ring) (b : Int) : Prop where
  ok : Ok r
  t1 : 1 ≤ t
  s : 0 < hgt t r
  low : Low t r b
theorem Up.first {t : Int} {r : Ring} {b : Int} (u : Up t r b) : mm t r (b + hgt t r) 0 = min 0 b := by
  have l0 := u.ok.len
  have e : lw t r (b + hgt t r) 0 = b := by
    obtain ⟨i, h1, h2, h3⟩ := u.low.at_
    have l := lw_le (t := t) (r := r) (B := b + hgt t r) r.length 0 i (by omega) (by omega) h2
    have s := u.s
    rcases lw_at (t := t) (r := r) (B := b + hgt t r) r.length 0 (by omega) with q | ⟨k, k1, k2, q⟩
    · omega
    · have := u.low.le k (by omega) k2
      omega
  unfold mm
  rw [e]
  simp [hgt]
theorem Up.last {t : Int} {r : Ring} {b : Int} (u : Up t r b) : mm t r (b + hgt t r) r.length = min 0 b + hgt t r := by
  unfold mm
  rw [lw_last, hgt_all]
  omega
theorem mm_mono {t : Int} {r : Ring} {b : Int} (u : Up t r b) : ∀ (k j : Nat), j + k ≤ r.length → mm t r (b + hgt t r) j ≤ mm t r (b + hgt t r) (j + k)
  | 0, j, _ => Int.le_refl _
  | k + 1, j, h => by
    have ih := mm_mono u k j (by omega)
    have c := cnt1_eq u.t1 u.ok (B := b + hgt t r) (List.getElem?_eq_getElem (show j + k < r.length by omega))
    rw [show j + (k + 1) = j + k + 1 by omega]
    omega
/-- a start at the height v -/
def StartH (t : Int) (r : Ring) (b p v : Int) : Prop := ∃ j x, r[j]? = some x ∧ x.1 = true ∧ size (r.take j) ≤ p ∧ p < size (r.take j) + x.2 ∧ v = hgt t (r.take j) + (p - size (r.take j)) ∧ v < lw t r (b + hgt t r) j
/-- by the numbers: what the walk over the parts finds -/
def PlaceOf (t : Int) (r : Ring) (b p v : Int) : Prop := ∃ j x, r[j]? = some x ∧ mm t r (b + hgt t r) j ≤ v ∧ v < mm t r (b + hgt t r) (j + 1) ∧ p = size (r.take j) + (v - mm t r (b + hgt t r) j)
theorem Up.place {t : Int} {r : Ring} {b p v : Int} (u : Up t r b) : PlaceOf t r b p v ↔ StartH t r b p v := by
  constructor
  · rintro ⟨j, x, hj, h1, h2, rfl⟩
    have hn := (List.getElem?_eq_some_iff.mp hj).1
    have c := cnt1_eq u.t1 u.ok (B := b + hgt t r) hj
    rw [mm_next hn] at h2 c
    have kx : x.1 = true := by
      cases e : x.1
      · have := c.2.2.2 e
        omega
      · rfl
    have em : mm t r (b + hgt t r) j = hgt t (r.take j) := by
      unfold mm at h1 ⊢
      omega
    rw [em] at c h1 ⊢
    exact ⟨j, x, hj, kx, by omega, by omega, by omega, h2⟩
  · rintro ⟨j, x, hj, kx, h1, h2, rfl, h3⟩
    have hn := (List.getElem?_eq_some_iff.mp hj).1
    refine ⟨j, x, hj, ?_, ?_, ?_⟩
    · unfold mm
      omega
    · rw [mm_next hn]
      exact h3
    · unfold mm
      omega
theorem Up.number {t : Int} {r : Ring} {b p v : Int} (u : Up t r b) (h : PlaceOf t r b p v) : min 0 b ≤ v ∧ v < min 0 b + hgt t r := by
  obtain ⟨j, x, hj, h1, h2, _⟩ := h
  have hn := (List.getElem?_eq_some_iff.mp hj).1
  have m1 := mm_mono u j 0 (by omega)
  have m2 := mm_mono u (r.length - (j + 1)) (j + 1) (by omega)
  rw [show j + 1 + (r.length - (j + 1)) = r.length by omega, u.last] at m2
  rw [u.first, Nat.zero_add] at m1
  omega
theorem Up.one {t : Int} {r : Ring} {b p p' v : Int} (u : Up t r b) (h : PlaceOf t r b p v) (h' : PlaceOf t r b p' v) : p = p' := by
  obtain ⟨j, x, hj, h1, h2, rfl⟩ := h
  obtain ⟨i, y, hi, g1, g2, rfl⟩ := h'
  have hn := (List.getElem?_eq_some_iff.mp hj).1
  have hm := (List.getElem?_eq_some_iff.mp hi).1
  by_cases e : j = i
  · subst e
    rfl
  · by_cases c : j < i
    · have := mm_mono u (i - (j + 1)) (j + 1) (by omega)
      rw [show j + 1 + (i - (j + 1)) = i by omega] at this
      omega
    · have := mm_mono u (j - (i + 1)) (i + 1) (by omega)
      rw [show i + 1 + (j - (i + 1)) = j by omega] at this
      omega
theorem size_mono {r : Ring} (ok : Ok r) {i j : Nat} (h : i ≤ j) : size (r.take i) ≤ size (r.take j) := by
  have e : r.take i = (r.take j).take i := by rw [List.take_take, Nat.min_eq_left h]
  have a := size_app ((r.take j).take i) ((r.take j).drop i)
  rw [List.take_append_drop, ← e] at a
  have l := size_len ((r.take j).drop i) fun x hx => ok.pos x (List.mem_of_mem_take (List.mem_of_mem_drop hx))
  omega
theorem Up.rise {t : Int} {r : Ring} {b p p' v v' : Int} (u : Up t r b) (h : PlaceOf t r b p v) (h' : PlaceOf t r b p' v') (lt : v < v') : p < p' := by
  obtain ⟨j, x, hj, h1, h2, rfl⟩ := h
  obtain ⟨i, y, hi, g1, g2, rfl⟩ := h'
  have hn := (List.getElem?_eq_some_iff.mp hj).1
  have hm := (List.getElem?_eq_some_iff.mp hi).1
  have c1 := cnt1_eq u.t1 u.ok (B := b + hgt t r) hj
  have s1 := size_take hj
  by_cases e : j = i
  · subst e
    omega
  · by_cases c : j < i
    · have := size_mono u.ok (show j + 1 ≤ i by omega)
      omega
    · have := mm_mono u (j - (i + 1)) (i + 1) (by omega)
      rw [show i + 1 + (j - (i + 1)) = j by omega] at this
      omega
/-- some stretch has it -/
theorem Up.there {t : Int} {r : Ring} {b v : Int} (u : Up t r b) (h0 : min 0 b ≤ v) (h1 : v < min 0 b + hgt t r) : ∃ p, PlaceOf t r b p v := by
  have go : ∀ k, k ≤ r.length → v < mm t r (b + hgt t r) k → ∃ p, PlaceOf t r b p v := by
    intro k
    induction k with
    | zero =>
      intro _ h
      rw [u.first] at h
      omega
    | succ k ih =>
      intro hk h
      by_cases c : v < mm t r (b + hgt t r) k
      · exact ih (by omega) c
      · exact ⟨_, k, r[k], List.getElem?_eq_getElem (by omega), by omega, h, rfl⟩
  exact go r.length (Nat.le_refl _) (by rw [u.last]; exact h1)
theorem StartH.range {t : Int} {r : Ring} {b p v : Int} (ok : Ok r) (h : StartH t r b p v) : 0 ≤ p ∧ p < size r := by
  obtain ⟨j, x, hj, _, h1, h2, _⟩ := h
  have hn := (List.getElem?_eq_some_iff.mp hj).1
  have s1 := size_take hj
  have s2 := size_mono ok (show j + 1 ≤ r.length by omega)
  have s3 := size_mono ok (show 0 ≤ j by omega)
  rw [List.take_length] at s2
  simp only [List.take_zero, size] at s3
  omega
end Rb
/-! Ring beads: the starts by an own look at each stretch's end, and bead by bead. -/
namespace Rb
open PySem PySem.Spec PyProof.Rows L2
/-- the height at a place -/
def hp (t : Int) (r : Ring) (p : Int) : Int := (t + 1) * ahead r p - t * p
theorem hp_at {t : Int} {r : Ring} (ok : Ok r) {j : Nat} {x : Bool × Int} {p : Int} (hj : r[j]? = some x) (h0 : size (r.take j) ≤ p) (h1 : p ≤ size (r.take j) + x.2) :
    hp t r p = hgt t (r.take j) + (if x.1 then p - size (r.take j) else -(t * (p - size (r.take j)))) := by
  unfold hp
  rw [ahead_at ok.pos hj h0 h1, hgt_eq]
  have e : t * p = t * size (r.take j) + t * (p - size (r.take j)) := by
    rw [← Int.mul_add]
    congr 1
    omega
  rw [e, Int.mul_add]
  generalize (t + 1) * mine (r.take j) = A
  cases x.1
  · simp only [Bool.false_eq_true, if_false, Int.mul_zero]
    omega
  · simp only [if_true]
    rw [Int.add_mul t 1 (p - size (r.take j))]
    omega
theorem size_end {r : Ring} (ok : Ok r) {i : Nat} (h : i ≤ r.length) : 0 ≤ size (r.take i) ∧ size (r.take i) ≤ size r := by
  have s1 := size_mono ok (show 0 ≤ i by omega)
  have s2 := size_mono ok h
  rw [List.take_length] at s2
  simp only [List.take_zero, size] at s1
  exact ⟨s1, s2⟩
theorem hp_end {t : Int} {r : Ring} (ok : Ok r) {i : Nat} (h : i ≤ r.length) : hp t r (size (r.take i)) = hgt t (r.take i) := by
  by_cases e : i < r.length
  · have hx := ok.pos r[i] (List.getElem_mem e)
    rw [hp_at ok (List.getElem?_eq_getElem e) (Int.le_refl _) (by omega), Int.sub_self, Int.mul_zero]
    split <;> omega
  · have e' : i = r.length := by omega
    subst e'
    unfold hp
    rw [List.take_length, ahead_size ok.pos, hgt_eq]
/-- within a stretch not below its ends -/
theorem hp_low {t : Int} (ht : 1 ≤ t) {r : Ring} (ok : Ok r) {j : Nat} {x : Bool × Int} {p : Int} (hj : r[j]? = some x) (h0 : size (r.take j) ≤ p) (h1 : p ≤ size (r.take j) + x.2) : min (hgt t (r.take j)) (hgt t (r.take (j + 1))) ≤ hp t r p := by
  rw [hp_at ok hj h0 h1, hgt_take hj]
  cases x.1
  · simp only [Bool.false_eq_true, if_false, Int.neg_mul]
    have : t * (p - size (r.take j)) ≤ t * x.2 := Int.mul_le_mul_of_nonneg_left (by omega) (by omega)
    omega
  · simp only [if_true]
    omega
/-! ### by each stretch's end -/
def EndsSay (t : Int) (r : Ring) (p : Int) : Prop := 1 ≤ hgt t r ∧ among r p 1 ≠ 0 ∧ ∀ i, i ≤ r.length → ¬ hgt t (r.take i) + (if size (r.take i) > p then 0 else hgt t r) ≤ hp t r p
theorem kind_of {r : Ring} (ok : Ok r) {j : Nat} {x : Bool × Int} {p : Int} (hj : r[j]? = some x) (h0 : size (r.take j) ≤ p) (h1 : p < size (r.take j) + x.2) : among r p 1 ≠ 0 ↔ x.1 = true := by
  have hn := (List.getElem?_eq_some_iff.mp hj).1
  have s0 := size_end ok (show j ≤ r.length by omega)
  have s1 := size_end ok (show j + 1 ≤ r.length by omega)
  rw [size_take hj] at s1
  rw [among_one ok.pos (by omega) (by omega), ahead_at ok.pos hj h0 (by omega), ahead_at ok.pos hj (p := p + 1) (by omega) (by omega)]
  cases x.1
  · simp
  · simp
    omega
theorem Up.ends {t : Int} {r : Ring} {b p : Int} (u : Up t r b) (h0 : 0 ≤ p) (h1 : p < size r) : EndsSay t r p ↔ StartH t r b p (hp t r p) := by
  have s := u.s
  constructor
  · rintro ⟨_, k1, k2⟩
    obtain ⟨j, x, hj, j0, j1⟩ := stretch_at h0 h1
    have hn := (List.getElem?_eq_some_iff.mp hj).1
    have kx := (kind_of u.ok hj j0 j1).mp k1
    have e := hp_at (t := t) u.ok hj j0 (by omega)
    rw [kx, if_pos rfl] at e
    refine ⟨j, x, hj, kx, j0, j1, e, ?_⟩
    rcases lw_at (t := t) (r := r) (B := b + hgt t r) (r.length - j) j (by omega) with q | ⟨i, i1, i2, q⟩
    · rw [q]
      obtain ⟨i, g1, g2, g3⟩ := u.low.at_
      have k := k2 i g2
      split at k <;> omega
    · rw [q]
      have m := size_mono u.ok (show j + 1 ≤ i by omega)
      rw [size_take hj] at m
      have k := k2 i i2
      rw [if_pos (by omega)] at k
      omega
  · intro hS
    have num := u.number (u.place.mpr hS)
    obtain ⟨j, x, hj, kx, j0, j1, e, l⟩ := hS
    have hn := (List.getElem?_eq_some_iff.mp hj).1
    refine ⟨by omega, (kind_of u.ok hj j0 j1).mpr kx, fun i hi => ?_⟩
    have hlow : min 0 b ≤ hgt t (r.take i) := by
      by_cases z : i = 0
      · subst z
        simp only [List.take_zero, hgt]
        omega
      · have := u.low.le i (by omega) hi
        omega
    split
    · rename_i c
      have ij : j < i := by
        by_cases z : j < i
        · exact z
        · have := size_mono u.ok (show i ≤ j by omega)
          omega
      have := lw_le (t := t) (r := r) (B := b + hgt t r) (r.length - j) j i (by omega) ij hi
      omega
    · omega
/-! ### bead by bead -/
def Good (t : Int) (r : Ring) (p : Int) : Prop := ∀ n : Nat, 1 ≤ n → (n : Int) ≤ size r → 0 < (t + 1) * among r p n - t * n
theorem step_in {t : Int} {r : Ring} (ok : Ok r) {p n : Int} (h0 : 0 ≤ p) (h1 : 0 ≤ n) (h2 : p + n ≤ size r) : (t + 1) * among r p n - t * n = hp t r (p + n) - hp t r p := by
  unfold among hp
  rw [upTo_le ok (by omega) h2, upTo_le ok h0 (by omega), Int.mul_sub, Int.mul_add t p n]
  omega
theorem step_over {t : Int} {r : Ring} (ok : Ok r) {p n : Int} (h0 : 0 ≤ p) (hp1 : p ≤ size r) (h1 : size r ≤ p + n) (h2 : p + n ≤ 2 * size r) : (t + 1) * among r p n - t * n = hgt t r + hp t r (p + n - size r) - hp t r p := by
  have W0 := ok.size_pos
  unfold among hp
  have u := upTo_round (r := r) (by omega) (p + n - size r) 1
  rw [show p + n - size r + size r * 1 = p + n by omega] at u
  rw [u, upTo_le ok (p := p + n - size r) (by omega) (by omega), upTo_le ok h0 hp1, hgt_eq, Int.mul_sub, Int.mul_add (t + 1), show 1 * mine r = mine r by omega, Int.mul_sub t (p + n), Int.mul_add t p n]
  omega
theorem Up.good {t : Int} {r : Ring} {b p : Int} (u : Up t r b) (h0 : 0 ≤ p) (h1 : p < size r) : Good t r p ↔ EndsSay t r p := by
  have s := u.s
  have ok := u.ok
  obtain ⟨j, x, hj, j0, j1⟩ := stretch_at h0 h1
  have hn := (List.getElem?_eq_some_iff.mp hj).1
  constructor
  · intro g
    refine ⟨by omega, ?_, fun i hi => ?_⟩
    · have := g 1 (Nat.le_refl _) (by omega)
      intro z
      have z' : among r p ((1 : Nat) : Int) = 0 := z
      rw [z', Int.mul_zero] at this
      have := u.t1
      omega
    · have se := size_end ok hi
      split
      · rename_i c
        have k := g (size (r.take i) - p).toNat (by omega) (by omega)
        rw [show (((size (r.take i) - p).toNat : Nat) : Int) = size (r.take i) - p by omega, step_in ok h0 (by omega) (by omega), show p + (size (r.take i) - p) = size (r.take i) by omega, hp_end ok hi] at k
        omega
      · rename_i c
        have k := g (size (r.take i) - p + size r).toNat (by omega) (by omega)
        rw [show (((size (r.take i) - p + size r).toNat : Nat) : Int) = size (r.take i) - p + size r by omega, step_over ok h0 (by omega) (by omega) (by omega), show p + (size (r.take i) - p + size r) - size r = size (r.take i) by omega, hp_end ok hi] at k
        omega
  · rintro ⟨_, k1, k2⟩ n n0 n1
    have kx := (kind_of ok hj j0 j1).mp k1
    have e := hp_at (t := t) ok hj j0 (by omega)
    rw [kx, if_pos rfl] at e
    by_cases c : p + n < size r
    · rw [step_in ok h0 (by omega) (by omega)]
      obtain ⟨i, y, hi, i0, i1⟩ := stretch_at (show 0 ≤ p + (n : Int) by omega) c
      have hm := (List.getElem?_eq_some_iff.mp hi).1
      by_cases q : i = j
      · subst q
        rw [hj] at hi
        cases hi
        rw [hp_at ok hj i0 (by omega), kx, if_pos rfl]
        omega
      · have ij : j < i := by
          by_cases z : j < i
          · exact z
          · have m := size_mono ok (show i + 1 ≤ j by omega)
            rw [size_take hi] at m
            omega
        have l := hp_low u.t1 ok hi i0 (by omega)
        have a1 := k2 i (by omega)
        have a2 := k2 (i + 1) (by omega)
        have m1 := size_mono ok (show j + 1 ≤ i by omega)
        have m2 := size_mono ok (show i ≤ i + 1 by omega)
        rw [size_take hj] at m1
        rw [if_pos (by omega)] at a1 a2
        omega
    · rw [step_over ok h0 (by omega) (by omega) (by omega)]
      by_cases c2 : p + n = size r + p
      · rw [show p + (n : Int) - size r = p by omega]
        omega
      · obtain ⟨i, y, hi, i0, i1⟩ := stretch_at (show 0 ≤ p + (n : Int) - size r by omega) (show p + (n : Int) - size r < size r by omega)
        have hm := (List.getElem?_eq_some_iff.mp hi).1
        have a1 := k2 i (by omega)
        by_cases q : i = j
        · subst q
          rw [hj] at hi
          cases hi
          rw [hp_at ok hj i0 (by omega), kx, if_pos rfl]
          rw [if_neg (by omega)] at a1
          omega
        · have ij : i < j := by
            by_cases z : i < j
            · exact z
            · have m := size_mono ok (show j + 1 ≤ i by omega)
              rw [size_take hj] at m
              omega
          have l := hp_low u.t1 ok hi i0 (by omega)
          have a2 := k2 (i + 1) (by omega)
          have m1 := size_mono ok (show i + 1 ≤ j by omega)
          have m2 := size_mono ok (show i ≤ i + 1 by omega)
          rw [if_neg (by omega)] at a1 a2
          omega
/-- without a surplus no place is a start -/
theorem good_none {t : Int} {r : Ring} (ok : Ok r) (h : ¬ 0 < hgt t r) {p : Int} (h0 : 0 ≤ p) (h1 : p < size r) : ¬ Good t r p := by
  intro g
  have W0 := ok.size_pos
  have k := g (size r).toNat (by omega) (by omega)
  rw [show (((size r).toNat : Nat) : Int) = size r by omega, step_over ok h0 (by omega) (by omega) (by omega), show p + size r - size r = p by omega] at k
  omega
theorem ends_none {t : Int} {r : Ring} (h : ¬ 0 < hgt t r) {p : Int} : ¬ EndsSay t r p := fun g => h (by have := g.1; omega)
end Rb
/-! Ring beads: set(xs) of a list of whole numbers (turned from the kit's rule for a tuple), sorted(set). -/
namespace Rb
open PySem PySem.Spec PyProof.Rows L2
section
variable {P : Program} {w : World} {A : Around} {E : Value → Shared → Prop} {s : Shared}
/-- a set just made -/
abbrev so (w : World) : Obj := { cls := .type "set", dict := none, data := .set #[] 0 (.fresh 0 0 (!w.params.followText "set-order")) }
set_option maxHeartbeats 3200000 in
theorem call_setL {l : Addr} {items : Array Value} (ns : List Int) {Q : Value → Shared → Prop} (hh : A.handled = none) (hl : s.heap.IsList l items) (hit : IntsAre items.toList ns) (hb : ns.length + 1 < scanBound)
    (h : ∀ (h' : Heap) (tk c : Nat), SetR w h' s.heap.objs.size (fun j => decide (j ∈ ns)) c → c ≤ ns.length → (∀ b o, s.heap.get? b = some o → h'.get? b = some o) → Q (.ref s.heap.objs.size) { s with heap := h', toks := tk }) :
    wpAny (model P w) A (call (.type "set") [.ref l]) Q E s := by
  have sz : items.size = ns.length := by
    have q := IntsAre.length hit
    rw [Array.length_toList] at q
    exact q
  obtain ⟨c, tl, hmro⟩ := F.called_set.mro
  have hmade := F.called_set.made
  have hsub := F.called_set.sub
  have h1 := F.called_set.notType
  have h2 := F.called_set.canCreate
  have hct := F.typeCall_set_1 (.ref l)
  refine wpAny_call (codeAny_of_tree ?_)
  show wpAny _ _ (callAny (.type "set") _) _ _ _
  refine wpAny_pure ⟨Code.quiet_builtin _ (by decide +kernel), codeAny_builtin F.entry_type_call ?_⟩
  rw [Around.under_plain (weight_type_call_type "set" [.ref l] []) rfl]
  repeat (any_goals (first | assumption | wp_step))
  refine codeAny_mono (code_set_led1 (.ref l) (E := E) (Q₁ := fun obj s₁ => obj = .ref s.heap.objs.size ∧ s₁ = { s with heap := s.heap.push (so w) }) ⟨rfl, rfl⟩) fun r s₁ hr => ?_
  cases r with
  | error e => exact hr
  | ok fl =>
    cases fl with
    | ret obj =>
      obtain ⟨rfl, rfl⟩ := hr
      have hS : (s.heap.push (so w)).get? s.heap.objs.size = some (so w) := Heap.get?_push_size _ rfl
      have hT : Shared.TypeIs { s with heap := s.heap.push (so w) } (.ref s.heap.objs.size) "set" := ⟨_, hS, rfl⟩
      have hli := F.called_set.init.lookup
      have hbi := F.called_set.init.bind (.ref s.heap.objs.size)
      repeat (any_goals (first | assumption | wp_step))
      refine codeAny_mono (codeAny_call_builtin (R := wants (fun r s₂ => r = .none ∧ ∃ h' tk c, s₂ = { s with heap := h', toks := tk } ∧ SetR w h' s.heap.objs.size (fun j => decide (j ∈ ns)) c ∧ c ≤ ns.length ∧
          (∀ b o, s.heap.get? b = some o → h'.get? b = some o)) E) F.called_set.init.plain F.entry_set_init (check_set_init_1 hT ?_)) fun r₂ s₂ hr₂ => ?_
      · obtain ⟨⟨oc, od, da, os⟩, hol, hcl, nl, hdl⟩ := hl
        simp only at hcl hdl
        subst hcl; subst hdl
        have hol' : (s.heap.push (so w)).get? l = some { cls := .type "list", dict := od, data := .seq items nl, slots := os } := Heap.get?_push_of_some _ hol
        have hsls := F.sub_list_set
        have hslf := F.sub_list_frozenset
        have hne : (Value.type "list" == Value.type "dict") = false := by decide
        have hl1 : (s.heap.push (so w)).IsList l items := ⟨_, hol', rfl, nl, rfl⟩
        unfold Builtin.«set.__init__» noKeywords Builtin.Frozenset.updateFrom
        generalize hPI : pyIter = PI
        wp_walk
        subst hPI
        refine wpAny_pyIter_list hl1 ?_
        refine wpAny_bind (wpAny_runValue ?_)
        have hlS : l < s.heap.objs.size := Heap.lt_size hol
        have hh3 : A.in1.in1.in1.handled = none := by simp [hh]
        have hneI : l ≠ (s.heap.push (so w)).objs.size := by
          rw [Heap.size_push]; exact Nat.ne_of_lt (Nat.lt_succ_of_lt hlS)
        have hSf : s.heap.objs.size ∉ [(s.heap.push (so w)).objs.size, l] := by
          rw [Heap.size_push]; simp only [List.mem_cons, List.mem_singleton, List.not_mem_nil, or_false, not_or]
          exact ⟨Nat.ne_of_lt (Nat.lt_succ_self _), Nat.ne_of_gt hlS⟩
        have hval : ∀ (i : Nat) (v : Value), items[i]? = some v → ∃ k t, ns[i]? = some k ∧ v = .int k t := fun i v hv => by
          have hi : i < ns.length := by rw [← sz]; exact (Array.getElem?_eq_some_iff.mp hv).1
          obtain ⟨t, e⟩ := PyProof.Rows.IntsAre.int_at hit i v (by rw [Array.getElem?_toList]; exact hv)
          refine ⟨ns[i], t, List.getElem?_eq_getElem hi, ?_⟩
          rw [e, List.getD_eq_getElem?_getD, List.getElem?_eq_getElem hi] <;> rfl
        refine set_update_ints ((Walks.list hh3 _ l hneI items).toS) s.heap.objs.size
          hSf ns sz hb hval (items.size - 0) 0 _ (by omega) (Nat.zero_le _)
          ⟨⟨_, Heap.get?_push_size _ rfl, rfl, rfl⟩, (hl1.push _)⟩ ?hS0 ?hR
        case hS0 => exact ⟨0, Nat.le_refl 0, setR_new_at (Heap.get?_push_of_some _ hS)⟩
        case hR =>
          intro s' c' hm hc' hS'
          obtain ⟨h', g2, d', tk', os'⟩ := s'
          have eg : g2 = s.gens := hm.gens
          have ed : d' = s.drawn := hm.drawn
          have eo : os' = s.os := hm.os
          subst eg; subst ed; subst eo
          show wpAny _ _ _ _ _ _
          refine wpAny_pure ?_
          show wpAny _ _ (ret Value.none) _ _ _
          rw [sz] at hc'
          refine wpAny_pure ⟨rfl, h', tk', c', rfl, hS', hc', fun b o e => ?_⟩
          have hb0 : b < s.heap.objs.size := Heap.lt_size e
          have hb2 : b ≠ (s.heap.push (so w)).objs.size := by
            rw [Heap.size_push]; exact Nat.ne_of_lt (Nat.lt_succ_of_lt hb0)
          exact hm.heap b o (by simp only [List.mem_cons, List.mem_singleton, List.not_mem_nil, or_false, not_or]; exact ⟨Nat.ne_of_lt hb0, hb2⟩) (Heap.get?_push_of_some _ (Heap.get?_push_of_some _ e))
      · cases r₂ with
        | error e => exact hr₂
        | ok fl₂ =>
          cases fl₂ with
          | ret r =>
            obtain ⟨rfl, h', tk, c', rfl, hS', hc', hk'⟩ := hr₂
            repeat (any_goals (first | assumption | wp_step))
            exact h _ _ _ hS' hc' hk'
          | _ => exact hr₂.elim
    | _ => exact hr.elim
end
section
variable {X : Cx}
/-- set(xs); what it holds -/
def rSetL (K : PySem.W.Frag) (w : World) : List V → Hp → VK → Prop := fun xs H Q => ∃ (l : Addr) (ns : List Int), xs = [V.ref l] ∧ SqL K H l (ns.map V.int) ∧ ns.length ≤ 1000 ∧ ∀ a c, H a = none → c ≤ ns.length → Q (.ref a) (upd H a (SetO w a (fun j => decide (j ∈ ns)) c))
theorem cr_setL (hc : X.calm = true) : CallR X (.type "set") (rSetL X.K X.w) := by
  intro pins s σ H xs us Q I r h
  obtain ⟨l, ns, rfl, hl, hf, q⟩ := h
  rw [Vals.ref1 r]
  obtain ⟨its, rv, pl, hz⟩ := I.list hl
  have hn : H s.heap.objs.size = none := I.hok.fresh (Nat.le_refl _)
  refine call_setL (P := X.prog) (w := X.w) ns (I.ok.hd hc) pl.isList (ints_of_vals rv) (by unfold scanBound; omega) fun h' tk c R hcn k => ?_
  exact ⟨.ref s.heap.objs.size, upd H s.heap.objs.size (SetO X.w s.heap.objs.size (fun j => decide (j ∈ ns)) c), I.laid (t' := tk) k (Nat.le_refl _) (setO_new R), rfl, q _ c hn hcn⟩
end
section
variable {K : PySem.W.Frag} {w : World} {H : Hp} {Q : VK}
/-- a set of the members ns -/
def SetIs (w : World) (H : Hp) (a : Addr) (ns : List Int) : Prop := ∃ c, c ≤ ns.length ∧ H a = some (SetO w a (fun j => decide (j ∈ ns)) c)
theorem r_setL {l : Addr} {ns : List Int} (h : SqL K H l (ns.map V.int)) (n : ns.length ≤ 1000) (q : ∀ a H', H a = none → Ex H H' → SetIs w H' a ns → Q (.ref a) H') : rSetL K w [.ref l] H Q :=
  ⟨l, ns, rfl, h, n, fun a c hn hc => q a _ hn (exN hn) ⟨c, hc, upd_same⟩⟩
theorem r_sortedS {a : Addr} {ns : List Int} (h : SetIs w H a ns) (n : ns.length < 64) (q : ∀ (p : Addr) (out : List Int) H', H p = none → Ex H H' → H' p = some (.lst (out.map V.int)) → out.Pairwise (· < ·) → (∀ k, k ∈ out ↔ k ∈ ns) → Q (.ref p) H') : rSortedSet w [.ref a] H Q := by
  obtain ⟨c, hc, ha⟩ := h
  exact ⟨a, _, c, rfl, ha, by omega, fun out p up mem _ hp => q p out _ hp (exN hp) upd_same up fun k => (mem k).trans decide_eq_true_iff⟩
end
end Rb
/-! Ring beads: lists of pairs that grow, walks over texts, backward ranges, lists of whole numbers as data. -/
namespace Rb
open PySem PySem.Spec PyProof.Rows L2
section
variable {K : PySem.W.Frag} {H : Hp}
theorem PairsAt.nil {q : Addr} (h : H q = some (.lst [])) : PairsAt K H q [] := ⟨[], h, rfl, fun i x hx => by simp at hx⟩
theorem PairsAt.snoc {q p : Addr} {xs : List (V × V)} {vs : List V} {x y : V} (h : PairsAt K H q xs) (hv : H q = some (.lst vs)) (hp : H p = some (.tup [x, y])) : PairsAt K (upd H q (.lst (vs ++ [.ref p]))) q (xs ++ [(x, y)]) := by
  obtain ⟨ws, h1, h2, h3⟩ := h
  rw [h1] at hv
  cases hv
  have ne : ∀ {t : Addr} {xs : List V}, H t = some (.tup xs) → t ≠ q := fun ht => ne_of ht h1 (by intro z; cases z)
  refine ⟨_, upd_same, by simp [h2], fun i z hz => ?_⟩
  by_cases hi : i < xs.length
  · rw [List.getElem?_append_left hi] at hz
    obtain ⟨t, z1, z2⟩ := h3 i z hz
    exact ⟨t, by rw [List.getElem?_append_left (by omega)]; exact z1, by rw [upd_ne (ne z2)]; exact z2⟩
  · have e : i = xs.length := by
      have := (List.getElem?_eq_some_iff.mp hz).1
      simp at this
      omega
    subst e
    have ez : z = (x, y) := by
      rw [List.getElem?_append_right (by simp)] at hz
      simpa using hz.symm
    subst ez
    refine ⟨p, ?_, by rw [upd_ne (ne hp)]; exact hp⟩
    rw [List.getElem?_append_right (by omega)]
    simp [h2]
theorem PairsAt.lst {q : Addr} {xs : List (V × V)} (h : PairsAt K H q xs) : ∃ vs, H q = some (.lst vs) ∧ vs.length = xs.length := by
  obtain ⟨vs, h1, h2, _⟩ := h
  exact ⟨vs, h1, h2⟩
theorem PairsAt.rev {q l : Addr} {xs : List (V × V)} {vs : List V} (h : PairsAt K H q xs) (hq : H q = some (.lst vs)) (hl : H l = some (.lst vs.reverse)) : PairsAt K H l xs.reverse := by
  obtain ⟨ws, h1, h2, h3⟩ := h
  rw [h1] at hq
  cases hq
  refine ⟨_, hl, by simp [h2], fun i x hx => ?_⟩
  have hi := (List.getElem?_eq_some_iff.mp hx).1
  rw [List.length_reverse] at hi
  rw [List.getElem?_reverse hi] at hx
  obtain ⟨p, z1, z2⟩ := h3 _ x hx
  exact ⟨p, by rw [List.getElem?_reverse (by omega), h2]; exact z1, z2⟩
/-- pairs of whole numbers -/
def iiV (x : Int × Int) : V × V := (.int x.1, .int x.2)
def PartsAt (K : PySem.W.Frag) (H : Hp) (a : Addr) (ps : List (Int × Int)) : Prop := PairsAt K H a (ps.map iiV)
theorem PartsAt.ex {H' : Hp} {a : Addr} {ps : List (Int × Int)} (e : Ex H H') (h : PartsAt K H a ps) : PartsAt K H' a ps := PairsAt.ex e h
theorem PartsAt.snoc {q p : Addr} {ps : List (Int × Int)} {vs : List V} {x y : Int} (h : PartsAt K H q ps) (hv : H q = some (.lst vs)) (hp : H p = some (.tup [.int x, .int y])) : PartsAt K (upd H q (.lst (vs ++ [.ref p]))) q (ps ++ [(x, y)]) := by
  unfold PartsAt
  rw [List.map_append]
  exact PairsAt.snoc h hv hp
theorem PartsAt.lst {q : Addr} {ps : List (Int × Int)} (h : PartsAt K H q ps) : ∃ vs, H q = some (.lst vs) ∧ vs.length = ps.length := by
  obtain ⟨vs, h1, h2⟩ := PairsAt.lst h
  exact ⟨vs, h1, by rw [h2, List.length_map]⟩
theorem PartsAt.rev {q l : Addr} {ps : List (Int × Int)} {vs : List V} (h : PartsAt K H q ps) (hq : H q = some (.lst vs)) (hl : H l = some (.lst vs.reverse)) : PartsAt K H l ps.reverse := by
  unfold PartsAt
  rw [List.map_reverse]
  exact PairsAt.rev h hq hl
/-- the stretch at j -/
theorem RingAt.at {a : Addr} {r : Ring} {j : Nat} {x : Bool × Int} (h : RingAt K H a r) (hj : r[j]? = some x) : ∃ vs p, SqL K H a vs ∧ atI vs (j : Int) = some (.ref p) ∧ H p = some (.tup [.str (kS x.1), .int x.2]) := by
  obtain ⟨vs, h1, h2, h3⟩ := h
  obtain ⟨p, z1, z2⟩ := h3 j (prV x) (by rw [List.getElem?_map, hj]; rfl)
  exact ⟨vs, p, .of h1, atI_nat z1, z2⟩
/-- [(x, y) for ..]: each turn a new pair -/
theorem lcK_out {J : It} {n : Nat} {G : Hp → Prop} {P : Nat → V → Prop} (w : Walk J n G fun i H x H' => H' = H ∧ P i x) {te : TE} {j : Nat} {ws : List Nat} {σ : L2.St} {Q : VK} (ys : List (V × V)) (hl : ys.length = n) (hG : ∀ H', Ex H H' → G H') (hz : n ≤ 40000)
    (hw : ∀ x, wipe ((wipe σ ws).set j (some x)) ws = wipe σ ws)
    (he : ∀ (i : Nat) (x : V) (y : V × V), P i x → ys[i]? = some y → ∀ H1, Ex H H1 → ∀ Q : VK, (∀ p H2, Ex H1 H2 → H2 p = some (.tup [y.1, y.2]) → Q (.ref p) H2) → te ((wipe σ ws).set j (some x)) H1 Q)
    (q : ∀ p H', H p = none → Ex H H' → PairsAt K H' p ys → Q (.ref p) H') : LcK (gName j) tYes te ws σ Q J H := by
  intro Dl hD
  refine lc_it w (fun m H' => Ex H H' ∧ PairsAt K H' Dl (ys.take m)) ⟨exN hD, .nil upd_same⟩ (fun m H' _ p => hG _ p.1) (fun m x H' H'' hm p y => ?_) (fun H' p => ?_)
  · obtain ⟨rfl, hy⟩ := y
    have hm' : m < ys.length := hl ▸ hm
    refine ⟨hw _, r_yes (iteT ?_)⟩
    refine he m x ys[m] hy (List.getElem?_eq_getElem hm') _ p.1 _ fun t H2 e2 ht => ?_
    obtain ⟨vs, hv, hvl⟩ := (p.2.ex e2).lst
    refine ⟨vs, hv, ?_, exM (exT e2 p.1) hD, ?_⟩
    · rw [hvl, List.length_take]
      exact Evl.sz_lt (by omega)
    · rw [List.take_add_one, List.getElem?_eq_getElem hm']
      exact (p.2.ex e2).snoc hv ht
  · refine q Dl H' hD p.1 ?_
    have z := p.2
    rw [← hl, List.take_length] at z
    exact z
/-- [e for x, y in zip(whole numbers, whole numbers)] -/
theorem lcK_zipI {a b : Addr} {xs ys : List Int} {te : TE} {i j : Nat} {ws : List Nat} {σ : L2.St} {Q : VK} (zs : List V) (hz : zs.length = xs.length) (h1 : SqL K H a (xs.map V.int)) (h2 : SqL K H b (ys.map V.int)) (hl : ys.length = xs.length) (few : xs.length ≤ 40000)
    (hw : ∀ x y, wipe (((wipe σ ws).set i (some x)).set j (some y)) ws = wipe σ ws)
    (he : ∀ (n : Nat) (x y : Int) (z : V), xs[n]? = some x → ys[n]? = some y → zs[n]? = some z → ∀ H1, Ex H H1 → ∀ Q : VK, (∀ H2, Ex H1 H2 → Q z H2) → te (((wipe σ ws).set i (some (.int x))).set j (some (.int y))) H1 Q)
    (q : ∀ p H', H p = none → Ex H H' → H' p = some (.lst zs) → Q (.ref p) H') : ∃ a' b' xs ys, [V.ref a, V.ref b] = [.ref a', .ref b'] ∧ SqL K H a' xs ∧ SqL K H b' ys ∧ LcK (gPair K i j) tYes te ws σ Q (Itz K a' b') H := by
  refine ⟨a, b, _, _, rfl, h1, h2, fun Dl hD => ?_⟩
  refine lc_it (walk_zip (xs := xs.map V.int) (ys := ys.map V.int) (n := xs.length) (by rw [List.length_map, List.length_map]; omega)) (fun m H' => Ex H H' ∧ H' Dl = some (.lst (zs.take m))) ⟨exN hD, upd_same⟩ (fun m H' _ p => ⟨exL p.1 h1, exL p.1 h2⟩) (fun m x H' H'' hm p y => ?_) (fun H' p => ?_)
  · obtain ⟨T, u, v, rfl, hT, rfl, ex, ey⟩ := y
    change (xs.map V.int)[m]? = some u at ex
    change (ys.map V.int)[m]? = some v at ey
    rw [List.getElem?_map] at ex ey
    cases q1 : xs[m]? with
    | none => rw [q1] at ex; cases ex
    | some c =>
      cases q2 : ys[m]? with
      | none => rw [q2] at ey; cases ey
      | some d =>
        rw [q1] at ex
        rw [q2] at ey
        cases ex
        cases ey
        have hm' : m < zs.length := hz ▸ hm
        refine g_pair (.of upd_same) ⟨hw _ _, r_yes (iteT ?_)⟩
        have e1 : Ex H (upd H' T (.tup [.int c, .int d])) := exT (exN hT) p.1
        refine he m c d zs[m] q1 q2 (List.getElem?_eq_getElem hm') _ e1 _ fun H2 e2 => ⟨_, e2 _ _ (exN hT _ _ p.2), ?_, exM (exT e2 e1) hD, ?_⟩
        · rw [List.length_take]
          exact Evl.sz_lt (by omega)
        · rw [upd_same, List.take_add_one, List.getElem?_eq_getElem hm']
          rfl
  · refine q Dl H' hD p.1 ?_
    rw [p.2, ← hz, List.take_length]
/-- for c in a text of beads -/
theorem cd_kS (b : Bool) : kS b = ⟨#[cd b]⟩ := by cases b <;> decide +kernel
theorem forK_txt {l : List Bool} {j : Nat} {tb : TS} {nx : L2.St → Hp → Prop} {rt : VK} {bk ct : L2.St → Hp → Prop} {σ : L2.St} (Pv : Nat → L2.St → Hp → Prop) (p0 : Pv 0 σ H)
    (hs : ∀ n b σ' H', l[n]? = some b → Pv n σ' H' → tb ⟨Pv (n + 1), rt, nx, Pv (n + 1)⟩ (σ'.set j (some (.str (kS b)))) H')
    (hd : ∀ σ' H', Pv l.length σ' H' → nx σ' H') : ∃ x, V.str (txt l) = .str x ∧ ForK (gName j) tb ⟨nx, rt, bk, ct⟩ σ (Its x) H := by
  refine ⟨_, rfl, for_it walk_str Pv p0 (fun _ _ _ _ _ => trivial) (fun n x σ' H' H'' hn p y => ?_) (fun σ' H' p => hd σ' H' ?_)⟩
  · obtain ⟨rfl, c, hc, rfl⟩ := y
    have e : (txt l).cps[n]? = (l[n]?).map cd := by
      unfold txt SX.S
      simp
    rw [e] at hc
    cases q : l[n]? with
    | none => rw [q] at hc; cases hc
    | some b =>
      rw [q] at hc
      cases hc
      rw [← cd_kS]
      exact hs n b σ' _ q p
  · have e : (txt l).cps.size = l.length := txt_len l
    rw [e] at p
    exact p
theorem r_iS {te : TE} {σ : L2.St} {R : It → Hp → Prop} (q : te σ H fun v H1 => ∃ x, v = .str x ∧ R (Its x) H1) : iStr te σ H R := q
/-- backward -/
theorem r_rng3 {ta : TA} {σ : L2.St} {R : It → Hp → Prop} (q : ta σ H fun vs H1 => ∃ (i j c : Int) (n : Nat), vs = [.int i, .int j, .int c] ∧ RgC i j c n ∧ R (Itc i c n) H1) : iRng3 ta σ H R := q
theorem r_rng3b {i : Int} {n : Nat} {R : It → Hp → Prop} (hi : i = (n : Int) - 1) (hn : n < 1000000) (q : R (Itc i (-1) n) H) : ∃ (i' j' c' : Int) (n' : Nat), [V.int i, V.int (-1), V.int (-1)] = [.int i', .int j', .int c'] ∧ RgC i' j' c' n' ∧ R (Itc i' c' n') H :=
  ⟨i, -1, -1, n, rfl, by
    have z := RgC.neg (i := i) (j := -1) (by omega) (by omega) (by omega) (by omega)
    rw [show (i - -1).toNat = n by omega] at z
    exact z, q⟩
theorem forK_rngC {lo : Int} {n : Nat} {j : Nat} {tb : TS} {nx : L2.St → Hp → Prop} {rt : VK} {bk ct : L2.St → Hp → Prop} {σ : L2.St} (Pv : Nat → L2.St → Hp → Prop) (p0 : Pv 0 σ H)
    (hs : ∀ i σ' H', i < n → Pv i σ' H' → tb ⟨Pv (i + 1), rt, nx, Pv (i + 1)⟩ (σ'.set j (some (.int (lo + (i : Nat) * -1)))) H')
    (hd : ∀ σ' H', Pv n σ' H' → nx σ' H') : ForK (gName j) tb ⟨nx, rt, bk, ct⟩ σ (Itc lo (-1) n) H :=
  for_rangeC (lo := lo) (c := -1) (n := n) Pv p0 (fun i σ' H' hi p => hs i σ' H' hi p) hd
theorem txt_from {l : List Bool} {p : Nat} (h : p ≤ l.length) : cutS (txt l) (some (p : Int)) none = txt (l.drop p) := by
  have e : (txt l).length = l.length := txt_len l
  unfold cutS
  rw [show HT.sIx (txt l).length 0 (some (p : Int)) = min p (txt l).length from HT.sIx_nat _ _ _, HT.sIx_none, e, Nat.min_eq_left h]
  have q : (txt l).cps.toList = l.map cd := by simp [txt, SX.S]
  rw [q, List.take_of_length_le (by simp), ← List.map_drop]
  rfl
theorem txt_to {l : List Bool} {p : Nat} (h : p ≤ l.length) : cutS (txt l) none (some (p : Int)) = txt (l.take p) := by
  have e : (txt l).length = l.length := txt_len l
  unfold cutS
  rw [show HT.sIx (txt l).length (txt l).length (some (p : Int)) = min p (txt l).length from HT.sIx_nat _ _ _, HT.sIx_none, e, Nat.min_eq_left h, List.drop_zero, Nat.sub_zero]
  have q : (txt l).cps.toList = l.map cd := by simp [txt, SX.S]
  rw [q, ← List.map_take]
  rfl
/-- xs[::-1] -/
def rRevL (K : PySem.W.Frag) (x : V) (H1 : Hp) (Q : VK) : Prop := ∃ a xs, x = .ref a ∧ SqL K H1 a xs ∧ ∀ p, H1 p = none → Q (.ref p) (upd H1 p (.lst xs.reverse))
theorem r_rev {te : TE} {σ : L2.St} {Q : VK} (q : te σ H fun x H1 => rRevL K x H1 Q) : tRevL K te σ H Q := q
theorem r_revL {a : Addr} {xs : List V} {Q : VK} (h : SqL K H a xs) (q : ∀ p H', H p = none → Ex H H' → H' p = some (.lst xs.reverse) → Q (.ref p) H') : rRevL K (.ref a) H Q := ⟨a, xs, rfl, h, fun p hp => q p _ hp (exN hp) upd_same⟩
/-! ### whole numbers in a list, as data -/
def inD (ns : List Int) : PyData := .list (ns.map PyData.int)
theorem inD_all (ns : List Int) : PyData.canLayAll0 (ns.map PyData.int) = true ∧ PyData.depthAll (ns.map PyData.int) ≤ 0 := by
  induction ns with
  | nil => exact ⟨by simp [PyData.canLayAll0], by simp [PyData.depthAll]⟩
  | cons x r ih =>
    refine ⟨?_, ?_⟩
    · rw [List.map_cons, PyData.canLayAll0, ih.1, PyData.canLay0]
      rfl
    · rw [List.map_cons, PyData.depthAll, PyData.depth]
      have := ih.2
      omega
theorem inD_shaped (ns : List Int) : SeqAt.shaped (inD ns) = true := by
  have h := inD_all ns
  unfold SeqAt.shaped inD
  rw [PyData.canLay0, h.1, PyData.depth]
  have := h.2
  exact decide_eq_true (by omega)
theorem inD_same (ns : List Int) : PyData.eqv (inD ns) (inD ns) = true := SeqAt.eqv_refl _ (by
  unfold inD
  rw [PyData.canLay0]
  exact (inD_all ns).1)
theorem dp_ints : ∀ {p : Addr} {ns : List Int}, SqL K H p (ns.map V.int) → Dp K H (.ref p) (inD ns) := fun {p ns} h => by
  refine Dp.lst h ?_
  clear h
  induction ns with
  | nil => exact .nil
  | cons n ns ih => exact .cons (.int _) ih
end
end Rb
namespace Rb
open PySem PySem.Spec PyProof.Rows L2
/-! ### the text by places -/
def top (i : Nat) : Stmt := PySem.Challenge.pw_ringbeads_k01_whole_starts.main.body.getD i (.Pass ⟨0, 0, 0, 0⟩)
abbrev s_is_whole : Stmt := top 7
theorem sc_is_whole : FnScope ["thing"] ["thing"] (defScope s_is_whole) := ⟨rfl, rfl, rfl, by decide +kernel, rfl, by decide +kernel, by decide +kernel⟩
abbrev s_is_stretch : Stmt := top 8
theorem sc_is_stretch : FnScope ["thing"] ["thing"] (defScope s_is_stretch) := ⟨rfl, rfl, rfl, by decide +kernel, rfl, by decide +kernel, by decide +kernel⟩
abbrev s_check_ring : Stmt := top 9
theorem sc_check_ring : FnScope ["ring", "stretch"] ["ring"] (defScope s_check_ring) := ⟨rfl, rfl, rfl, by decide +kernel, rfl, by decide +kernel, by decide +kernel⟩
abbrev s_whole_of : Stmt := top 10
theorem sc_whole_of : FnScope ["ring", "kind", "many"] ["ring"] (defScope s_whole_of) := ⟨rfl, rfl, rfl, by decide +kernel, rfl, by decide +kernel, by decide +kernel⟩
abbrev s_check_place : Stmt := top 11
theorem sc_check_place : FnScope ["ring", "place"] ["ring", "place"] (defScope s_check_place) := ⟨rfl, rfl, rfl, by decide +kernel, rfl, by decide +kernel, by decide +kernel⟩
abbrev s_table_of : Stmt := top 12
theorem sc_table_of : FnScope ["ring", "ends", "sums", "kind", "many"] ["ring"] (defScope s_table_of) := ⟨rfl, rfl, rfl, by decide +kernel, rfl, by decide +kernel, by decide +kernel⟩
abbrev s_check_times : Stmt := top 14
theorem sc_check_times : FnScope ["times"] ["times"] (defScope s_check_times) := ⟨rfl, rfl, rfl, by decide +kernel, rfl, by decide +kernel, by decide +kernel⟩
abbrev s_more_of : Stmt := top 15
theorem sc_more_of : FnScope ["ring", "times", "mine"] ["ring", "times"] (defScope s_more_of) := ⟨rfl, rfl, rfl, by decide +kernel, rfl, by decide +kernel, by decide +kernel⟩
abbrev s_parts_of : Stmt := top 16
theorem sc_parts_of : FnScope ["ring", "times", "more", "stretch", "heights", "kind", "many", "low", "found", "place", "at"] ["ring", "times"] (defScope s_parts_of) := ⟨rfl, rfl, rfl, by decide +kernel, rfl, by decide +kernel, by decide +kernel⟩
abbrev s_starts : Stmt := top 17
theorem sc_starts : FnScope ["ring", "times"] ["ring", "times"] (defScope s_starts) := ⟨rfl, rfl, rfl, by decide +kernel, rfl, by decide +kernel, by decide +kernel⟩
abbrev s_start_at : Stmt := top 18
theorem sc_start_at : FnScope ["ring", "times", "number", "place", "first", "many"] ["ring", "times", "number"] (defScope s_start_at) := ⟨rfl, rfl, rfl, by decide +kernel, rfl, by decide +kernel, by decide +kernel⟩
abbrev s_is_start : Stmt := top 19
theorem sc_is_start : FnScope ["ring", "times", "place", "first", "many"] ["ring", "times", "place"] (defScope s_is_start) := ⟨rfl, rfl, rfl, by decide +kernel, rfl, by decide +kernel, by decide +kernel⟩
abbrev s_law_cell_at : Stmt := top 21
theorem sc_law_cell_at : FnScope ["_law_script", "_law_k"] ["_law_script", "_law_k"] (defScope s_law_cell_at) := ⟨rfl, rfl, rfl, by decide +kernel, rfl, by decide +kernel, by decide +kernel⟩
abbrev s_law_draw : Stmt := top 22
theorem sc_law_draw : FnScope ["_law_cell", "_law_k", "_law_many", "_law_primes"] ["_law_cell", "_law_k", "_law_many"] (defScope s_law_draw) := ⟨rfl, rfl, rfl, by decide +kernel, rfl, by decide +kernel, by decide +kernel⟩
abbrev s_law_number : Stmt := top 23
theorem sc_law_number : FnScope ["_law_cell", "_law_k", "_law_limit"] ["_law_cell", "_law_k", "_law_limit"] (defScope s_law_number) := ⟨rfl, rfl, rfl, by decide +kernel, rfl, by decide +kernel, by decide +kernel⟩
abbrev s_law_ring : Stmt := top 24
theorem sc_law_ring : FnScope ["_law_script", "_law_limit", "_law_slant", "_law_found", "_law_k", "_law_cell", "_law_number_here", "_law_kind"] ["_law_script"] (defScope s_law_ring) := ⟨rfl, rfl, rfl, by decide +kernel, rfl, by decide +kernel, by decide +kernel⟩
abbrev s_law_small : Stmt := top 25
theorem sc_law_small : FnScope ["_law_script", "_law_by", "_law_found", "_law_k", "_law_cell", "_law_number_here"] ["_law_script", "_law_by"] (defScope s_law_small) := ⟨rfl, rfl, rfl, by decide +kernel, rfl, by decide +kernel, by decide +kernel⟩
abbrev s_law_whole : Stmt := top 26
theorem sc_law_whole : FnScope ["_law_number_here"] ["_law_number_here"] (defScope s_law_whole) := ⟨rfl, rfl, rfl, by decide +kernel, rfl, by decide +kernel, by decide +kernel⟩
abbrev s_law_size : Stmt := top 27
theorem sc_law_size : FnScope ["_law_ring_here", "_law_kind", "_law_many"] ["_law_ring_here"] (defScope s_law_size) := ⟨rfl, rfl, rfl, by decide +kernel, rfl, by decide +kernel, by decide +kernel⟩
abbrev s_law_table : Stmt := top 28
theorem sc_law_table : FnScope ["_law_ring_here", "_law_ends", "_law_sums", "_law_kind", "_law_many"] ["_law_ring_here"] (defScope s_law_table) := ⟨rfl, rfl, rfl, by decide +kernel, rfl, by decide +kernel, by decide +kernel⟩
abbrev s_law_ahead : Stmt := top 29
theorem sc_law_ahead : FnScope ["_law_table_here", "_law_place", "_law_ends", "_law_sums", "_law_low", "_law_high", "_law_middle"] ["_law_table_here", "_law_place"] (defScope s_law_ahead) := ⟨rfl, rfl, rfl, by decide +kernel, rfl, by decide +kernel, by decide +kernel⟩
abbrev s_law_along : Stmt := top 30
theorem sc_law_along : FnScope ["_law_table_here", "_law_place", "_law_many", "_law_size_here", "_law_rounds", "_law_end"] ["_law_table_here", "_law_place", "_law_many"] (defScope s_law_along) := ⟨rfl, rfl, rfl, by decide +kernel, rfl, by decide +kernel, by decide +kernel⟩
abbrev s_law_row : Stmt := top 31
theorem sc_law_row : FnScope ["_law_ring_here", "_law_kind", "_law_many"] ["_law_ring_here"] (defScope s_law_row) := ⟨rfl, rfl, rfl, by decide +kernel, rfl, by decide +kernel, by decide +kernel⟩
abbrev s_law_surplus : Stmt := top 32
theorem sc_law_surplus : FnScope ["_law_table_here", "_law_times_here"] ["_law_table_here", "_law_times_here"] (defScope s_law_surplus) := ⟨rfl, rfl, rfl, by decide +kernel, rfl, by decide +kernel, by decide +kernel⟩
abbrev s_law_is_start : Stmt := top 33
theorem sc_law_is_start : FnScope ["_law_table_here", "_law_times_here", "_law_place", "_law_ends", "_law_sums", "_law_more", "_law_here", "_law_end", "_law_mine", "_law_height_here"] ["_law_table_here", "_law_times_here", "_law_place"] (defScope s_law_is_start) := ⟨rfl, rfl, rfl, by decide +kernel, rfl, by decide +kernel, by decide +kernel⟩
abbrev s_law_says : Stmt := top 34
theorem sc_law_says : FnScope ["_law_said", "_law_due"] ["_law_said", "_law_due"] (defScope s_law_says) := ⟨rfl, rfl, rfl, by decide +kernel, rfl, by decide +kernel, by decide +kernel⟩
abbrev s_law_times : Stmt := top 35
theorem sc_law_times : FnScope ["_law_script", "_law_ring_here", "_law_size_here", "_law_mine", "_law_found", "_law_rest", "_law_most", "_law_less"] ["_law_script", "_law_ring_here"] (defScope s_law_times) := ⟨rfl, rfl, rfl, by decide +kernel, rfl, by decide +kernel, by decide +kernel⟩
abbrev s_law_height : Stmt := top 36
theorem sc_law_height : FnScope ["_law_table_here", "_law_times_here", "_law_place"] ["_law_table_here", "_law_times_here", "_law_place"] (defScope s_law_height) := ⟨rfl, rfl, rfl, by decide +kernel, rfl, by decide +kernel, by decide +kernel⟩
abbrev s_law_right : Stmt := top 37
theorem sc_law_right : FnScope ["_law_script", "_law_ring_here", "_law_times_here", "_law_kept", "_law_table_here", "_law_size_here", "_law_count", "_law_many", "_law_ends", "_law_sums", "_law_least", "_law_end", "_law_mine", "_law_numbers", "_law_last", "_law_number_here", "_law_place", "_law_near", "_law_due"] ["_law_script", "_law_ring_here", "_law_times_here"] (defScope s_law_right) := ⟨rfl, rfl, rfl, by decide +kernel, rfl, by decide +kernel, by decide +kernel⟩
abbrev s_law_small_right : Stmt := top 38
theorem sc_law_small_right : FnScope ["_law_ring_here", "_law_times_here", "_law_row_here", "_law_found", "_law_place", "_law_ahead_here", "_law_good", "_law_letter", "_law_told", "_law_at"] ["_law_ring_here", "_law_times_here"] (defScope s_law_small_right) := ⟨rfl, rfl, rfl, by decide +kernel, rfl, by decide +kernel, by decide +kernel⟩
abbrev s_law : Stmt := top 39
theorem sc_law : FnScope ["_law_script", "_law_ring_here", "_law_small_here", "_law_times_here", "_law_number_here"] ["_law_script"] (defScope s_law) := ⟨rfl, rfl, rfl, by decide +kernel, rfl, by decide +kernel, by decide +kernel⟩
/-- what the top has written -/
structure Txt (K : PySem.W.Frag) (mg : Str → Option Value) : Prop where
  d_is_whole : Dfn K mg "is_whole" s_is_whole ["thing"]
  d_is_stretch : Dfn K mg "is_stretch" s_is_stretch ["thing"]
  d_check_ring : Dfn K mg "check_ring" s_check_ring ["ring"]
  d_whole_of : Dfn K mg "whole_of" s_whole_of ["ring"]
  d_check_place : Dfn K mg "check_place" s_check_place ["ring", "place"]
  d_table_of : Dfn K mg "table_of" s_table_of ["ring"]
  d_check_times : Dfn K mg "check_times" s_check_times ["times"]
  d_more_of : Dfn K mg "more_of" s_more_of ["ring", "times"]
  d_parts_of : Dfn K mg "parts_of" s_parts_of ["ring", "times"]
  d_starts : Dfn K mg "starts" s_starts ["ring", "times"]
  d_start_at : Dfn K mg "start_at" s_start_at ["ring", "times", "number"]
  d_is_start : Dfn K mg "is_start" s_is_start ["ring", "times", "place"]
  d__law_cell_at : Dfn K mg "_law_cell_at" s_law_cell_at ["_law_script", "_law_k"]
  d__law_draw : Dfn K mg "_law_draw" s_law_draw ["_law_cell", "_law_k", "_law_many"]
  d__law_number : Dfn K mg "_law_number" s_law_number ["_law_cell", "_law_k", "_law_limit"]
  d__law_ring : Dfn K mg "_law_ring" s_law_ring ["_law_script"]
  d__law_small : Dfn K mg "_law_small" s_law_small ["_law_script", "_law_by"]
  d__law_whole : Dfn K mg "_law_whole" s_law_whole ["_law_number_here"]
  d__law_size : Dfn K mg "_law_size" s_law_size ["_law_ring_here"]
  d__law_table : Dfn K mg "_law_table" s_law_table ["_law_ring_here"]
  d__law_ahead : Dfn K mg "_law_ahead" s_law_ahead ["_law_table_here", "_law_place"]
  d__law_along : Dfn K mg "_law_along" s_law_along ["_law_table_here", "_law_place", "_law_many"]
  d__law_row : Dfn K mg "_law_row" s_law_row ["_law_ring_here"]
  d__law_surplus : Dfn K mg "_law_surplus" s_law_surplus ["_law_table_here", "_law_times_here"]
  d__law_is_start : Dfn K mg "_law_is_start" s_law_is_start ["_law_table_here", "_law_times_here", "_law_place"]
  d__law_says : Dfn K mg "_law_says" s_law_says ["_law_said", "_law_due"]
  d__law_times : Dfn K mg "_law_times" s_law_times ["_law_script", "_law_ring_here"]
  d__law_height : Dfn K mg "_law_height" s_law_height ["_law_table_here", "_law_times_here", "_law_place"]
  d__law_right : Dfn K mg "_law_right" s_law_right ["_law_script", "_law_ring_here", "_law_times_here"]
  d__law_small_right : Dfn K mg "_law_small_right" s_law_small_right ["_law_ring_here", "_law_times_here"]
  m_len : mg "len" = none
  m_sum : mg "sum" = none
  m_min : mg "min" = none
  m_max : mg "max" = none
  m_all : mg "all" = none
  m_any : mg "any" = none
  m_isinstance : mg "isinstance" = none
  m_int : mg "int" = none
  m_bool : mg "bool" = none
  m_str : mg "str" = none
  m_tuple : mg "tuple" = none
  m_list : mg "list" = none
  m_range : mg "range" = none
  m_enumerate : mg "enumerate" = none
  m_zip : mg "zip" = none
  m_sorted : mg "sorted" = none
  m_set : mg "set" = none
end Rb
namespace Rb
open PySem PySem.Spec PyProof.Rows L2
/-! ### steps by themselves -/
local macro_rules | `(tactic| walk_at "ex") => `(tactic| first
  | exact Evl.Ex.refl _
  | assumption
  | exact exN (by assumption)
  | (refine' exT (by assumption) ?_; walk_at "ex"))
local macro_rules | `(tactic| walk_at "sq") => `(tactic| first
  | assumption
  | exact SqL.of (by assumption)
  | exact SqT.of (by assumption)
  | exact SqL.of upd_same
  | (refine' exL ?e ?h; (case h => first | assumption | exact SqL.of (by assumption)); (case e => walk_at "ex"))
  | (refine' exU ?e ?h; (case h => first | assumption | exact SqT.of (by assumption)); (case e => walk_at "ex")))
local macro_rules | `(tactic| walk_at "ob") => `(tactic| first
  | assumption
  | exact upd_same
  | (refine' (show Ex _ _ from ?e) _ _ ?h; (case h => assumption); (case e => walk_at "ex")))
local macro_rules | `(tactic| walk_at "ns") => `(tactic| (simp only [List.set_cons_succ, List.set_cons_zero]; exact rfl))
local macro_rules | `(tactic| walk_at "ix") => `(tactic| with_unfolding_all exact rfl)
local macro_rules | `(tactic| walk_at "r1s") => `(tactic| with_reducible first
  | refine r_var (by walk_at "ix") ?_
  | refine r_c ?_
  | refine L2.iteT ?_
  | refine L2.iteF ?_
  | refine iteNT ?_
  | refine iteNF ?_
  | refine r_op ?_
  | refine r_I0 ?_
  | refine r_un ?_
  | refine r_U ?_
  | refine r_cb ?_
  | refine r_cons ?_
  | refine r_nil ?_
  | refine r_call ?_
  | refine r_seq ?_
  | refine r_asg ?_
  | refine r_name (by walk_at "ns") ?_
  | refine r_ret ?_
  | refine r_retN ?_
  | refine r_ifS ?_
  | refine r_test ?_
  | refine r_tB ?_
  | refine r_bl ?_
  | refine r_and ?_
  | refine r_or ?_
  | refine r_not ?_
  | refine r_eqI ?_
  | refine r_neI ?_
  | refine r_eqS ?_
  | refine r_neS ?_
  | refine r_eqB ?_
  | refine r_tup ?_
  | refine r_lst ?_
  | refine r_drop ?_
  | refine r_par ?_
  | refine r_par2 (by walk_at "ns") ?_
  | refine r_par3 ?_
  | refine r_par3b (by walk_at "ns") ?_
  | refine r_aug (by walk_at "ix") ?_
  | refine r_ipI ?_
  | refine r_gcons ?_
  | refine r_gnil ?_
  | refine r_app ?_
  | refine r_for ?_
  | refine r_iL ?_
  | refine r_iT ?_
  | refine r_rng1 ?_
  | refine r_enum ?_
  | refine r_zip ?_
  | refine r_M1 ?_
  | refine r_isS ?_
  | refine r_lc ?_
  | refine r_next ?_
  | refine r_abs ?_
  | refine r_max2 ?_
  | refine r_min2 ?_
  | refine r_tPart ?_
  | refine r_noPart ?_
  | refine r_int ?_
  | refine r_sl ?_)
local macro_rules | `(tactic| walk_at "r1") => `(tactic| first
  | walk_at "r1s"
  | (with_reducible refine r_andV ?_)
  | (with_reducible refine r_orV ?_)
  | (with_reducible refine r_notV ?_)
  | (with_reducible refine r_chain ?_))
local macro_rules | `(tactic| walk_at "r2") => `(tactic| first
  | ((with_reducible refine' r_tup2 ?hq ?hn ?_); (case hq => walk_at "sq"); (case hn => exact rfl)))
local macro_rules | `(tactic| walk_at "rd") => `(tactic| repeat (first | walk_at "r1" | walk_at "r2"))
local macro_rules | `(tactic| walk_at "ss") => `(tactic| simp only [List.set_cons_succ, List.set_cons_zero])
local macro_rules | `(tactic| walk_at "rdI") => `(tactic| repeat (first | walk_at "r1" | walk_at "r2" | (with_reducible refine r_if ?_)))
local macro_rules | `(tactic| walk_at "rdS") => `(tactic| repeat (first | walk_at "r1s" | walk_at "r2"))
section
variable {P : Program} {w : World} {K : PySem.W.Frag} {mg : Str → Option Value} {base : Heap}
def sp_table_of (K : PySem.W.Frag) : Sp := fun vs H Q _ => ∃ (a : Addr) (r : Ring), vs = [.ref a] ∧ RingAt K H a r ∧ r.length ≤ 10000 ∧ ∀ t H', Ex H H' → TabAt K H' t r → Q (.ref t) H'
theorem c_table_of (T : Txt K mg) : Cal P w K mg base 1 "table_of" (sp_table_of K) := by
  refine cal T.d_table_of sc_table_of (by rintro vs H Q E ⟨_, _, rfl, _⟩; rfl) (fun f cdv A outer s H vs Q E hr h => ?_)
  obtain ⟨a, r, rfl, hR, hl, k⟩ := h
  refine ⟨_, (pss_cons (ps_set (i := 1) sc_table_of.nd rfl (by first | exact Or.inl rfl | exact Or.inr rfl) (pe_lst (pa_cons pe_int pa_nil)))
        (pss_cons (ps_set (i := 2) sc_table_of.nd rfl (by first | exact Or.inl rfl | exact Or.inr rfl) (pe_lst (pa_cons pe_int pa_nil)))
        (pss_cons (ps_for PassesOwn.never rfl (pi_list (pv 0)) (pg_tup (n := 2) rfl (pgs_cons (pg_name (i := 3) sc_table_of.nd rfl (by first | exact Or.inl rfl | exact Or.inr rfl)) (pgs_cons (pg_name (i := 4) sc_table_of.nd rfl (by first | exact Or.inl rfl | exact Or.inr rfl)) pgs_nil)))
          (pss_cons (ps_expr (pe_bm PySem.F.plainAttrs_list PySem.F.slot_list_append PySem.F.type_list_append mt_append (pv 1) (pa_cons (pe_op op_add (pe_ix ix_list (pv 1) (pe_un un_neg pe_int) (fun _ _ => rfl)) (pv 4)) pa_nil)))
          (pss_one (ps_expr (pe_bm PySem.F.plainAttrs_list PySem.F.slot_list_append PySem.F.type_list_append mt_append (pv 2) (pa_cons (pe_op op_add (pe_ix ix_list (pv 2) (pe_un un_neg pe_int) (fun _ _ => rfl)) (pe_ifExp (pt_cmpR op_eq (pv 3) pe_str (nomark _)) (pv 4) pe_int)) pa_nil))))))
        (pss_one (ps_ret (pe_tup (pa_cons (pv 1) (pa_cons (pv 2) pa_nil)))))))), ?_⟩
  refine at_start (σ := [some (.ref a), none, none, none, none]) rfl ?_; simp only [kx, kx', kb, mx, mx']
  walk_at "rd"
  refine r_mkL (by decide) fun p H1 n1 e1 h1 => ?_
  walk_at "rd"
  refine r_mkL (by decide) fun q H2 n2 e2 h2 => ?_
  walk_at "rd"
  have npq : p ≠ q := ne_of_none h1 n2
  have ep : Ex H H2 := exT e2 e1
  refine forK_ring H hR (fun n σ' H' => ∃ x y, σ' = [some (.ref a), some (.ref p), some (.ref q), x, y] ∧ Ex H H' ∧ H' p = some (.lst ((ends (r.take n)).map V.int)) ∧ H' q = some (.lst ((sums (r.take n)).map V.int)))
    ⟨none, none, rfl, ep, e2 _ _ h1, h2⟩ (fun n σ' H' ⟨_, _, _, e, _⟩ => e) ?_ ?_
  · rintro n kk m σ' H' hn ⟨x, y, rfl, e, hp, hq⟩
    have hln : n < r.length := (List.getElem?_eq_some_iff.mp hn).1
    walk_at "rd"
    refine r_app1 hp ?_
    walk_at "rd"
    refine r_ixL (SqL.of hp) (ends_last_at _) ?_
    walk_at "rd"
    refine r_app2 hp (Evl.sz_lt (by rw [List.length_map, ends_len, List.length_take]; omega)) ?_
    have hq' : (upd H' p (.lst ((ends (r.take n)).map V.int ++ [.int (size (r.take n) + m)]))) q = some (.lst ((sums (r.take n)).map V.int)) := by
      rw [upd_ne npq.symm]; exact hq
    walk_at "rd"
    refine r_app1 hq' ?_
    walk_at "rd"
    refine r_ixL (SqL.of hq') (sums_last_at _) ?_
    walk_at "rdI"
    rw [kS_a]
    cases kk
    all_goals
      walk_at "rd"
      refine r_app2 hq' (Evl.sz_lt (by rw [List.length_map, sums_len, List.length_take]; omega)) ?_
      refine ⟨_, _, rfl, exM (exM e n1) (exB e1 n2), ?_, ?_⟩
      · rw [upd_ne npq, upd_same, ends_snoc hn, List.map_append]
        rfl
      · rw [upd_same, sums_snoc hn, List.map_append]
        rfl
  · rintro σ' H' ⟨x, y, rfl, e, hp, hq⟩
    rw [List.take_length] at hp hq
    walk_at "rd"
    refine r_mkU (by show 2 ≤ sizeLine; decide) fun t H3 n3 e3 h3 => ?_
    exact k t H3 (exT e3 e) ⟨p, q, SqT.of h3, SqL.of (e3 _ _ hp), SqL.of (e3 _ _ hq)⟩
def sp_law_table (K : PySem.W.Frag) : Sp := fun vs H Q _ => ∃ (a : Addr) (r : Ring), vs = [.ref a] ∧ RingAt K H a r ∧ r.length ≤ 10000 ∧ ∀ t H', Ex H H' → TabAt K H' t r → Q (.ref t) H'
theorem c_law_table (T : Txt K mg) : Cal P w K mg base 1 "_law_table" (sp_law_table K) := by
  refine cal T.d__law_table sc_law_table (by rintro vs H Q E ⟨_, _, rfl, _⟩; rfl) (fun f cdv A outer s H vs Q E hr h => ?_)
  obtain ⟨a, r, rfl, hR, hl, k⟩ := h
  refine ⟨_, (pss_cons (ps_par (i := 1) (j := 2) rfl sc_law_table.nd rfl rfl (by decide) rfl rfl (pa_cons (pe_lst (pa_cons pe_int pa_nil)) (pa_cons (pe_lst (pa_cons pe_int pa_nil)) pa_nil)) rfl)
        (pss_cons (ps_for PassesOwn.never rfl (pi_list (pv 0)) (pg_tup (n := 2) rfl (pgs_cons (pg_name (i := 3) sc_law_table.nd rfl (by first | exact Or.inl rfl | exact Or.inr rfl)) (pgs_cons (pg_name (i := 4) sc_law_table.nd rfl (by first | exact Or.inl rfl | exact Or.inr rfl)) pgs_nil)))
          (pss_cons (ps_expr (pe_bm PySem.F.plainAttrs_list PySem.F.slot_list_append PySem.F.type_list_append mt_append (pv 1) (pa_cons (pe_op op_add (pe_ix ix_list (pv 1) (pe_un un_neg pe_int) (fun _ _ => rfl)) (pv 4)) pa_nil)))
          (pss_one (ps_expr (pe_bm PySem.F.plainAttrs_list PySem.F.slot_list_append PySem.F.type_list_append mt_append (pv 2) (pa_cons (pe_op op_add (pe_ix ix_list (pv 2) (pe_un un_neg pe_int) (fun _ _ => rfl)) (pe_ifExp (pt_cmpR op_eq (pv 3) pe_str (nomark _)) (pv 4) pe_int)) pa_nil))))))
        (pss_one (ps_ret (pe_tup (pa_cons (pv 1) (pa_cons (pv 2) pa_nil))))))), ?_⟩
  refine at_start (σ := [some (.ref a), none, none, none, none]) rfl ?_; simp only [kx, kx', kb, mx, mx']
  walk_at "rd"
  refine r_mkL (by decide) fun p H1 n1 e1 h1 => ?_
  walk_at "rd"
  refine r_mkL (by decide) fun q H2 n2 e2 h2 => ?_
  walk_at "rd"
  have npq : p ≠ q := ne_of_none h1 n2
  have ep : Ex H H2 := exT e2 e1
  refine forK_ring H hR (fun n σ' H' => ∃ x y, σ' = [some (.ref a), some (.ref p), some (.ref q), x, y] ∧ Ex H H' ∧ H' p = some (.lst ((ends (r.take n)).map V.int)) ∧ H' q = some (.lst ((sums (r.take n)).map V.int)))
    ⟨none, none, rfl, ep, e2 _ _ h1, h2⟩ (fun n σ' H' ⟨_, _, _, e, _⟩ => e) ?_ ?_
  · rintro n kk m σ' H' hn ⟨x, y, rfl, e, hp, hq⟩
    have hln : n < r.length := (List.getElem?_eq_some_iff.mp hn).1
    walk_at "rd"
    refine r_app1 hp ?_
    walk_at "rd"
    refine r_ixL (SqL.of hp) (ends_last_at _) ?_
    walk_at "rd"
    refine r_app2 hp (Evl.sz_lt (by rw [List.length_map, ends_len, List.length_take]; omega)) ?_
    have hq' : (upd H' p (.lst ((ends (r.take n)).map V.int ++ [.int (size (r.take n) + m)]))) q = some (.lst ((sums (r.take n)).map V.int)) := by
      rw [upd_ne npq.symm]; exact hq
    walk_at "rd"
    refine r_app1 hq' ?_
    walk_at "rd"
    refine r_ixL (SqL.of hq') (sums_last_at _) ?_
    walk_at "rdI"
    rw [kS_a]
    cases kk
    all_goals
      walk_at "rd"
      refine r_app2 hq' (Evl.sz_lt (by rw [List.length_map, sums_len, List.length_take]; omega)) ?_
      refine ⟨_, _, rfl, exM (exM e n1) (exB e1 n2), ?_, ?_⟩
      · rw [upd_ne npq, upd_same, ends_snoc hn, List.map_append]
        rfl
      · rw [upd_same, sums_snoc hn, List.map_append]
        rfl
  · rintro σ' H' ⟨x, y, rfl, e, hp, hq⟩
    rw [List.take_length] at hp hq
    walk_at "rd"
    refine r_mkU (by show 2 ≤ sizeLine; decide) fun t H3 n3 e3 h3 => ?_
    exact k t H3 (exT e3 e) ⟨p, q, SqT.of h3, SqL.of (e3 _ _ hp), SqL.of (e3 _ _ hq)⟩
def sp_is_whole (K : PySem.W.Frag) : Sp := fun vs H Q _ => ∃ (i : Int), vs = [.int i] ∧ ∀ H', Ex H H' → Q (.bl true) H'
theorem c_is_whole (T : Txt K mg) : Cal P w K mg base 1 "is_whole" (sp_is_whole K) := by
  refine cal T.d_is_whole sc_is_whole (by rintro vs H Q E ⟨_, rfl, _⟩; rfl) (fun f cdv A outer s H vs Q E hr h => ?_)
  obtain ⟨i, rfl, k⟩ := h
  refine ⟨_, (pss_one (ps_ret (pe_and (pe_callB call_isi (by rfl) T.m_isinstance (by decide +kernel) (pa_cons (pv 0) (pa_cons (pe_bltn (v := .ty "int") (u := .type "int") (by rfl) T.m_int (by decide +kernel) rfl) pa_nil))) (pe_one (pe_not (pe_callB call_isi (by rfl) T.m_isinstance (by decide +kernel) (pa_cons (pv 0) (pa_cons (pe_bltn (v := .ty "bool") (u := .type "bool") (by rfl) T.m_bool (by decide +kernel) rfl) pa_nil)))))))), ?_⟩
  refine at_start (σ := [some (.int i)]) rfl ?_; simp only [kx, kx', kb, mx, mx']
  walk_at "rd"
  refine r_isi (.ty "int") (.base (.int i)) (kit_ty (r := true) (by decide +kernel)) ?_
  walk_at "rd"
  refine r_isi (.ty "bool") (.base (.int i)) (kit_ty (r := false) (by decide +kernel)) ?_
  walk_at "rd"
  exact k _ (Evl.Ex.refl _)
def sp_law_whole (K : PySem.W.Frag) : Sp := fun vs H Q _ => ∃ (i : Int), vs = [.int i] ∧ ∀ H', Ex H H' → Q (.bl true) H'
theorem c_law_whole (T : Txt K mg) : Cal P w K mg base 1 "_law_whole" (sp_law_whole K) := by
  refine cal T.d__law_whole sc_law_whole (by rintro vs H Q E ⟨_, rfl, _⟩; rfl) (fun f cdv A outer s H vs Q E hr h => ?_)
  obtain ⟨i, rfl, k⟩ := h
  refine ⟨_, (pss_one (ps_ret (pe_and (pe_callB call_isi (by rfl) T.m_isinstance (by decide +kernel) (pa_cons (pv 0) (pa_cons (pe_bltn (v := .ty "int") (u := .type "int") (by rfl) T.m_int (by decide +kernel) rfl) pa_nil))) (pe_one (pe_not (pe_callB call_isi (by rfl) T.m_isinstance (by decide +kernel) (pa_cons (pv 0) (pa_cons (pe_bltn (v := .ty "bool") (u := .type "bool") (by rfl) T.m_bool (by decide +kernel) rfl) pa_nil)))))))), ?_⟩
  refine at_start (σ := [some (.int i)]) rfl ?_; simp only [kx, kx', kb, mx, mx']
  walk_at "rd"
  refine r_isi (.ty "int") (.base (.int i)) (kit_ty (r := true) (by decide +kernel)) ?_
  walk_at "rd"
  refine r_isi (.ty "bool") (.base (.int i)) (kit_ty (r := false) (by decide +kernel)) ?_
  walk_at "rd"
  exact k _ (Evl.Ex.refl _)
def sp_is_stretch (K : PySem.W.Frag) : Sp := fun vs H Q _ => ∃ (t : Addr) (k : Bool) (m : Int), vs = [.ref t] ∧ H t = some (.tup [.str (kS k), .int m]) ∧ 1 ≤ m ∧ ∀ H', Ex H H' → Q (.bl true) H'
theorem c_is_stretch (T : Txt K mg) : Cal P w K mg base 2 "is_stretch" (sp_is_stretch K) := by
  refine cal T.d_is_stretch sc_is_stretch (by rintro vs H Q E ⟨_, _, _, rfl, _⟩; rfl) (fun f cdv A outer s H vs Q E hr h => ?_)
  obtain ⟨t, kk, m, rfl, ht, hm, k⟩ := h
  refine ⟨_, (pss_cons (ps_if (PW.pt (pw_or (pt_not (pt_val (pe_callB call_isi (by rfl) T.m_isinstance (by decide +kernel) (pa_cons (pv 0) (pa_cons (pe_bltn (v := .ty "tuple") (u := .type "tuple") (by rfl) T.m_tuple (by decide +kernel) rfl) pa_nil))))) (pw_or (pt_cmpR op_ne (pe_callB cr_len (by rfl) T.m_len (by decide +kernel) (pa_cons (pv 0) pa_nil)) pe_int (nomark _)) (pw_or1 (pt_not (pt_val (pe_callB call_isi (by rfl) T.m_isinstance (by decide +kernel) (pa_cons (pe_ix ix_tup (pv 0) pe_int (fun _ _ => rfl)) (pa_cons (pe_bltn (v := .ty "str") (u := .type "str") (by rfl) T.m_str (by decide +kernel) rfl) pa_nil))))))))) (pss_one (ps_ret pe_bl)) pss_nil)
        (pss_one (ps_ret (pe_and (pe_cmpR op_in_seq (pe_ix ix_tup (pv 0) pe_int (fun _ _ => rfl)) (pe_tup (pa_cons pe_str (pa_cons pe_str pa_nil))) (by rfl)) (pe_and (pe_c (c_is_whole T) hr (by decide) (by rfl) (pa_cons (pe_ix ix_tup (pv 0) pe_int (fun _ _ => rfl)) pa_nil)) (pe_one (pe_cmpR op_gt (pe_ix ix_tup (pv 0) pe_int (fun _ _ => rfl)) pe_int (nomark _)))))))), ?_⟩
  refine at_start (σ := [some (.ref t)]) rfl ?_; simp only [kx, kx', kb, mx, mx']
  walk_at "rd"
  refine r_isi (.ty "tuple") (.base (.tup ht)) (kit_ty (r := true) (by decide +kernel)) ?_
  walk_at "rd"
  refine r_lenU (n := 2) (.of ht) rfl ?_
  walk_at "rd"
  refine iteN (fun e => absurd rfl e) (fun _ => ?_)
  walk_at "rd"
  refine r_ixT (i := 0) (v := .str (kS kk)) (.of ht) rfl ?_
  walk_at "rd"
  refine r_isi (.ty "str") (.base (.str _)) (kit_ty (r := true) (by decide +kernel)) ?_
  walk_at "rd"
  refine r_ixT (i := 0) (v := .str (kS kk)) (.of ht) rfl ?_
  walk_at "rd"
  refine r_mkU (by show 2 ≤ sizeLine; decide) fun p H1 n1 e1 h1 => ?_
  refine r_in (.inr (.of h1)) rfl rfl ?_
  rw [show inV (V.str (kS kk)) [V.str "a", V.str "b"] = true by cases kk <;> decide +kernel]
  walk_at "rd"
  refine r_ixT (i := 1) (v := .int m) (exU e1 (.of ht)) rfl ?_
  walk_at "rd"
  refine ⟨m, rfl, fun H2 e2 => ?_⟩
  walk_at "rd"
  refine r_ixT (i := 1) (v := .int m) (exU e2 (exU e1 (.of ht))) rfl ?_
  walk_at "rd"
  rw [decide_eq_true (show (0 : Int) < m by omega)]
  exact k _ (exT e2 e1)
def sp_check_ring (K : PySem.W.Frag) : Sp := fun vs H Q _ => ∃ (a : Addr) (r : Ring), vs = [.ref a] ∧ RingAt K H a r ∧ Ok r ∧ ∀ H', Ex H H' → Q .non H'
theorem c_check_ring (T : Txt K mg) : Cal P w K mg base 3 "check_ring" (sp_check_ring K) := by
  refine cal T.d_check_ring sc_check_ring (by rintro vs H Q E ⟨_, _, rfl, _⟩; rfl) (fun f cdv A outer s H vs Q E hr h => ?_)
  obtain ⟨a, r, rfl, hR, ok, k⟩ := h
  obtain ⟨xs, h1, h2, h3⟩ := id hR
  rw [List.length_map] at h2
  refine ⟨_, (pss_one (ps_if (PW.pt (pw_or (pt_not (pt_val (pe_callB call_isi (by rfl) T.m_isinstance (by decide +kernel) (pa_cons (pv 0) (pa_cons (pe_bltn (v := .ty "list") (u := .type "list") (by rfl) T.m_list (by decide +kernel) rfl) pa_nil))))) (pw_or (pt_cmpR op_eq (pe_callB cr_len (by rfl) T.m_len (by decide +kernel) (pa_cons (pv 0) pa_nil)) pe_int (nomark _)) (pw_or1 (pt_not (pt_val (pe_callB (cr_all rfl) (by rfl) T.m_all (by decide +kernel) (pa_cons (pe_lc (own := [("stretch", 1)]) (g := (gName 1)) rfl sc_check_ring.nd (pi_list (pv 0)) (blkOk_by (own := [("stretch", 1)]) (N := ["ring", "stretch"]) (sc := defScope s_check_ring) (by decide +kernel)) (fun _ _ _ _ _ => (pg_name (i := 1) sc_check_ring.nd rfl (by first | exact Or.inl rfl | exact Or.inr rfl))) (fun _ _ _ _ _ => pts_nil) (fun _ _ _ _ _ => (pe_c (c_is_stretch T) hr (by decide) (by rfl) (pa_cons (pv 1) pa_nil)))) pa_nil)))))))) (pss_one ps_never) pss_nil)), ?_⟩
  refine at_start (σ := [some (.ref a), none]) rfl ?_; simp only [kx, kx', kb, mx, mx']
  walk_at "rd"
  refine r_isi (.ty "list") (.base (.lst h1)) (kit_ty (r := true) (by decide +kernel)) ?_
  walk_at "rd"
  refine r_len (n := r.length) (.of h1) h2 ?_
  walk_at "rd"
  refine iteD (fun e => absurd e (by have := ok.len; omega)) (fun _ => ?_)
  walk_at "rd"
  refine lcK_list ((r.map fun _ => true).map V.bl) (by simp [h2]) (.of h1) (by have := ok.few; omega) (fun _ => rfl) (fun i x y hx hy H1 e1 Q1 k1 => ?_) fun p H1 n1 e1 g1 => ?_
  · have hi : i < r.length := by have := (List.getElem?_eq_some_iff.mp hx).1; omega
    obtain ⟨q, z1, z2⟩ := h3 i (prV r[i]) (by rw [List.getElem?_map, List.getElem?_eq_getElem hi]; rfl)
    have ex : x = .ref q := Option.some.inj (hx.symm.trans z1)
    have ey : y = .bl true := by
      rw [List.getElem?_map, List.getElem?_map, List.getElem?_eq_getElem hi] at hy
      exact (Option.some.inj hy).symm
    subst ex ey
    walk_at "rd"
    exact ⟨q, _, _, rfl, e1 _ _ z2, ok.pos _ (List.getElem_mem hi), k1⟩
  · walk_at "rd"
    refine r_all (.of g1) ?_
    rw [show (r.map fun _ => true).all id = true by simp]
    walk_at "rd"
    exact k _ e1
def sp_whole_of (K : PySem.W.Frag) : Sp := fun vs H Q _ => ∃ (a : Addr) (r : Ring), vs = [.ref a] ∧ RingAt K H a r ∧ r.length ≤ 10000 ∧ ∀ H', Ex H H' → Q (.int (size r)) H'
theorem c_whole_of (T : Txt K mg) : Cal P w K mg base 1 "whole_of" (sp_whole_of K) := by
  refine cal T.d_whole_of sc_whole_of (by rintro vs H Q E ⟨_, _, rfl, _⟩; rfl) (fun f cdv A outer s H vs Q E hr h => ?_)
  obtain ⟨a, r, rfl, hR, hl, k⟩ := h
  refine ⟨_, (pss_one (ps_ret (pe_callB (cr_sum rfl) (by rfl) T.m_sum (by decide +kernel) (pa_cons (pe_lc (own := [("kind", 1), ("many", 2)]) (g := (gTup K 2 (gCons (gName 1) (gCons (gName 2) gNil)))) rfl sc_whole_of.nd (pi_list (pv 0)) (blkOk_by (own := [("kind", 1), ("many", 2)]) (N := ["ring", "kind", "many"]) (sc := defScope s_whole_of) (by decide +kernel)) (fun _ _ _ _ _ => (pg_tup (n := 2) rfl (pgs_cons (pg_name (i := 1) sc_whole_of.nd rfl (by first | exact Or.inl rfl | exact Or.inr rfl)) (pgs_cons (pg_name (i := 2) sc_whole_of.nd rfl (by first | exact Or.inl rfl | exact Or.inr rfl)) pgs_nil)))) (fun _ _ _ _ _ => pts_nil) (fun _ _ _ _ _ => (pv 2))) pa_nil)))), ?_⟩
  refine at_start (σ := [some (.ref a), none, none]) rfl ?_; simp only [kx, kx', kb, mx, mx']
  walk_at "rd"
  refine lcK_ring (fun x => .int x.2) hR (by omega) (fun _ _ => rfl) (fun k m hm H1 e1 Q1 k1 => ?_) fun p H1 n1 e1 h1 => ?_
  · walk_at "rd"
    exact k1 _ (Evl.Ex.refl _)
  · walk_at "rd"
    refine r_sum (ns := r.map (·.2)) (.of (by rw [List.map_map]; exact h1)) ?_
    rw [size_sum]
    exact k _ e1
def sp_law_size (K : PySem.W.Frag) : Sp := fun vs H Q _ => ∃ (a : Addr) (r : Ring), vs = [.ref a] ∧ RingAt K H a r ∧ r.length ≤ 10000 ∧ ∀ H', Ex H H' → Q (.int (size r)) H'
theorem c_law_size (T : Txt K mg) : Cal P w K mg base 1 "_law_size" (sp_law_size K) := by
  refine cal T.d__law_size sc_law_size (by rintro vs H Q E ⟨_, _, rfl, _⟩; rfl) (fun f cdv A outer s H vs Q E hr h => ?_)
  obtain ⟨a, r, rfl, hR, hl, k⟩ := h
  refine ⟨_, (pss_one (ps_ret (pe_callB (cr_sum rfl) (by rfl) T.m_sum (by decide +kernel) (pa_cons (pe_lc (own := [("_law_kind", 1), ("_law_many", 2)]) (g := (gTup K 2 (gCons (gName 1) (gCons (gName 2) gNil)))) rfl sc_law_size.nd (pi_list (pv 0)) (blkOk_by (own := [("_law_kind", 1), ("_law_many", 2)]) (N := ["_law_ring_here", "_law_kind", "_law_many"]) (sc := defScope s_law_size) (by decide +kernel)) (fun _ _ _ _ _ => (pg_tup (n := 2) rfl (pgs_cons (pg_name (i := 1) sc_law_size.nd rfl (by first | exact Or.inl rfl | exact Or.inr rfl)) (pgs_cons (pg_name (i := 2) sc_law_size.nd rfl (by first | exact Or.inl rfl | exact Or.inr rfl)) pgs_nil)))) (fun _ _ _ _ _ => pts_nil) (fun _ _ _ _ _ => (pv 2))) pa_nil)))), ?_⟩
  refine at_start (σ := [some (.ref a), none, none]) rfl ?_; simp only [kx, kx', kb, mx, mx']
  walk_at "rd"
  refine lcK_ring (fun x => .int x.2) hR (by omega) (fun _ _ => rfl) (fun k m hm H1 e1 Q1 k1 => ?_) fun p H1 n1 e1 h1 => ?_
  · walk_at "rd"
    exact k1 _ (Evl.Ex.refl _)
  · walk_at "rd"
    refine r_sum (ns := r.map (·.2)) (.of (by rw [List.map_map]; exact h1)) ?_
    rw [size_sum]
    exact k _ e1
def sp_check_place (K : PySem.W.Frag) : Sp := fun vs H Q _ => ∃ (a : Addr) (r : Ring) (p : Int), vs = [.ref a, .int p] ∧ RingAt K H a r ∧ r.length ≤ 10000 ∧ 0 ≤ p ∧ p < size r ∧ ∀ H', Ex H H' → Q .non H'
theorem c_check_place (T : Txt K mg) : Cal P w K mg base 2 "check_place" (sp_check_place K) := by
  refine cal T.d_check_place sc_check_place (by rintro vs H Q E ⟨_, _, _, rfl, _⟩; rfl) (fun f cdv A outer s H vs Q E hr h => ?_)
  obtain ⟨a, r, p, rfl, hR, hl, h0, h1, k⟩ := h
  refine ⟨_, (pss_one (ps_if (PW.pt (pw_or (pt_not (pt_val (pe_c (c_is_whole T) hr (by decide) (by rfl) (pa_cons (pv 1) pa_nil)))) (pw_or1 (pt_not (pt_chain op_le op_lt pe_int (pv 1) (pe_c (c_whole_of T) hr (by decide) (by rfl) (pa_cons (pv 0) pa_nil))))))) (pss_one ps_never) pss_nil)), ?_⟩
  refine at_start (σ := [some (.ref a), some (.int p)]) rfl ?_; simp only [kx, kx', kb, mx, mx']
  walk_at "rd"
  refine ⟨p, rfl, fun H1 e1 => ?_⟩
  walk_at "rd"
  refine iteD (fun _ => ?_) (fun e => absurd h0 e)
  walk_at "rd"
  refine ⟨a, r, rfl, hR.ex e1, hl, fun H2 e2 => ?_⟩
  walk_at "rd"
  rw [decide_eq_true h1]
  walk_at "rd"
  exact k _ (exT e2 e1)
def sp_check_times (K : PySem.W.Frag) : Sp := fun vs H Q _ => ∃ (t : Int), vs = [.int t] ∧ 1 ≤ t ∧ ∀ H', Ex H H' → Q .non H'
theorem c_check_times (T : Txt K mg) : Cal P w K mg base 2 "check_times" (sp_check_times K) := by
  refine cal T.d_check_times sc_check_times (by rintro vs H Q E ⟨_, rfl, _⟩; rfl) (fun f cdv A outer s H vs Q E hr h => ?_)
  obtain ⟨t, rfl, h0, k⟩ := h
  refine ⟨_, (pss_one (ps_if (PW.pt (pw_or (pt_not (pt_val (pe_c (c_is_whole T) hr (by decide) (by rfl) (pa_cons (pv 0) pa_nil)))) (pw_or1 (pt_cmpR op_lt (pv 0) pe_int (nomark _))))) (pss_one ps_never) pss_nil)), ?_⟩
  refine at_start (σ := [some (.int t)]) rfl ?_; simp only [kx, kx', kb, mx, mx']
  walk_at "rd"
  refine ⟨t, rfl, fun H1 e1 => ?_⟩
  walk_at "rd"
  refine iteD (fun e => absurd e (by omega)) (fun _ => ?_)
  walk_at "rd"
  exact k _ e1
/-- times, not too far for what they are multiplied with -/
abbrev Tm (t : Int) : Prop := 1 ≤ t ∧ t ≤ 100000000000000000000000000000000000000000000000000000000000
def sp_more_of (K : PySem.W.Frag) : Sp := fun vs H Q _ => ∃ (a : Addr) (r : Ring) (t : Int), vs = [.ref a, .int t] ∧ RingAt K H a r ∧ Ok r ∧ Tm t ∧ ∀ H', Ex H H' → Q (.int (hgt t r)) H'
theorem c_more_of (T : Txt K mg) : Cal P w K mg base 2 "more_of" (sp_more_of K) := by
  refine cal T.d_more_of sc_more_of (by rintro vs H Q E ⟨_, _, _, rfl, _⟩; rfl) (fun f cdv A outer s H vs Q E hr h => ?_)
  obtain ⟨a, r, t, rfl, hR, ok, ht, k⟩ := h
  have few := ok.few
  have W1 := ok.size_lt
  have m := mine_le r ok.pos
  refine ⟨_, (pss_cons (ps_set (i := 2) sc_more_of.nd rfl (by first | exact Or.inl rfl | exact Or.inr rfl) (pe_ix ix_list (pe_ix ix_tup (pe_c (c_table_of T) hr (by decide) (by rfl) (pa_cons (pv 0) pa_nil)) pe_int (fun _ _ => rfl)) (pe_un un_neg pe_int) (fun _ _ => rfl)))
        (pss_one (ps_ret (pe_op op_sub (pv 2) (pe_op op_mulX (pv 1) (pe_op op_sub (pe_c (c_whole_of T) hr (by decide) (by rfl) (pa_cons (pv 0) pa_nil)) (pv 2))))))), ?_⟩
  refine at_start (σ := [some (.ref a), some (.int t), none]) rfl ?_; simp only [kx, kx', kb, mx, mx']
  walk_at "rd"
  refine ⟨a, r, rfl, hR, by omega, fun tb H1 e1 hT => ?_⟩
  obtain ⟨p, q, z1, z2, z3⟩ := hT
  walk_at "rd"
  refine r_ixT (i := 1) (v := .ref q) z1 rfl ?_
  walk_at "rd"
  refine r_ixL z3 (sums_last_at r) ?_
  walk_at "rd"
  refine ⟨a, r, rfl, hR.ex e1, by omega, fun H2 e2 => ?_⟩
  walk_at "rd"
  refine r_I (mulx_60 (by omega) (by omega)) ?_
  walk_at "rd"
  rw [surplus_eq]
  exact k _ (exT e2 e1)
theorem hgts_last (t : Int) (r : Ring) : hgts t r = ((List.range r.length).map fun j => hgt t (r.take j)) ++ [hgt t r] := by
  unfold hgts
  rw [List.range_succ, List.map_append, List.map_cons, List.map_nil, List.take_length]
theorem hgts_last_at (t : Int) (r : Ring) : atI ((hgts t r).map V.int) (-1) = some (.int (hgt t r)) := by
  rw [hgts_last, List.map_append]
  exact atI_last _ _
theorem hgts_ix {t : Int} {r : Ring} {j : Nat} (h : j ≤ r.length) : atI ((hgts t r).map V.int) (j : Int) = some (.int (hgt t (r.take j))) :=
  atI_nat (by rw [List.getElem?_map, hgts_at h]; rfl)
/-- the parts: where a stretch begins, how many starts it has -/
def partsM (t : Int) (r : Ring) (b : Int) : List (Int × Int) := (List.range r.length).map fun j => (size (r.take j), cnt1 t r (b + hgt t r) j (r.getD j (true, 0)))
theorem partsM_at {t : Int} {r : Ring} {b : Int} {j : Nat} {x : Bool × Int} (h : r[j]? = some x) : (partsM t r b)[j]? = some (size (r.take j), cnt1 t r (b + hgt t r) j x) := by
  have hn := (List.getElem?_eq_some_iff.mp h).1
  unfold partsM
  rw [List.getElem?_map, List.getElem?_range hn]
  show some (size (r.take j), cnt1 t r (b + hgt t r) j (r.getD j (true, 0))) = _
  rw [List.getD_eq_getElem?_getD, h]
  rfl
theorem partsM_len (t : Int) (r : Ring) (b : Int) : (partsM t r b).length = r.length := by simp [partsM]
theorem partsM_drop {t : Int} {r : Ring} {b : Int} {j : Nat} {x : Bool × Int} (h : r[j]? = some x) : ((partsM t r b).drop j).reverse = ((partsM t r b).drop (j + 1)).reverse ++ [(size (r.take j), cnt1 t r (b + hgt t r) j x)] := by
  have hn := (List.getElem?_eq_some_iff.mp h).1
  have hp : j < (partsM t r b).length := by rw [partsM_len]; exact hn
  rw [List.drop_eq_getElem_cons hp, List.reverse_cons, (List.getElem?_eq_some_iff.mp (partsM_at h)).2]
def sp_parts_of (K : PySem.W.Frag) : Sp := fun vs H Q _ => ∃ (a : Addr) (r : Ring) (t : Int), vs = [.ref a, .int t] ∧ RingAt K H a r ∧ Ok r ∧ Tm t ∧
  ∀ p H', Ex H H' → ((¬ 0 < hgt t r ∧ PartsAt K H' p (List.replicate r.length (0, 0))) ∨ ∃ b, Up t r b ∧ PartsAt K H' p (partsM t r b)) → Q (.ref p) H'
theorem hgt_lim {t : Int} {r : Ring} (ok : Ok r) (ht : Tm t) (j : Nat) : hgt t (r.take j) ≤ 2000000000000000000000000000000000000000000000000 := by
  rw [hgt_eq]
  have m := mine_le (r.take j) (pos_take ok.pos j)
  have W1 := ok.size_lt
  have s := size_app (r.take j) (r.drop j)
  rw [List.take_append_drop] at s
  have l := size_len (r.drop j) fun x hx => ok.pos x (List.mem_of_mem_drop hx)
  have z : t * mine (r.take j) ≤ t * size (r.take j) := Int.mul_le_mul_of_nonneg_left m.2 (by omega)
  rw [Int.add_mul]
  omega
set_option maxHeartbeats 4000000 in
theorem c_parts_of (T : Txt K mg) : Cal P w K mg base 3 "parts_of" (sp_parts_of K) := by
  refine cal T.d_parts_of sc_parts_of (by rintro vs H Q E ⟨_, _, _, rfl, _⟩; rfl) (fun f cdv A outer s H vs Q E hr h => ?_)
  obtain ⟨a, r, t, rfl, hR, ok, ht, k⟩ := h
  have few := ok.few
  have L0 := ok.len
  refine ⟨_, (pss_cons (ps_set (i := 2) sc_parts_of.nd rfl (by first | exact Or.inl rfl | exact Or.inr rfl) (pe_c (c_more_of T) hr (by decide) (by rfl) (pa_cons (pv 0) (pa_cons (pv 1) pa_nil))))
        (pss_cons (ps_if (pt_cmpR op_le (pv 2) pe_int (nomark _)) (pss_one (ps_ret (pe_lc (own := [("stretch", 3)]) (g := (gName 3)) rfl sc_parts_of.nd (pi_list (pv 0)) (blkOk_by (own := [("stretch", 3)]) (N := ["ring", "times", "more", "stretch", "heights", "kind", "many", "low", "found", "place", "at"]) (sc := defScope s_parts_of) (by decide +kernel)) (fun _ _ _ _ _ => (pg_name (i := 3) sc_parts_of.nd rfl (by first | exact Or.inl rfl | exact Or.inr rfl))) (fun _ _ _ _ _ => pts_nil) (fun _ _ _ _ _ => (pe_tup (pa_cons pe_int (pa_cons pe_int pa_nil))))))) pss_nil)
        (pss_cons (ps_set (i := 4) sc_parts_of.nd rfl (by first | exact Or.inl rfl | exact Or.inr rfl) (pe_lst (pa_cons pe_int pa_nil)))
        (pss_cons (ps_for PassesOwn.never rfl (pi_list (pv 0)) (pg_tup (n := 2) rfl (pgs_cons (pg_name (i := 5) sc_parts_of.nd rfl (by first | exact Or.inl rfl | exact Or.inr rfl)) (pgs_cons (pg_name (i := 6) sc_parts_of.nd rfl (by first | exact Or.inl rfl | exact Or.inr rfl)) pgs_nil)))
          (pss_one (ps_expr (pe_bm PySem.F.plainAttrs_list PySem.F.slot_list_append PySem.F.type_list_append mt_append (pv 4) (pa_cons (pe_op op_add (pe_ix ix_list (pv 4) (pe_un un_neg pe_int) (fun _ _ => rfl)) (pe_ifExp (pt_cmpR op_eq (pv 5) pe_str (nomark _)) (pv 6) (pe_op op_mulX (pe_un un_neg (pv 1)) (pv 6)))) pa_nil)))))
        (pss_cons (ps_set (i := 7) sc_parts_of.nd rfl (by first | exact Or.inl rfl | exact Or.inr rfl) (pe_op op_add (pe_callB (cr_min rfl) (by rfl) T.m_min (by decide +kernel) (pa_cons (pe_slice sl_list (pv 4) (po_some pe_int) po_none) pa_nil)) (pv 2)))
        (pss_cons (ps_set (i := 8) sc_parts_of.nd rfl (by first | exact Or.inl rfl | exact Or.inr rfl) (pe_lst pa_nil))
        (pss_cons (ps_set (i := 9) sc_parts_of.nd rfl (by first | exact Or.inl rfl | exact Or.inr rfl) (pe_c (c_whole_of T) hr (by decide) (by rfl) (pa_cons (pv 0) pa_nil)))
        (pss_cons (ps_for PassesOwn.never rfl (pi_range3 rfl T.m_range (pa_cons (pe_op op_sub (pe_callB cr_len (by rfl) T.m_len (by decide +kernel) (pa_cons (pv 0) pa_nil)) pe_int) (pa_cons (pe_un un_neg pe_int) (pa_cons (pe_un un_neg pe_int) pa_nil)))) (pg_name (i := 10) sc_parts_of.nd rfl (by first | exact Or.inl rfl | exact Or.inr rfl))
          (pss_cons (ps_asg (pe_ix ix_list (pv 0) (pv 10) (fun _ _ => rfl)) (pg_tup (n := 2) rfl (pgs_cons (pg_name (i := 5) sc_parts_of.nd rfl (by first | exact Or.inl rfl | exact Or.inr rfl)) (pgs_cons (pg_name (i := 6) sc_parts_of.nd rfl (by first | exact Or.inl rfl | exact Or.inr rfl)) pgs_nil))))
          (pss_cons (ps_aug (i := 9) sc_parts_of.nd rfl (by first | exact Or.inl rfl | exact Or.inr rfl) (pv 6) ip_sub)
          (pss_cons (ps_set (i := 7) sc_parts_of.nd rfl (by first | exact Or.inl rfl | exact Or.inr rfl) (pe_callB (cr_min2 rfl) (by rfl) T.m_min (by decide +kernel) (pa_cons (pv 7) (pa_cons (pe_ix ix_list (pv 4) (pe_op op_add (pv 10) pe_int) (fun _ _ => rfl)) pa_nil))))
          (pss_one (ps_expr (pe_bm PySem.F.plainAttrs_list PySem.F.slot_list_append PySem.F.type_list_append mt_append (pv 8) (pa_cons (pe_tup (pa_cons (pv 9) (pa_cons (pe_ifExp (pt_cmpR op_eq (pv 5) pe_str (nomark _)) (pe_callB (cr_min2 rfl) (by rfl) T.m_min (by decide +kernel) (pa_cons (pv 6) (pa_cons (pe_callB (cr_max2 rfl) (by rfl) T.m_max (by decide +kernel) (pa_cons pe_int (pa_cons (pe_op op_sub (pv 7) (pe_ix ix_list (pv 4) (pv 10) (fun _ _ => rfl))) pa_nil))) pa_nil))) pe_int) pa_nil))) pa_nil))))))))
        (pss_one (ps_ret (pe_revL (pv 8)))))))))))), ?_⟩
  refine at_start (σ := [some (.ref a), some (.int t), none, none, none, none, none, none, none, none, none]) rfl ?_; simp only [kx, kx', kb, mx, mx']
  walk_at "rd"
  refine ⟨a, r, t, rfl, hR, ok, ht, fun H1 e1 => ?_⟩
  walk_at "rd"
  have hR1 := hR.ex e1
  obtain ⟨vs, hvs, lvs⟩ := hR1.lst
  refine iteD (fun c => ?_) (fun c => ?_)
  · walk_at "rd"
    refine r_atL (.of hvs) ?_
    refine lcK_out (K := K) (walk_list (xs := vs)) (List.replicate r.length (V.int 0, V.int 0)) (by simp [lvs]) (fun H' e => exL e (.of hvs)) (by omega) (fun _ => rfl) (fun i x y _ hy H2 e2 Q1 k1 => ?_) fun p H2 n2 e2 hp => ?_
    · have ey : y = (V.int 0, V.int 0) := by
        rw [List.getElem?_replicate] at hy
        split at hy
        · exact (Option.some.inj hy).symm
        · cases hy
      subst ey
      walk_at "rd"
      exact r_mkU (by show 2 ≤ sizeLine; decide) fun q H3 n3 e3 h3 => k1 q H3 e3 h3
    · refine k p H2 (exT e2 e1) (.inl ⟨by omega, ?_⟩)
      unfold PartsAt
      rw [List.map_replicate]
      exact hp
  walk_at "rd"
  refine r_mkL (by show 1 ≤ sizeLine; decide) fun hq H2 n2 e2 h2 => ?_
  walk_at "rd"
  refine forK_ring H1 hR1 (fun n σ' H' => ∃ x y, σ' = [some (.ref a), some (.int t), some (.int (hgt t r)), none, some (.ref hq), x, y, none, none, none, none] ∧ Ex H1 H' ∧ H' hq = some (.lst ((hgts t (r.take n)).map V.int)))
    ⟨none, none, rfl, e2, h2⟩ (fun n σ' H' ⟨_, _, _, e, _⟩ => e) ?_ ?_
  · rintro n kk m σ' H' hn ⟨x, y, rfl, e, hh⟩
    have hln : n < r.length := (List.getElem?_eq_some_iff.mp hn).1
    have m1 := ok.pos _ (List.mem_of_getElem? hn)
    have m2 := ok.lim _ (List.mem_of_getElem? hn)
    dsimp only at m1 m2
    walk_at "rd"
    refine r_app1 hh ?_
    walk_at "rd"
    refine r_ixL (SqL.of hh) (hgts_last_at _ _) ?_
    walk_at "rdI"
    rw [kS_a]
    cases kk
    · walk_at "rd"
      refine r_I (mulx_60 (by omega) (by omega)) ?_
      walk_at "rd"
      refine r_app2 hh (Evl.sz_lt (by rw [List.length_map, hgts_len, List.length_take]; omega)) ?_
      refine ⟨_, _, rfl, exM e n2, ?_⟩
      rw [upd_same, hgts_snoc hn, List.map_append]
      rfl
    · walk_at "rd"
      refine r_app2 hh (Evl.sz_lt (by rw [List.length_map, hgts_len, List.length_take]; omega)) ?_
      refine ⟨_, _, rfl, exM e n2, ?_⟩
      rw [upd_same, hgts_snoc hn, List.map_append]
      rfl
  rintro σ' H3 ⟨x5, x6, rfl, e3, hh⟩
  rw [List.take_length] at hh
  walk_at "rd"
  refine r_slL (.of hh) fun hs H4 n4 e4 h4 => ?_
  rw [show cutV ((hgts t r).map V.int) (some 1) none = ((hgts t r).drop 1).map V.int from (cut_from _ 1).trans (List.map_drop).symm] at h4
  walk_at "rd"
  refine r_minL (.of h4) (by rw [List.length_drop, hgts_len]; omega) fun b b1 b2 => ?_
  walk_at "rd"
  have u : Up t r b := ⟨ok, ht.1, by omega, hgts_tail_mem.mp b1, fun i h1 h2 => b2 _ (hgts_tail_mem.mpr ⟨i, h1, h2, rfl⟩)⟩
  refine r_mkL (by decide) fun q H5 n5 e5 h5 => ?_
  walk_at "rd"
  have hR4 : RingAt K H4 a r := hR1.ex (exT e4 e3)
  refine ⟨a, r, rfl, hR4.ex e5, by omega, fun H6 e6 => ?_⟩
  walk_at "rd"
  obtain ⟨ws, hws, lws⟩ := hR4.lst
  refine r_rng3 ?_
  walk_at "rd"
  refine r_len (.of (e6 _ _ (e5 _ _ hws))) lws ?_
  walk_at "rd"
  refine r_rng3b (n := r.length) rfl (by omega) ?_
  refine forK_rngC (fun n σ' H' => ∃ x5 x6 x10, σ' = [some (.ref a), some (.int t), some (.int (hgt t r)), none, some (.ref hq), x5, x6, some (.int (lwk t r (b + hgt t r) n)), some (.ref q), some (.int (size (r.take (r.length - n)))), x10] ∧ n ≤ r.length ∧ Ex H4 H' ∧ PartsAt K H' q (((partsM t r b).drop (r.length - n)).reverse))
    ⟨_, _, _, by rw [Nat.sub_zero, List.take_length]; rfl, Nat.zero_le _, exT e6 e5, by
      rw [Nat.sub_zero, List.drop_of_length_le (by rw [partsM_len]; exact Nat.le_refl _)]
      exact PairsAt.nil (e6 _ _ h5)⟩ ?_ ?_
  · rintro i σ' H7 hi ⟨x5, x6, x10, rfl, _, e7, hq7⟩
    obtain ⟨j, hj⟩ : ∃ j, r.length = j + 1 + i := ⟨r.length - 1 - i, by omega⟩
    obtain ⟨x, hx⟩ : ∃ x, r[j]? = some x := ⟨_, List.getElem?_eq_getElem (by omega)⟩
    rw [show r.length - i = j + 1 by omega] at hq7 ⊢
    rw [show (r.length : Int) - 1 + (i : Int) * -1 = (j : Int) by omega]
    have hh7 : H7 hq = some (.lst ((hgts t r).map V.int)) := e7 _ _ (e4 _ _ hh)
    obtain ⟨us, p, g1, g2, g3⟩ := (hR4.ex e7).at hx
    walk_at "rd"
    refine r_ixL g1 g2 ?_
    walk_at "rd"
    refine r_ixL (.of hh7) (show atI ((hgts t r).map V.int) ((j : Int) + 1) = some (.int (hgt t (r.take (j + 1)))) from hgts_ix (j := j + 1) (by omega)) ?_
    walk_at "rd"
    obtain ⟨fs, hf, lf⟩ := hq7.lst
    refine r_app1 hf ?_
    walk_at "rd"
    have el : min (lwk t r (b + hgt t r) i) (hgt t (r.take (j + 1))) = lwk t r (b + hgt t r) (i + 1) := by
      rw [lwk, show r.length - i = j + 1 by omega]
    have el2 : lwk t r (b + hgt t r) (i + 1) = lw t r (b + hgt t r) j := by
      unfold lw
      rw [show r.length - j = i + 1 by omega]
    have es : size (r.take (j + 1)) - x.2 = size (r.take j) := by
      rw [size_take hx]
      omega
    rw [el, el2, es]
    have fin : ∀ (H8 : Hp) (p : Addr), Ex H7 H8 → H8 p = some (.tup [.int (size (r.take j)), .int (cnt1 t r (b + hgt t r) j x)]) → ∃ vs', H8 q = some (.lst vs') ∧ vs'.length < sizeLine ∧ Ex H4 (upd H8 q (.lst (vs' ++ [.ref p]))) ∧ PartsAt K (upd H8 q (.lst (vs' ++ [.ref p]))) q (((partsM t r b).drop (r.length - (i + 1))).reverse) := fun H8 p e8 hp => by
      refine ⟨fs, e8 _ _ hf, Evl.sz_lt (by rw [lf, List.length_reverse, List.length_drop, partsM_len]; omega), exM (exT e8 e7) n5, ?_⟩
      rw [show r.length - (i + 1) = j by omega, partsM_drop hx]
      exact (hq7.ex e8).snoc (e8 _ _ hf) hp
    refine r_val (.int (cnt1 t r (b + hgt t r) j x)) (fun R z => r_if ?_) ?_
    · walk_at "rd"
      rw [kS_a]
      unfold cnt1 at z
      cases ex : x.1
      · rw [ex] at z
        walk_at "rd"
        exact z
      · rw [ex] at z
        walk_at "rd"
        refine r_ixL (.of hh7) (hgts_ix (j := j) (by omega)) ?_
        walk_at "rd"
        exact z
    · walk_at "rd"
      refine r_mkU (by show 2 ≤ sizeLine; decide) fun p2 H8 n8 e8 h8 => ?_
      obtain ⟨vs', f1, f2, f3, f4⟩ := fin H8 p2 e8 h8
      walk_at "rd"
      refine r_app2 f1 f2 ?_
      refine ⟨some (.str (kS x.1)), some (.int x.2), some (.int (j : Int)), ?_, by omega, f3, f4⟩
      rw [show r.length - (i + 1) = j by omega]
  · rintro σ' H7 ⟨x5, x6, x10, rfl, _, e7, hq7⟩
    rw [Nat.sub_self, List.drop_zero] at hq7
    obtain ⟨fs, hf, lf⟩ := hq7.lst
    walk_at "rd"
    refine r_rev ?_
    walk_at "rd"
    refine r_revL (.of hf) fun l H8 n8 e8 h8 => ?_
    have z := (hq7.ex e8).rev (e8 _ _ hf) h8
    rw [List.reverse_reverse] at z
    exact k l H8 (exT e8 (exT e7 (exT e4 (exT e3 e1)))) (.inr ⟨b, u, z⟩)
def unii (f : Int × Int → V) : V × V → V
  | (.int a, .int b) => f (a, b)
  | _ => .non
theorem forK_parts {a : Addr} {ps : List (Int × Int)} {i j : Nat} {tb : TS} {nx : L2.St → Hp → Prop} {rt : VK} {bk ct : L2.St → Hp → Prop} {σ : L2.St} {H : Hp} (H0 : Hp) (h0 : PartsAt K H0 a ps) (Pv : Nat → L2.St → Hp → Prop) (p0 : Pv 0 σ H)
    (hx : ∀ n σ' H', Pv n σ' H' → Ex H0 H')
    (hs : ∀ n x y σ' H', ps[n]? = some (x, y) → Pv n σ' H' → tb ⟨Pv (n + 1), rt, nx, Pv (n + 1)⟩ ((σ'.set i (some (.int x))).set j (some (.int y))) H')
    (hd : ∀ σ' H', Pv ps.length σ' H' → nx σ' H') : ∃ a', V.ref a = .ref a' ∧ (∃ xs, SqL K H a' xs) ∧ ForK (gPair K i j) tb ⟨nx, rt, bk, ct⟩ σ (Itl K a') H := by
  refine forK_pairs H0 h0 Pv p0 hx (fun n x σ' H' hn p => ?_) (fun σ' H' p => hd σ' H' (by rw [List.length_map] at p; exact p))
  rw [List.getElem?_map] at hn
  cases e : ps[n]? with
  | none => rw [e] at hn; cases hn
  | some y =>
    rw [e] at hn
    cases hn
    exact hs n y.1 y.2 σ' H' e p
theorem lcK_parts {a : Addr} {ps : List (Int × Int)} {te : TE} {i j : Nat} {ws : List Nat} {σ : L2.St} {H : Hp} {Q : VK} (f : Int × Int → V) (h0 : PartsAt K H a ps) (hz : ps.length ≤ 40000)
    (hw : ∀ x y, wipe (((wipe σ ws).set i (some x)).set j (some y)) ws = wipe σ ws)
    (he : ∀ x y, (x, y) ∈ ps → ∀ H1, Ex H H1 → ∀ Q : VK, (∀ H2, Ex H1 H2 → Q (f (x, y)) H2) → te (((wipe σ ws).set i (some (.int x))).set j (some (.int y))) H1 Q)
    (q : ∀ p H', H p = none → Ex H H' → H' p = some (.lst (ps.map f)) → Q (.ref p) H') : ∃ a', V.ref a = .ref a' ∧ (∃ xs, SqL K H a' xs) ∧ LcK (gPair K i j) tYes te ws σ Q (Itl K a') H := by
  have em : (ps.map iiV).map (unii f) = ps.map f := by
    rw [List.map_map]
    exact List.map_congr_left fun x _ => rfl
  refine lcK_pairs (unii f) h0 (by rw [List.length_map]; exact hz) hw (fun x hx H1 e1 Q1 k1 => ?_) (fun p H' n e h => q p H' n e (by rw [h, em]))
  obtain ⟨y, hy, rfl⟩ := List.mem_map.mp hx
  exact he y.1 y.2 hy H1 e1 Q1 fun H2 e2 => k1 H2 e2
theorem Low.one {t : Int} {r : Ring} {b b' : Int} (h : Low t r b) (h' : Low t r b') : b = b' := by
  obtain ⟨i, i1, i2, rfl⟩ := h.at_
  obtain ⟨j, j1, j2, rfl⟩ := h'.at_
  have z1 := h.le j j1 j2
  have z2 := h'.le i i1 i2
  omega
def sp_starts (K : PySem.W.Frag) : Sp := fun vs H Q _ => ∃ (a : Addr) (r : Ring) (t : Int), vs = [.ref a, .int t] ∧ RingAt K H a r ∧ Ok r ∧ Tm t ∧ ∀ H', Ex H H' → Q (.int (max 0 (hgt t r))) H'
theorem c_starts (T : Txt K mg) : Cal P w K mg base 4 "starts" (sp_starts K) := by
  refine cal T.d_starts sc_starts (by rintro vs H Q E ⟨_, _, _, rfl, _⟩; rfl) (fun f cdv A outer s H vs Q E hr h => ?_)
  obtain ⟨a, r, t, rfl, hR, ok, ht, k⟩ := h
  refine ⟨_, (pss_cons (ps_expr (pe_c (c_check_ring T) hr (by decide) (by rfl) (pa_cons (pv 0) pa_nil)))
        (pss_cons (ps_expr (pe_c (c_check_times T) hr (by decide) (by rfl) (pa_cons (pv 1) pa_nil)))
        (pss_one (ps_ret (pe_callB (cr_max2 rfl) (by rfl) T.m_max (by decide +kernel) (pa_cons pe_int (pa_cons (pe_c (c_more_of T) hr (by decide) (by rfl) (pa_cons (pv 0) (pa_cons (pv 1) pa_nil))) pa_nil))))))), ?_⟩
  refine at_start (σ := [some (.ref a), some (.int t)]) rfl ?_; simp only [kx, kx', kb, mx, mx']
  walk_at "rd"
  refine ⟨a, r, rfl, hR, ok, fun H1 e1 => ?_⟩
  walk_at "rd"
  refine ⟨t, rfl, ht.1, fun H2 e2 => ?_⟩
  walk_at "rd"
  refine ⟨a, r, t, rfl, hR.ex (exT e2 e1), ok, ht, fun H3 e3 => ?_⟩
  walk_at "rd"
  exact k H3 (exT e3 (exT e2 e1))
def sp_start_at (K : PySem.W.Frag) : Sp := fun vs H Q _ => ∃ (a : Addr) (r : Ring) (t n : Int), vs = [.ref a, .int t, .int n] ∧ RingAt K H a r ∧ Ok r ∧ Tm t ∧ 0 ≤ n ∧ n < hgt t r ∧
  ∀ b p H', Ex H H' → Up t r b → PlaceOf t r b p (min 0 b + n) → Q (.int p) H'
theorem c_start_at (T : Txt K mg) : Cal P w K mg base 4 "start_at" (sp_start_at K) := by
  refine cal T.d_start_at sc_start_at (by rintro vs H Q E ⟨_, _, _, _, rfl, _⟩; rfl) (fun f cdv A outer s H vs Q E hr h => ?_)
  obtain ⟨a, r, t, n, rfl, hR, ok, ht, n0, n1, k⟩ := h
  refine ⟨_, (pss_cons (ps_expr (pe_c (c_check_ring T) hr (by decide) (by rfl) (pa_cons (pv 0) pa_nil)))
        (pss_cons (ps_expr (pe_c (c_check_times T) hr (by decide) (by rfl) (pa_cons (pv 1) pa_nil)))
        (pss_cons (ps_if (PW.pt (pw_or (pt_not (pt_val (pe_c (c_is_whole T) hr (by decide) (by rfl) (pa_cons (pv 2) pa_nil)))) (pw_or1 (pt_not (pt_chain op_le op_lt pe_int (pv 2) (pe_c (c_more_of T) hr (by decide) (by rfl) (pa_cons (pv 0) (pa_cons (pv 1) pa_nil)))))))) (pss_one ps_never) pss_nil)
        (pss_cons (ps_set (i := 3) sc_start_at.nd rfl (by first | exact Or.inl rfl | exact Or.inr rfl) pe_int)
        (pss_cons (ps_for PassesOwn.never rfl (pi_list (pe_c (c_parts_of T) hr (by decide) (by rfl) (pa_cons (pv 0) (pa_cons (pv 1) pa_nil)))) (pg_tup (n := 2) rfl (pgs_cons (pg_name (i := 4) sc_start_at.nd rfl (by first | exact Or.inl rfl | exact Or.inr rfl)) (pgs_cons (pg_name (i := 5) sc_start_at.nd rfl (by first | exact Or.inl rfl | exact Or.inr rfl)) pgs_nil)))
          (pss_cons (ps_if (pt_chain op_le op_lt pe_int (pv 2) (pv 5)) (pss_one (ps_set (i := 3) sc_start_at.nd rfl (by first | exact Or.inl rfl | exact Or.inr rfl) (pe_op op_add (pv 4) (pv 2)))) pss_nil)
          (pss_one (ps_aug (i := 2) sc_start_at.nd rfl (by first | exact Or.inl rfl | exact Or.inr rfl) (pv 5) ip_sub))))
        (pss_one (ps_ret (pv 3)))))))), ?_⟩
  refine at_start (σ := [some (.ref a), some (.int t), some (.int n), none, none, none]) rfl ?_; simp only [kx, kx', kb, mx, mx']
  walk_at "rd"
  refine ⟨a, r, rfl, hR, ok, fun H1 e1 => ?_⟩
  walk_at "rd"
  refine ⟨t, rfl, ht.1, fun H2 e2 => ?_⟩
  walk_at "rd"
  refine ⟨n, rfl, fun H3 e3 => ?_⟩
  walk_at "rd"
  have e13 := exT e3 (exT e2 e1)
  refine iteD (fun _ => ?_) (fun z => absurd n0 z)
  walk_at "rd"
  refine ⟨a, r, t, rfl, hR.ex e13, ok, ht, fun H4 e4 => ?_⟩
  walk_at "rd"
  refine iteN (fun z => absurd n1 z) (fun _ => ?_)
  walk_at "rd"
  have e14 := exT e4 e13
  refine ⟨a, r, t, rfl, hR.ex e14, ok, ht, fun p H5 e5 hp => ?_⟩
  rcases hp with ⟨no, _⟩ | ⟨b, u, hp⟩
  · exact absurd no (by omega)
  have uf := u.first
  have ul := u.last
  refine forK_parts H5 hp (fun i σ' H' => ∃ pl x4 x5, σ' = [some (.ref a), some (.int t), some (.int (min 0 b + n - mm t r (b + hgt t r) i)), some (.int pl), x4, x5] ∧ Ex H5 H' ∧ (mm t r (b + hgt t r) i ≤ min 0 b + n ∨ (min 0 b + n < mm t r (b + hgt t r) i ∧ PlaceOf t r b pl (min 0 b + n))))
    ⟨0, _, _, by rw [uf, show min 0 b + n - min 0 b = n by omega], Evl.Ex.refl _, .inl (by omega)⟩ (fun i σ' H' ⟨_, _, _, _, e, _⟩ => e) ?_ ?_
  · rintro i y1 y2 σ' H6 hi ⟨pl, x4, x5, rfl, e6, inv⟩
    have hil := (List.getElem?_eq_some_iff.mp hi).1
    rw [partsM_len] at hil
    obtain ⟨x, hx⟩ : ∃ x, r[i]? = some x := ⟨_, List.getElem?_eq_getElem hil⟩
    rw [partsM_at hx] at hi
    cases hi
    have c := cnt1_eq u.t1 ok (B := b + hgt t r) hx
    have go : min 0 b + n - mm t r (b + hgt t r) i - cnt1 t r (b + hgt t r) i x = min 0 b + n - mm t r (b + hgt t r) (i + 1) := by omega
    have keep : ¬ (0 ≤ min 0 b + n - mm t r (b + hgt t r) i ∧ min 0 b + n - mm t r (b + hgt t r) i < cnt1 t r (b + hgt t r) i x) → (mm t r (b + hgt t r) (i + 1) ≤ min 0 b + n ∨ (min 0 b + n < mm t r (b + hgt t r) (i + 1) ∧ PlaceOf t r b pl (min 0 b + n))) := fun z => by
      rcases inv with q | ⟨q1, q2⟩
      · exact .inl (by omega)
      · exact .inr ⟨by omega, q2⟩
    walk_at "rd"
    refine iteD (fun g1 => ?_) (fun g1 => ?_)
    · walk_at "rd"
      refine iteD (fun g2 => ?_) (fun g2 => ?_)
      · walk_at "rd"
        rw [go]
        exact ⟨_, _, _, rfl, e6, .inr ⟨by omega, ⟨i, x, hx, by omega, by omega, rfl⟩⟩⟩
      · walk_at "rd"
        rw [go]
        exact ⟨_, _, _, rfl, e6, keep fun z => g2 z.2⟩
    · walk_at "rd"
      rw [go]
      exact ⟨_, _, _, rfl, e6, keep fun z => g1 z.1⟩
  · rintro σ' H6 ⟨pl, x4, x5, rfl, e6, inv⟩
    rw [partsM_len, ul] at inv
    walk_at "rd"
    rcases inv with q | ⟨_, q⟩
    · exact absurd q (by omega)
    · exact k b pl H6 (exT e6 (exT e5 e14)) u q
theorem parts_say {t : Int} {r : Ring} {b p : Int} (u : Up t r b) (h0 : 0 ≤ p) (h1 : p < size r) : ((partsM t r b).map fun y => decide (y.1 ≤ p ∧ p < y.1 + y.2)).any id = true ↔ EndsSay t r p := by
  rw [u.ends h0 h1, List.any_map, List.any_eq_true]
  constructor
  · rintro ⟨y, hy, hd⟩
    have hd' := of_decide_eq_true hd
    obtain ⟨j, hj⟩ := List.getElem?_of_mem hy
    have hn := (List.getElem?_eq_some_iff.mp hj).1
    rw [partsM_len] at hn
    obtain ⟨x, hx⟩ : ∃ x, r[j]? = some x := ⟨_, List.getElem?_eq_getElem hn⟩
    rw [partsM_at hx] at hj
    cases hj
    dsimp only at hd'
    have c := cnt1_eq u.t1 u.ok (B := b + hgt t r) hx
    have kx : x.1 = true := by
      cases e : x.1
      · have := c.2.2.2 e
        omega
      · rfl
    have e := hp_at (t := t) u.ok hx hd'.1 (by omega)
    rw [kx, if_pos rfl] at e
    rw [mm_next hn] at c
    unfold mm at c
    exact ⟨j, x, hx, kx, hd'.1, by omega, e, by omega⟩
  · rintro ⟨j, x, hx, kx, j0, j1, e, l⟩
    have hn := (List.getElem?_eq_some_iff.mp hx).1
    have c := cnt1_eq u.t1 u.ok (B := b + hgt t r) hx
    rw [mm_next hn] at c
    unfold mm at c
    refine ⟨_, List.mem_of_getElem? (partsM_at hx), ?_⟩
    show decide (size (r.take j) ≤ p ∧ p < size (r.take j) + cnt1 t r (b + hgt t r) j x) = true
    exact decide_eq_true ⟨j0, by omega⟩
def sp_is_start (K : PySem.W.Frag) : Sp := fun vs H Q _ => ∃ (a : Addr) (r : Ring) (t p : Int), vs = [.ref a, .int t, .int p] ∧ RingAt K H a r ∧ Ok r ∧ Tm t ∧ 0 ≤ p ∧ p < size r ∧ ∀ (b : Bool) H', Ex H H' → (b = true ↔ EndsSay t r p) → Q (.bl b) H'
theorem c_is_start (T : Txt K mg) : Cal P w K mg base 4 "is_start" (sp_is_start K) := by
  refine cal T.d_is_start sc_is_start (by rintro vs H Q E ⟨_, _, _, _, rfl, _⟩; rfl) (fun f cdv A outer s H vs Q E hr h => ?_)
  obtain ⟨a, r, t, p, rfl, hR, ok, ht, p0, p1, k⟩ := h
  have few := ok.few
  refine ⟨_, (pss_cons (ps_expr (pe_c (c_check_ring T) hr (by decide) (by rfl) (pa_cons (pv 0) pa_nil)))
        (pss_cons (ps_expr (pe_c (c_check_times T) hr (by decide) (by rfl) (pa_cons (pv 1) pa_nil)))
        (pss_cons (ps_expr (pe_c (c_check_place T) hr (by decide) (by rfl) (pa_cons (pv 0) (pa_cons (pv 2) pa_nil))))
        (pss_one (ps_ret (pe_callB (cr_any rfl) (by rfl) T.m_any (by decide +kernel) (pa_cons (pe_lc (own := [("first", 3), ("many", 4)]) (g := (gTup K 2 (gCons (gName 3) (gCons (gName 4) gNil)))) rfl sc_is_start.nd (pi_list (pe_c (c_parts_of T) hr (by decide) (by rfl) (pa_cons (pv 0) (pa_cons (pv 1) pa_nil)))) (blkOk_by (own := [("first", 3), ("many", 4)]) (N := ["ring", "times", "place", "first", "many"]) (sc := defScope s_is_start) (by decide +kernel)) (fun _ _ _ _ _ => (pg_tup (n := 2) rfl (pgs_cons (pg_name (i := 3) sc_is_start.nd rfl (by first | exact Or.inl rfl | exact Or.inr rfl)) (pgs_cons (pg_name (i := 4) sc_is_start.nd rfl (by first | exact Or.inl rfl | exact Or.inr rfl)) pgs_nil)))) (fun _ _ _ _ _ => pts_nil) (fun _ _ _ _ _ => (pe_chain op_le op_lt (pv 3) (pv 2) (pe_op op_add (pv 3) (pv 4))))) pa_nil))))))), ?_⟩
  refine at_start (σ := [some (.ref a), some (.int t), some (.int p), none, none]) rfl ?_; simp only [kx, kx', kb, mx, mx']
  walk_at "rd"
  refine ⟨a, r, rfl, hR, ok, fun H1 e1 => ?_⟩
  walk_at "rd"
  refine ⟨t, rfl, ht.1, fun H2 e2 => ?_⟩
  walk_at "rd"
  refine ⟨a, r, p, rfl, hR.ex (exT e2 e1), by omega, p0, p1, fun H3 e3 => ?_⟩
  walk_at "rd"
  have e13 := exT e3 (exT e2 e1)
  refine ⟨a, r, t, rfl, hR.ex e13, ok, ht, fun q H4 e4 hq => ?_⟩
  have one : ∃ ps : List (Int × Int), PartsAt K H4 q ps ∧ ps.length = r.length ∧ ((ps.map fun y => decide (y.1 ≤ p ∧ p < y.1 + y.2)).any id = true ↔ EndsSay t r p) := by
    rcases hq with ⟨no, hq⟩ | ⟨b, u, hq⟩
    · refine ⟨_, hq, by simp, ⟨fun z => ?_, fun z => absurd z (ends_none no)⟩⟩
      rw [List.map_replicate, show decide ((0, 0).fst ≤ p ∧ p < (0, 0).fst + (0, 0).snd) = false from decide_eq_false (by dsimp only; omega)] at z
      simp at z
    · exact ⟨_, hq, partsM_len _ _ _, parts_say u p0 p1⟩
  obtain ⟨ps, hps, lps, say⟩ := one
  refine lcK_parts (fun y => .bl (decide (y.1 ≤ p ∧ p < y.1 + y.2))) hps (by omega) (fun _ _ => rfl) (fun x y hm H5 e5 Q1 k1 => ?_) fun l H5 n5 e5 h5 => ?_
  · walk_at "rd"
    refine iteD (fun g1 => ?_) (fun g1 => ?_)
    · walk_at "rd"
      have z := k1 H5 (Evl.Ex.refl _)
      rw [show decide ((x, y).1 ≤ p ∧ p < (x, y).1 + (x, y).2) = decide (p < x + y) by simp [g1]] at z
      exact z
    · walk_at "rd"
      have z := k1 H5 (Evl.Ex.refl _)
      rw [show decide ((x, y).1 ≤ p ∧ p < (x, y).1 + (x, y).2) = false by simp [g1]] at z
      exact z
  · walk_at "rd"
    refine r_any (bs := ps.map fun y => decide (y.1 ≤ p ∧ p < y.1 + y.2)) (.of (by rw [List.map_map]; exact h5)) ?_
    exact k _ _ (exT e5 (exT e4 e13)) say
/-- beads of the kind a ahead of a place -/
def sp_law_ahead (K : PySem.W.Frag) : Sp := fun vs H Q _ => ∃ (t : Addr) (r : Ring) (p : Int), vs = [.ref t, .int p] ∧ TabAt K H t r ∧ (∀ x ∈ r, 1 ≤ x.2) ∧ 0 ≤ p ∧ ∀ H', Ex H H' → Q (.int (ahead r p)) H'
theorem c_law_ahead (T : Txt K mg) : Cal P w K mg base 1 "_law_ahead" (sp_law_ahead K) := by
  refine cal T.d__law_ahead sc_law_ahead (by rintro vs H Q E ⟨_, _, _, rfl, _⟩; rfl) (fun f cdv A outer s H vs Q E hr h => ?_)
  obtain ⟨t, r, p, rfl, ⟨e, s', ht, he, hs⟩, hpos, h0, k⟩ := h
  refine ⟨_, (pss_cons (ps_asg (pv 0) (pg_tup (n := 2) rfl (pgs_cons (pg_name (i := 2) sc_law_ahead.nd rfl (by first | exact Or.inl rfl | exact Or.inr rfl)) (pgs_cons (pg_name (i := 3) sc_law_ahead.nd rfl (by first | exact Or.inl rfl | exact Or.inr rfl)) pgs_nil))))
        (pss_cons (ps_par (i := 4) (j := 5) rfl sc_law_ahead.nd rfl rfl (by decide) rfl rfl (pa_cons pe_int (pa_cons (pe_callB cr_len (by rfl) T.m_len (by decide +kernel) (pa_cons (pv 2) pa_nil)) pa_nil)) rfl)
        (pss_cons (ps_while PassesOwn.never (pt_cmpR op_gt (pe_op op_sub (pv 5) (pv 4)) pe_int (nomark _))
          (pss_cons (ps_set (i := 6) sc_law_ahead.nd rfl (by first | exact Or.inl rfl | exact Or.inr rfl) (pe_op op_fdivW (pe_op op_add (pv 4) (pv 5)) pe_int))
          (pss_one (ps_if (pt_cmpR op_le (pe_ix ix_list (pv 2) (pv 6) (fun _ _ => rfl)) (pv 1) (nomark _)) (pss_one (ps_set (i := 4) sc_law_ahead.nd rfl (by first | exact Or.inl rfl | exact Or.inr rfl) (pv 6))) (pss_one (ps_set (i := 5) sc_law_ahead.nd rfl (by first | exact Or.inl rfl | exact Or.inr rfl) (pv 6)))))))
        (pss_cons (ps_if (PW.pt (pw_and (pt_cmpR op_lt (pv 5) (pe_callB cr_len (by rfl) T.m_len (by decide +kernel) (pa_cons (pv 2) pa_nil)) (nomark _)) (pw_and1 (pt_cmpR op_gt (pe_ix ix_list (pv 3) (pv 5) (fun _ _ => rfl)) (pe_ix ix_list (pv 3) (pv 4) (fun _ _ => rfl)) (nomark _))))) (pss_one (ps_ret (pe_op op_sub (pe_op op_add (pe_ix ix_list (pv 3) (pv 4) (fun _ _ => rfl)) (pv 1)) (pe_ix ix_list (pv 2) (pv 4) (fun _ _ => rfl))))) pss_nil)
        (pss_one (ps_ret (pe_ix ix_list (pv 3) (pv 4) (fun _ _ => rfl)))))))), ?_⟩
  refine at_start (σ := [some (.ref t), some (.int p), none, none, none, none, none]) rfl ?_; simp only [kx, kx', kb, mx, mx']
  walk_at "rd"
  refine r_len (n := r.length + 1) he (by rw [List.length_map, ends_len]) ?_
  walk_at "rd"
  refine r_while (fun m σ' H' => ∃ (lo hi : Nat) (x : Option V), σ' = [some (.ref t), some (.int p), some (.ref e), some (.ref s'), some (.int lo), some (.int hi), x] ∧ Ex H H' ∧ m = hi - lo ∧ lo < hi ∧ hi ≤ r.length + 1 ∧ size (r.take lo) ≤ p ∧ (hi ≤ r.length → p < size (r.take hi)))
    (r.length + 1) ⟨0, r.length + 1, none, rfl, Evl.Ex.refl _, by omega, by omega, by omega, by simpa [size] using h0, by omega⟩ ?_
  rintro m σ' H' ⟨lo, hi, x, rfl, ex, rfl, h1, h2, h3, h4⟩
  walk_at "rd"
  refine iteD (fun hc => ?_) (fun hc => ?_)
  · refine r_turn ?_
    walk_at "rd"
    refine r_I ⟨by decide, by decide⟩ ?_
    rw [show ((lo : Int) + (hi : Int)) / 2 = (((lo + hi) / 2 : Nat) : Int) by omega]
    walk_at "rd"
    refine r_ixL (exL ex he) (ends_ix (by omega)) ?_
    walk_at "rd"
    refine iteD (fun hm => ?_) (fun hm => ?_)
    · walk_at "rd"
      exact ⟨hi - (lo + hi) / 2, by omega, (lo + hi) / 2, hi, _, rfl, ex, rfl, by omega, h2, hm, h4⟩
    · walk_at "rd"
      exact ⟨(lo + hi) / 2 - lo, by omega, lo, (lo + hi) / 2, _, rfl, ex, rfl, by omega, by omega, h3, fun _ => by omega⟩
  · have e1 : hi = lo + 1 := by omega
    subst e1
    walk_at "rd"
    refine r_len (n := r.length + 1) (exL ex he) (by rw [List.length_map, ends_len]) ?_
    walk_at "rd"
    refine iteD (fun hl => ?_) (fun hl => ?_)
    · have hlt : lo < r.length := by omega
      have hx := List.getElem?_eq_getElem hlt
      have hp1 := hpos _ (List.getElem_mem hlt)
      have z1 := size_take hx
      have z2 := mine_take hx
      have z3 := ahead_at (p := p) hpos hx h3 (by have := h4 (by omega); omega)
      walk_at "rd"
      refine r_ixL (exL ex hs) (sums_ix (j := lo + 1) (by omega)) ?_
      walk_at "rd"
      refine r_ixL (exL ex hs) (sums_ix (j := lo) (by omega)) ?_
      walk_at "rd"
      refine iteD (fun hg => ?_) (fun hg => ?_)
      · walk_at "rd"
        refine r_ixL (exL ex hs) (sums_ix (j := lo) (by omega)) ?_
        walk_at "rd"
        refine r_ixL (exL ex he) (ends_ix (j := lo) (by omega)) ?_
        walk_at "rd"
        have z4 : (r[lo]).1 = true := by
          cases q : (r[lo]).1
          · rw [q] at z2; simp at z2; omega
          · rfl
        rw [z4, if_pos rfl] at z3
        rw [show mine (r.take lo) + p - size (r.take lo) = ahead r p by omega]
        exact k _ ex
      · walk_at "rd"
        refine r_ixL (exL ex hs) (sums_ix (j := lo) (by omega)) ?_
        have z4 : (r[lo]).1 = false := by
          cases q : (r[lo]).1
          · rfl
          · rw [q] at z2; simp at z2; omega
        rw [z4] at z3
        rw [show mine (r.take lo) = ahead r p by simp at z3; omega]
        exact k _ ex
    · have e2 : lo = r.length := by omega
      subst e2
      rw [List.take_length] at h3
      walk_at "rd"
      refine r_ixL (exL ex hs) (sums_ix (j := r.length) (by omega)) ?_
      rw [List.take_length, ← ahead_all hpos h3]
      exact k _ ex
def sp_law_along (K : PySem.W.Frag) : Sp := fun vs H Q _ => ∃ (t : Addr) (r : Ring) (p n : Int), vs = [.ref t, .int p, .int n] ∧ TabAt K H t r ∧ Ok r ∧ 0 ≤ p ∧ p < size r ∧ 0 ≤ n ∧ n ≤ 100000000000000000000000000000000000000000000000000000000000 ∧ ∀ H', Ex H H' → Q (.int (among r p n)) H'
theorem c_law_along (T : Txt K mg) : Cal P w K mg base 2 "_law_along" (sp_law_along K) := by
  refine cal T.d__law_along sc_law_along (by rintro vs H Q E ⟨_, _, _, _, rfl, _⟩; rfl) (fun f cdv A outer s H vs Q E hr h => ?_)
  obtain ⟨t, r, p, n, rfl, hT, ok, h0, h1, h2, h3, k⟩ := h
  obtain ⟨e, s', ht, he, hs⟩ := id hT
  have z1 := ok.size_pos
  have z2 := ok.size_lt
  have z3 := mine_le r ok.pos
  have z4 : 0 ≤ (p + n) / size r := Int.ediv_nonneg (by omega) (by omega)
  have z5 : (p + n) / size r ≤ p + n := Int.ediv_le_self _ (by omega)
  have z6 : 0 ≤ (p + n) % size r := Int.emod_nonneg _ (by omega)
  refine ⟨_, (pss_cons (ps_set (i := 3) sc_law_along.nd rfl (by first | exact Or.inl rfl | exact Or.inr rfl) (pe_ix ix_list (pe_ix ix_tup (pv 0) pe_int (fun _ _ => rfl)) (pe_un un_neg pe_int) (fun _ _ => rfl)))
        (pss_cons (ps_par (i := 4) (j := 5) rfl sc_law_along.nd rfl rfl (by decide) rfl rfl (pa_cons (pe_op op_fdivW (pe_op op_add (pv 1) (pv 2)) (pv 3)) (pa_cons (pe_op op_mod (pe_op op_add (pv 1) (pv 2)) (pv 3)) pa_nil)) rfl)
        (pss_one (ps_ret (pe_op op_sub (pe_op op_add (pe_op op_mulX (pv 4) (pe_ix ix_list (pe_ix ix_tup (pv 0) pe_int (fun _ _ => rfl)) (pe_un un_neg pe_int) (fun _ _ => rfl))) (pe_c (c_law_ahead T) hr (by decide) (by rfl) (pa_cons (pv 0) (pa_cons (pv 5) pa_nil)))) (pe_c (c_law_ahead T) hr (by decide) (by rfl) (pa_cons (pv 0) (pa_cons (pv 1) pa_nil)))))))), ?_⟩
  refine at_start (σ := [some (.ref t), some (.int p), some (.int n), none, none, none]) rfl ?_; simp only [kx, kx', kb, mx, mx']
  walk_at "rd"
  refine r_ixT (i := 0) (v := .ref e) ht rfl ?_
  walk_at "rd"
  refine r_ixL he (ends_last_at _) ?_
  walk_at "rd"
  refine r_I (divw_60 (by omega) (by omega)) ?_
  walk_at "rd"
  refine r_I (show 0 < size r by omega) ?_
  walk_at "rd"
  refine r_ixT (i := 1) (v := .ref s') ht rfl ?_
  walk_at "rd"
  refine r_ixL hs (sums_last_at _) ?_
  walk_at "rd"
  refine r_I (mulx_60 (by omega) (by omega)) ?_
  walk_at "rd"
  refine ⟨t, r, _, rfl, hT, ok.pos, z6, fun H1 e1 => ?_⟩
  walk_at "rd"
  refine ⟨t, r, _, rfl, hT.ex e1, ok.pos, h0, fun H2 e2 => ?_⟩
  walk_at "rd"
  rw [← among_in h0 h1]
  exact k _ (exT e2 e1)
def sp_law_surplus (K : PySem.W.Frag) : Sp := fun vs H Q _ => ∃ (tb : Addr) (r : Ring) (t : Int), vs = [.ref tb, .int t] ∧ TabAt K H tb r ∧ Ok r ∧ 1 ≤ t ∧ t ≤ 100000000000000000000000000000000000000000000000000000000000 ∧ ∀ H', Ex H H' → Q (.int (hgt t r)) H'
theorem c_law_surplus (T : Txt K mg) : Cal P w K mg base 1 "_law_surplus" (sp_law_surplus K) := by
  refine cal T.d__law_surplus sc_law_surplus (by rintro vs H Q E ⟨_, _, _, rfl, _⟩; rfl) (fun f cdv A outer s H vs Q E hr h => ?_)
  obtain ⟨tb, r, t, rfl, hT, ok, h0, h1, k⟩ := h
  have few := ok.few
  have W1 := ok.size_lt
  have m := mine_le r ok.pos
  obtain ⟨p, q, z1, z2, z3⟩ := hT
  refine ⟨_, (pss_one (ps_ret (pe_op op_sub (pe_ix ix_list (pe_ix ix_tup (pv 0) pe_int (fun _ _ => rfl)) (pe_un un_neg pe_int) (fun _ _ => rfl)) (pe_op op_mulX (pv 1) (pe_op op_sub (pe_ix ix_list (pe_ix ix_tup (pv 0) pe_int (fun _ _ => rfl)) (pe_un un_neg pe_int) (fun _ _ => rfl)) (pe_ix ix_list (pe_ix ix_tup (pv 0) pe_int (fun _ _ => rfl)) (pe_un un_neg pe_int) (fun _ _ => rfl))))))), ?_⟩
  refine at_start (σ := [some (.ref tb), some (.int t)]) rfl ?_; simp only [kx, kx', kb, mx, mx']
  walk_at "rd"
  refine r_ixT (i := 1) (v := .ref q) z1 rfl ?_
  walk_at "rd"
  refine r_ixL z3 (sums_last_at r) ?_
  walk_at "rd"
  refine r_ixT (i := 0) (v := .ref p) z1 rfl ?_
  walk_at "rd"
  refine r_ixL z2 (ends_last_at r) ?_
  walk_at "rd"
  refine r_ixT (i := 1) (v := .ref q) z1 rfl ?_
  walk_at "rd"
  refine r_ixL z3 (sums_last_at r) ?_
  walk_at "rd"
  refine r_I (mulx_60 (by omega) (by omega)) ?_
  walk_at "rd"
  rw [surplus_eq]
  exact k _ (Evl.Ex.refl _)
def sp_law_is_start (K : PySem.W.Frag) : Sp := fun vs H Q _ => ∃ (tb : Addr) (r : Ring) (t p : Int), vs = [.ref tb, .int t, .int p] ∧ TabAt K H tb r ∧ Ok r ∧ 1 ≤ t ∧ t ≤ 100000000000000000000000000000000000000000000000000000000000 ∧ 0 ≤ p ∧ p < size r ∧
  ∀ (b : Bool) H', Ex H H' → (b = true ↔ EndsSay t r p) → Q (.bl b) H'
theorem c_law_is_start (T : Txt K mg) : Cal P w K mg base 3 "_law_is_start" (sp_law_is_start K) := by
  refine cal T.d__law_is_start sc_law_is_start (by rintro vs H Q E ⟨_, _, _, _, rfl, _⟩; rfl) (fun f cdv A outer s H vs Q E hr h => ?_)
  obtain ⟨tb, r, t, p, rfl, hT, ok, h0, h1, p0, p1, k⟩ := h
  have few := ok.few
  have W1 := ok.size_lt
  have m := mine_le r ok.pos
  have ar := ahead_range (p := p) ok.pos p0
  obtain ⟨e, s', z1, z2, z3⟩ := id hT
  refine ⟨_, (pss_cons (ps_asg (pv 0) (pg_tup (n := 2) rfl (pgs_cons (pg_name (i := 3) sc_law_is_start.nd rfl (by first | exact Or.inl rfl | exact Or.inr rfl)) (pgs_cons (pg_name (i := 4) sc_law_is_start.nd rfl (by first | exact Or.inl rfl | exact Or.inr rfl)) pgs_nil))))
        (pss_cons (ps_set (i := 5) sc_law_is_start.nd rfl (by first | exact Or.inl rfl | exact Or.inr rfl) (pe_c (c_law_surplus T) hr (by decide) (by rfl) (pa_cons (pv 0) (pa_cons (pv 1) pa_nil))))
        (pss_cons (ps_set (i := 6) sc_law_is_start.nd rfl (by first | exact Or.inl rfl | exact Or.inr rfl) (pe_op op_sub (pe_op op_mulX (pe_op op_add (pv 1) pe_int) (pe_c (c_law_ahead T) hr (by decide) (by rfl) (pa_cons (pv 0) (pa_cons (pv 2) pa_nil)))) (pe_op op_mulX (pv 1) (pv 2))))
        (pss_cons (ps_if (PW.pt (pw_or (pt_cmpR op_lt (pv 5) pe_int (nomark _)) (pw_or1 (pt_cmpR op_eq (pe_c (c_law_along T) hr (by decide) (by rfl) (pa_cons (pv 0) (pa_cons (pv 2) (pa_cons pe_int pa_nil)))) pe_int (nomark _))))) (pss_one (ps_ret pe_bl)) pss_nil)
        (pss_cons (ps_for PassesOwn.never rfl (pi_zip (by rfl) T.m_zip (pa_cons (pv 3) (pa_cons (pv 4) pa_nil))) (pg_tup (n := 2) rfl (pgs_cons (pg_name (i := 7) sc_law_is_start.nd rfl (by first | exact Or.inl rfl | exact Or.inr rfl)) (pgs_cons (pg_name (i := 8) sc_law_is_start.nd rfl (by first | exact Or.inl rfl | exact Or.inr rfl)) pgs_nil)))
          (pss_cons (ps_set (i := 9) sc_law_is_start.nd rfl (by first | exact Or.inl rfl | exact Or.inr rfl) (pe_op op_sub (pe_op op_mulX (pe_op op_add (pv 1) pe_int) (pv 8)) (pe_op op_mulX (pv 1) (pv 7))))
          (pss_one (ps_if (pt_cmpR op_le (pe_op op_add (pv 9) (pe_ifExp (pt_cmpR op_gt (pv 7) (pv 2) (nomark _)) pe_int (pv 5))) (pv 6) (nomark _)) (pss_one (ps_ret pe_bl)) pss_nil))))
        (pss_one (ps_ret pe_bl))))))), ?_⟩
  refine at_start (σ := [some (.ref tb), some (.int t), some (.int p), none, none, none, none, none, none, none]) rfl ?_; simp only [kx, kx', kb, mx, mx']
  walk_at "rd"
  refine ⟨tb, r, t, rfl, hT, ok, h0, h1, fun H1 e1 => ?_⟩
  walk_at "rd"
  refine ⟨tb, r, p, rfl, hT.ex e1, ok.pos, p0, fun H2 e2 => ?_⟩
  refine r_I (mulx_60 (by omega) (by omega)) ?_
  walk_at "rd"
  refine r_I (mulx_60 (by omega) (by omega)) ?_
  walk_at "rd"
  have e12 := exT e2 e1
  refine iteD (fun c => ?_) (fun c => ?_)
  · walk_at "rd"
    exact k false H2 e12 ⟨fun z => (nomatch z), fun g => absurd g.1 (by omega)⟩
  walk_at "rd"
  refine ⟨tb, r, p, 1, rfl, hT.ex e12, ok, p0, p1, by decide, by decide, fun H3 e3 => ?_⟩
  walk_at "rd"
  have e13 := exT e3 e12
  refine iteD (fun c2 => ?_) (fun c2 => ?_)
  · walk_at "rd"
    exact k false H3 e13 ⟨fun z => (nomatch z), fun g => absurd c2 g.2.1⟩
  walk_at "rd"
  have fold : (t + 1) * ahead r p - t * p = hp t r p := rfl
  rw [fold]
  refine forK_zipI (xs := ends r) (ys := sums r) H3 (exL e13 z2) (exL e13 z3) (by rw [ends_len, sums_len])
    (fun n σ' H' => ∃ x7 x8 x9, σ' = [some (.ref tb), some (.int t), some (.int p), some (.ref e), some (.ref s'), some (.int (hgt t r)), some (.int (hp t r p)), x7, x8, x9] ∧ Ex H3 H' ∧ ∀ i, i < n → ¬ hgt t (r.take i) + (if size (r.take i) > p then 0 else hgt t r) ≤ hp t r p)
    ⟨_, _, _, rfl, Evl.Ex.refl _, fun i z => absurd z (Nat.not_lt_zero _)⟩ (fun n σ' H' ⟨_, _, _, _, e, _⟩ => e) (fun n σ' H' H'' e ⟨x7, x8, x9, z, e', y⟩ => ⟨x7, x8, x9, z, exT e e', y⟩) ?_ ?_
  · rintro n u v σ' H4 hu hv ⟨x7, x8, x9, rfl, e4, no⟩
    have hn : n ≤ r.length := by
      have := (List.getElem?_eq_some_iff.mp hu).1
      rw [ends_len] at this
      omega
    rw [ends_at hn] at hu
    rw [sums_at hn] at hv
    cases hu
    cases hv
    have se := size_end ok hn
    have mt := mine_le (r.take n) (pos_take ok.pos n)
    walk_at "rd"
    refine r_I (mulx_60 (by omega) (by omega)) ?_
    walk_at "rd"
    refine r_I (mulx_60 (by omega) (by omega)) ?_
    walk_at "rd"
    rw [← hgt_eq]
    refine r_val (.int (if size (r.take n) > p then 0 else hgt t r)) (fun R q => r_if ?_) ?_
    · walk_at "rd"
      refine iteD (fun g => ?_) (fun g => ?_)
      · walk_at "rd"
        rw [if_pos g] at q
        exact q
      · walk_at "rd"
        rw [if_neg g] at q
        exact q
    · walk_at "rd"
      refine iteD (fun g => ?_) (fun g => ?_)
      · walk_at "rd"
        exact k false H4 (exT e4 e13) ⟨fun z => (nomatch z), fun y => absurd g (y.2.2 n hn)⟩
      · walk_at "rd"
        refine ⟨_, _, _, rfl, e4, fun i hi => ?_⟩
        by_cases z : i = n
        · subst z
          exact g
        · exact no i (by omega)
  · rintro σ' H4 ⟨x7, x8, x9, rfl, e4, no⟩
    walk_at "rd"
    rw [ends_len] at no
    exact k true H4 (exT e4 e13) ⟨fun _ => ⟨by omega, c2, fun i hi => no i (by omega)⟩, fun _ => rfl⟩
def sp_law_height (K : PySem.W.Frag) : Sp := fun vs H Q _ => ∃ (tb : Addr) (r : Ring) (t p : Int), vs = [.ref tb, .int t, .int p] ∧ TabAt K H tb r ∧ Ok r ∧ 1 ≤ t ∧ t ≤ 100000000000000000000000000000000000000000000000000000000000 ∧ 0 ≤ p ∧ p < size r ∧ ∀ H', Ex H H' → Q (.int (hp t r p)) H'
theorem c_law_height (T : Txt K mg) : Cal P w K mg base 2 "_law_height" (sp_law_height K) := by
  refine cal T.d__law_height sc_law_height (by rintro vs H Q E ⟨_, _, _, _, rfl, _⟩; rfl) (fun f cdv A outer s H vs Q E hr h => ?_)
  obtain ⟨tb, r, t, p, rfl, hT, ok, h0, h1, p0, p1, k⟩ := h
  have W1 := ok.size_lt
  have m := mine_le r ok.pos
  have ar := ahead_range (p := p) ok.pos p0
  refine ⟨_, (pss_one (ps_ret (pe_op op_sub (pe_op op_mulX (pe_op op_add (pv 1) pe_int) (pe_c (c_law_ahead T) hr (by decide) (by rfl) (pa_cons (pv 0) (pa_cons (pv 2) pa_nil)))) (pe_op op_mulX (pv 1) (pv 2))))), ?_⟩
  refine at_start (σ := [some (.ref tb), some (.int t), some (.int p)]) rfl ?_; simp only [kx, kx', kb, mx, mx']
  walk_at "rd"
  refine ⟨tb, r, p, rfl, hT, ok.pos, p0, fun H1 e1 => ?_⟩
  refine r_I (mulx_60 (by omega) (by omega)) ?_
  walk_at "rd"
  refine r_I (mulx_60 (by omega) (by omega)) ?_
  walk_at "rd"
  exact k _ e1
def sp_law_cell_at (K : PySem.W.Frag) : Sp := fun vs H Q _ => ∃ (a : Addr) (ns : List Int) (i : Nat), vs = [.ref a, .int i] ∧ SqL K H a (ns.map V.int) ∧ ∀ H', Ex H H' → Q (.int (cellM ns i)) H'
theorem c_law_cell_at (T : Txt K mg) : Cal P w K mg base 1 "_law_cell_at" (sp_law_cell_at K) := by
  refine cal T.d__law_cell_at sc_law_cell_at (by rintro vs H Q E ⟨_, _, _, rfl, _⟩; rfl) (fun f cdv A outer s H vs Q E hr h => ?_)
  obtain ⟨a, ns, i, rfl, hS, k⟩ := h
  refine ⟨_, (pss_cons (ps_if (pt_cmpR op_lt (pv 1) (pe_callB cr_len (by rfl) T.m_len (by decide +kernel) (pa_cons (pv 0) pa_nil)) (nomark _)) (pss_one (ps_ret (pe_ix ix_list (pv 0) (pv 1) (fun _ _ => rfl)))) pss_nil)
        (pss_one (ps_ret pe_int))), ?_⟩
  refine at_start (σ := [some (.ref a), some (.int i)]) rfl ?_; simp only [kx, kx', kb, mx, mx']
  walk_at "rd"
  refine r_len (n := ns.length) hS (by rw [List.length_map]) ?_
  walk_at "rd"
  refine iteD (fun e => ?_) (fun e => ?_)
  · have hi : i < ns.length := by omega
    walk_at "rd"
    refine r_ixL hS (atI_nat (v := .int (cellM ns i)) (by
      rw [List.getElem?_map, List.getElem?_eq_getElem hi]
      unfold cellM
      rw [List.getD_eq_getElem?_getD, List.getElem?_eq_getElem hi]
      rfl)) ?_
    exact k _ (Evl.Ex.refl _)
  · walk_at "rd"
    have e0 : cellM ns i = 0 := by
      unfold cellM
      rw [List.getD_eq_getElem?_getD, List.getElem?_eq_none (by omega)]
      rfl
    have q := k H (Evl.Ex.refl _)
    rw [e0] at q
    exact q
def sp_law_draw (K : PySem.W.Frag) : Sp := fun vs H Q _ => ∃ (c i m : Int), vs = [.int c, .int i, .int m] ∧ Builtin.Int.intBits c ≤ 4000000 ∧ 0 ≤ i ∧ i ≤ 100000 ∧ 0 < m ∧ ∀ H', Ex H H' → Q (.int (drawM c i m)) H'
theorem c_law_draw (T : Txt K mg) : Cal P w K mg base 1 "_law_draw" (sp_law_draw K) := by
  refine cal T.d__law_draw sc_law_draw (by rintro vs H Q E ⟨_, _, _, rfl, _⟩; rfl) (fun f cdv A outer s H vs Q E hr h => ?_)
  obtain ⟨c, i, m, rfl, hc, h0, h1, hm, k⟩ := h
  refine ⟨_, (pss_cons (ps_set (i := 3) sc_law_draw.nd rfl (by first | exact Or.inl rfl | exact Or.inr rfl) (pe_tup (pa_cons pe_int (pa_cons pe_int (pa_cons pe_int (pa_cons pe_int (pa_cons pe_int (pa_cons pe_int (pa_cons pe_int (pa_cons pe_int (pa_cons pe_int (pa_cons pe_int (pa_cons pe_int (pa_cons pe_int (pa_cons pe_int (pa_cons pe_int (pa_cons pe_int (pa_cons pe_int pa_nil))))))))))))))))))
        (pss_one (ps_ret (pe_op op_mod (pe_op op_mod (pe_op op_add (pe_op op_mulX (pv 0) pe_int) (pe_op op_mulX (pv 1) pe_int)) (pe_ix ix_tup (pv 3) (pe_op op_mod (pv 1) pe_int) (fun _ _ => rfl))) (pv 2))))), ?_⟩
  refine at_start (σ := [some (.int c), some (.int i), some (.int m), none]) rfl ?_; simp only [kx, kx', kb, mx, mx']
  walk_at "rd"
  refine r_mkU (by show 16 ≤ sizeLine; decide) fun t H1 n1 e1 h1 => ?_
  walk_at "rd"
  refine r_I (by
    have z : Builtin.Int.intBits 48271 ≤ 16 := by decide
    unfold CMulX
    omega) ?_
  walk_at "rd"
  refine r_I (mulx_60 (by omega) (by omega)) ?_
  walk_at "rd"
  refine r_I (show (0 : Int) < 16 by decide) ?_
  walk_at "rd"
  have i0 : 0 ≤ i % 16 := Int.emod_nonneg _ (by decide)
  have i1 : i % 16 < 16 := Int.emod_lt_of_pos _ (by decide)
  refine r_ixT (.of h1) (prime_ix i0 i1) ?_
  refine r_I (prime_pos i0 i1) ?_
  walk_at "rd"
  refine r_I hm ?_
  exact k _ e1
def sp_law_number (K : PySem.W.Frag) : Sp := fun vs H Q _ => ∃ (c i m : Int), vs = [.int c, .int i, .int m] ∧ Builtin.Int.intBits c ≤ 1048576 ∧ 0 ≤ i ∧ i ≤ 10000 ∧ 0 < m ∧ ∀ H', Ex H H' → Q (.int (numM c i m)) H'
theorem c_law_number (T : Txt K mg) : Cal P w K mg base 2 "_law_number" (sp_law_number K) := by
  refine cal T.d__law_number sc_law_number (by rintro vs H Q E ⟨_, _, _, rfl, _⟩; rfl) (fun f cdv A outer s H vs Q E hr h => ?_)
  obtain ⟨c, i, m, rfl, hc, h0, h1, hm, k⟩ := h
  have p18 : (10 : Int) ^ (18 : Int).toNat = 1000000000000000000 := by decide
  have p40 : (10 : Int) ^ (40 : Int).toNat = 10000000000000000000000000000000000000000 := by decide
  refine ⟨_, (pss_cons (ps_if (pt_cmpR op_ge (pv 0) (pe_op op_pow pe_int pe_int) (nomark _)) (pss_one (ps_ret (pe_op op_mod (pe_op op_sub (pv 0) (pe_op op_pow pe_int pe_int)) (pe_op op_pow pe_int pe_int)))) pss_nil)
        (pss_one (ps_ret (pe_c (c_law_draw T) hr (by decide) (by rfl) (pa_cons (pe_op op_mulX (pe_op op_add (pv 0) (pe_op op_mulX pe_int (pv 1))) (pe_op op_add (pe_op op_add (pv 0) (pe_op op_mulX pe_int (pv 1))) pe_int)) (pa_cons (pe_op op_add (pe_op op_mod (pv 1) pe_int) pe_int) (pa_cons (pv 2) pa_nil))))))), ?_⟩
  refine at_start (σ := [some (.int c), some (.int i), some (.int m)]) rfl ?_; simp only [kx, kx', kb, mx, mx']
  walk_at "rd"
  refine r_I ⟨by decide, by decide, by decide⟩ ?_
  rw [p18]
  walk_at "rd"
  refine iteD (fun e => ?_) (fun e => ?_)
  · walk_at "rd"
    refine r_I ⟨by decide, by decide, by decide⟩ ?_
    rw [p18]
    walk_at "rd"
    refine r_I ⟨by decide, by decide, by decide⟩ ?_
    rw [p40]
    refine r_I (by decide) ?_
    have q := k H (Evl.Ex.refl _)
    unfold numM at q
    rw [if_pos e] at q
    exact q
  · walk_at "rd"
    refine r_I (mulx_60 (by omega) (by omega)) ?_
    walk_at "rd"
    refine r_I (mulx_60 (by omega) (by omega)) ?_
    walk_at "rd"
    have b1 : Builtin.Int.intBits (c + 977 * i) ≤ 1048577 := bits_add hc (Nat.le_trans (bits_60 (by omega)) (by decide))
    have b2 : Builtin.Int.intBits (c + 31 * i + 5) ≤ 1048578 := bits_add (bits_add hc (Nat.le_trans (bits_60 (by omega)) (by decide))) (Nat.le_trans (bits_60 (by omega)) (by decide))
    have b3 := bits_mul b1 b2
    refine r_I (by unfold CMulX; omega) ?_
    walk_at "rd"
    refine r_I (by decide) ?_
    walk_at "rd"
    have i0 : 0 ≤ i % 9 := Int.emod_nonneg _ (by decide)
    have i1 : i % 9 < 9 := Int.emod_lt_of_pos _ (by decide)
    refine ⟨_, _, _, rfl, Nat.le_trans b3 (by decide), by omega, by omega, hm, fun H1 e1 => ?_⟩
    have q := k H1 e1
    unfold numM at q
    rw [if_neg e] at q
    exact q
/-- an if behind which the same is wanted of either way -/
theorem r_ifJ {c : TT} {t u : TS} {nx : L2.St → Hp → Prop} {rt : VK} {bk ct : L2.St → Hp → Prop} {σ : L2.St} {H : Hp} (R : L2.St → Hp → Prop) (h : ∀ nx' : L2.St → Hp → Prop, (∀ σ' H', R σ' H' → nx' σ' H') → tIfS c t u ⟨nx', rt, bk, ct⟩ σ H) (q : ∀ σ' H', R σ' H' → nx σ' H') : tIfS c t u ⟨nx, rt, bk, ct⟩ σ H := h nx q
def sp_law_times (K : PySem.W.Frag) : Sp := fun vs H Q _ => ∃ (a b : Addr) (ns : List Int) (r : Ring), vs = [.ref a, .ref b] ∧ SqL K H a (ns.map V.int) ∧ (∀ z ∈ ns, Builtin.Int.intBits z ≤ 1048576) ∧ RingAt K H b r ∧ Ok r ∧
  ∀ (p : Addr) (ts : List Int) (H' : Hp), Ex H H' → H' p = some (.lst (ts.map V.int)) → (∀ t ∈ ts, Tm t) → Q (.ref p) H'
theorem c_law_times (T : Txt K mg) : Cal P w K mg base 2 "_law_times" (sp_law_times K) := by
  refine cal T.d__law_times sc_law_times (by rintro vs H Q E ⟨_, _, _, _, rfl, _⟩; rfl) (fun f cdv A outer s H vs Q E hr h => ?_)
  obtain ⟨a, b, ns, r, rfl, hS, hb, hR, ok, k⟩ := h
  have few := ok.few
  have W0 := ok.size_pos
  have W1 := ok.size_lt
  have m := mine_le r ok.pos
  have p20 : (10 : Int) ^ (20 : Int).toNat = 100000000000000000000 := by decide
  refine ⟨_, (pss_cons (ps_set (i := 2) sc_law_times.nd rfl (by first | exact Or.inl rfl | exact Or.inr rfl) (pe_c (c_law_size T) hr (by decide) (by rfl) (pa_cons (pv 1) pa_nil)))
        (pss_cons (ps_set (i := 3) sc_law_times.nd rfl (by first | exact Or.inl rfl | exact Or.inr rfl) (pe_ix ix_list (pe_ix ix_tup (pe_c (c_law_table T) hr (by decide) (by rfl) (pa_cons (pv 1) pa_nil)) pe_int (fun _ _ => rfl)) (pe_un un_neg pe_int) (fun _ _ => rfl)))
        (pss_cons (ps_set (i := 4) sc_law_times.nd rfl (by first | exact Or.inl rfl | exact Or.inr rfl) (pe_lst (pa_cons pe_int (pa_cons pe_int (pa_cons (pe_op op_add pe_int (pe_c (c_law_draw T) hr (by decide) (by rfl) (pa_cons (pe_c (c_law_cell_at T) hr (by decide) (by rfl) (pa_cons (pv 0) (pa_cons pe_int pa_nil))) (pa_cons pe_int (pa_cons pe_int pa_nil))))) pa_nil)))))
        (pss_cons (ps_if (pt_cmpR op_gt (pv 2) (pv 3) (nomark _)) (pss_cons (ps_set (i := 5) sc_law_times.nd rfl (by first | exact Or.inl rfl | exact Or.inr rfl) (pe_op op_sub (pv 2) (pv 3)))
          (pss_cons (ps_set (i := 6) sc_law_times.nd rfl (by first | exact Or.inl rfl | exact Or.inr rfl) (pe_op op_fdivW (pv 3) (pv 5)))
          (pss_cons (ps_set (i := 7) sc_law_times.nd rfl (by first | exact Or.inl rfl | exact Or.inr rfl) (pe_op op_fdivW (pe_op op_sub (pv 3) pe_int) (pv 5)))
          (pss_one (ps_set (i := 4) sc_law_times.nd rfl (by first | exact Or.inl rfl | exact Or.inr rfl) (pe_op op_cat (pv 4) (pe_lst (pa_cons (pe_callB (cr_max2 rfl) (by rfl) T.m_max (by decide +kernel) (pa_cons pe_int (pa_cons (pv 6) pa_nil))) (pa_cons (pe_op op_add (pv 6) pe_int) (pa_cons (pe_callB (cr_max2 rfl) (by rfl) T.m_max (by decide +kernel) (pa_cons pe_int (pa_cons (pv 7) pa_nil))) pa_nil)))))))))) pss_nil)
        (pss_one (ps_ret (pe_op op_cat (pv 4) (pe_lst (pa_cons (pe_op op_add pe_int (pe_op op_mod (pe_c (c_law_cell_at T) hr (by decide) (by rfl) (pa_cons (pv 0) (pa_cons pe_int pa_nil))) (pe_op op_pow pe_int pe_int))) pa_nil))))))))), ?_⟩
  refine at_start (σ := [some (.ref a), some (.ref b), none, none, none, none, none, none]) rfl ?_; simp only [kx, kx', kb, mx, mx']
  walk_at "rd"
  refine ⟨b, r, rfl, hR, by omega, fun H1 e1 => ?_⟩
  walk_at "rd"
  refine ⟨b, r, rfl, hR.ex e1, by omega, fun tb H2 e2 hT => ?_⟩
  obtain ⟨pe, ps, z1, z2, z3⟩ := hT
  walk_at "rd"
  refine r_ixT (i := 1) (v := .ref ps) z1 rfl ?_
  walk_at "rd"
  refine r_ixL z3 (sums_last_at r) ?_
  walk_at "rd"
  have e12 := exT e2 e1
  refine ⟨a, ns, 4, rfl, exL e12 hS, fun H3 e3 => ?_⟩
  walk_at "rd"
  refine ⟨cellM ns 4, 5, 9, rfl, by have := cell_bits hb 4; omega, by decide, by decide, by decide, fun H4 e4 => ?_⟩
  have dm := drawM_range (cell := cellM ns 4) (k := 5) (many := 9) (by decide)
  generalize drawM (cellM ns 4) 5 9 = d at dm
  walk_at "rd"
  refine r_mkL (by show 3 ≤ sizeLine; decide) fun l H5 n5 e5 h5 => ?_
  have e15 := exT e5 (exT e4 (exT e3 e12))
  refine r_name (by walk_at "ns") ?_
  refine r_seq ?_
  refine r_ifJ (fun σ' H' => ∃ (q : Addr) (ts : List Int) (x5 x6 x7 : Option V), σ' = [some (.ref a), some (.ref b), some (.int (size r)), some (.int (mine r)), some (.ref q), x5, x6, x7] ∧ Ex H H' ∧ H' q = some (.lst (ts.map V.int)) ∧ ts.length ≤ 6 ∧ ∀ t ∈ ts, Tm t) (fun nx' done => ?_) ?_
  · walk_at "rd"
    have t3 : ∀ t ∈ ([1, 2, 3 + d] : List Int), Tm t := fun t ht => by
      simp only [List.mem_cons, List.not_mem_nil, or_false] at ht
      unfold Tm
      omega
    refine iteD (fun c => ?_) (fun c => ?_)
    · walk_at "rd"
      generalize hrest : size r - mine r = rest
      have r0 : 1 ≤ rest := by omega
      refine r_I (divw_60 (by omega) (by omega)) ?_
      walk_at "rd"
      refine r_I (divw_60 (by omega) (by omega)) ?_
      walk_at "rd"
      have o1 : 0 ≤ mine r / rest := Int.ediv_nonneg m.1 (by omega)
      have o2 : mine r / rest ≤ mine r := Int.ediv_le_self _ m.1
      have o3 : (mine r - 1) / rest ≤ mine r := Int.ediv_le_of_le_mul (by omega) (by
        have : mine r * 1 ≤ mine r * rest := Int.mul_le_mul_of_nonneg_left r0 m.1
        omega)
      generalize mine r / rest = most at o1 o2
      generalize (mine r - 1) / rest = less at o3
      refine r_mkL (by show 3 ≤ sizeLine; decide) fun l2 H6 n6 e6 h6 => ?_
      refine r_cat (e6 _ _ h5) h6 (by show 6 ≤ sizeLine; decide) fun l3 H7 n7 e7 h7 => ?_
      walk_at "rd"
      refine done _ _ ⟨l3, [1, 2, 3 + d] ++ [max 1 most, most + 1, max 1 less], _, _, _, rfl, exT e7 (exT e6 e15), h7, by simp, fun t ht => ?_⟩
      rcases List.mem_append.mp ht with ht | ht
      · exact t3 t ht
      · simp only [List.mem_cons, List.not_mem_nil, or_false] at ht
        unfold Tm
        omega
    · walk_at "rd"
      exact done _ _ ⟨l, [1, 2, 3 + d], _, _, _, rfl, e15, h5, by simp, t3⟩
  · rintro σ' H6 ⟨q, ts, x5, x6, x7, rfl, e6, h6, l6, t6⟩
    walk_at "rd"
    refine ⟨a, ns, 5, rfl, exL e6 hS, fun H7 e7 => ?_⟩
    walk_at "rd"
    refine r_I ⟨by decide, by decide, by decide⟩ ?_
    rw [p20]
    refine r_I (by decide) ?_
    walk_at "rd"
    have md0 := Int.emod_nonneg (cellM ns 5) (show (100000000000000000000 : Int) ≠ 0 by decide)
    have md1 := Int.emod_lt_of_pos (cellM ns 5) (show (0 : Int) < 100000000000000000000 by decide)
    generalize cellM ns 5 % 100000000000000000000 = g at md0 md1
    refine r_mkL (by show 1 ≤ sizeLine; decide) fun l2 H8 n8 e8 h8 => ?_
    refine r_cat (e8 _ _ (e7 _ _ h6)) h8 (Evl.sz_of (by rw [List.length_map]; show ts.length + 1 ≤ _; omega)) fun l3 H9 n9 e9 h9 => ?_
    refine k l3 (ts ++ [1 + g]) H9 (exT e9 (exT e8 (exT e7 e6))) (by rw [List.map_append]; exact h9) fun t ht => ?_
    rcases List.mem_append.mp ht with ht | ht
    · exact t6 t ht
    · simp only [List.mem_cons, List.not_mem_nil, or_false] at ht
      unfold Tm
      omega
def sp_law_row (K : PySem.W.Frag) : Sp := fun vs H Q _ => ∃ (a : Addr) (r : Ring), vs = [.ref a] ∧ RingAt K H a r ∧ r.length ≤ 1000 ∧ (∀ x ∈ r, 1 ≤ x.2 ∧ x.2 ≤ 1000) ∧ ∀ H', Ex H H' → Q (.str (txt (row r))) H'
theorem c_law_row (T : Txt K mg) : Cal P w K mg base 1 "_law_row" (sp_law_row K) := by
  refine cal T.d__law_row sc_law_row (by rintro vs H Q E ⟨_, _, rfl, _⟩; rfl) (fun f cdv A outer s H vs Q E hr h => ?_)
  obtain ⟨a, r, rfl, hR, hl, hx, k⟩ := h
  refine ⟨_, (pss_one (ps_ret (pe_joinR pe_str (pe_lc (own := [("_law_kind", 1), ("_law_many", 2)]) (g := (gTup K 2 (gCons (gName 1) (gCons (gName 2) gNil)))) rfl sc_law_row.nd (pi_list (pv 0)) (blkOk_by (own := [("_law_kind", 1), ("_law_many", 2)]) (N := ["_law_ring_here", "_law_kind", "_law_many"]) (sc := defScope s_law_row) (by decide +kernel)) (fun _ _ _ _ _ => (pg_tup (n := 2) rfl (pgs_cons (pg_name (i := 1) sc_law_row.nd rfl (by first | exact Or.inl rfl | exact Or.inr rfl)) (pgs_cons (pg_name (i := 2) sc_law_row.nd rfl (by first | exact Or.inl rfl | exact Or.inr rfl)) pgs_nil)))) (fun _ _ _ _ _ => pts_nil) (fun _ _ _ _ _ => (pe_op op_rep_str (pv 1) (pv 2))))))), ?_⟩
  refine at_start (σ := [some (.ref a), none, none]) rfl ?_; simp only [kx, kx', kb, mx, mx']
  walk_at "rd"
  refine lcK_ring (fun x => .str (txt (List.replicate x.2.toNat x.1))) hR (by omega) (fun _ _ => rfl) (fun k m hm H1 e1 Q1 k1 => ?_) fun p H1 n1 e1 h1 => ?_
  · walk_at "rd"
    exact r_repS (hx _ hm).1 (hx _ hm).2 (k1 _ (Evl.Ex.refl _))
  · walk_at "rd"
    refine r_join (ls := r.map fun x : Bool × Int => List.replicate x.2.toNat x.1) (.of (by rw [List.map_map, List.map_map]; exact h1)) ?_ (k _ e1)
    rw [List.map_map]
    have z : ∀ r : Ring, (∀ x ∈ r, 1 ≤ x.2 ∧ x.2 ≤ 1000) → (r.map ((fun l : List Bool => l.length) ∘ fun x => List.replicate x.2.toNat x.1)).sum ≤ 1000 * r.length := by
      intro r
      induction r with
      | nil => intro _; simp
      | cons x r ih =>
        intro h
        have h1 := h x List.mem_cons_self
        have h2 := ih fun y hy => h y (List.mem_cons_of_mem _ hy)
        rw [List.map_cons, List.sum_cons, List.length_cons]
        have h3 : ((fun l : List Bool => l.length) ∘ fun x : Bool × Int => List.replicate x.2.toNat x.1) x = x.2.toNat := by simp
        rw [h3]
        omega
    have := z r hx
    omega
def sp_law_says (K : PySem.W.Frag) : Sp := fun vs H Q _ => ∃ (x y : Bool), vs = [.bl x, .bl y] ∧ ∀ H', Ex H H' → Q (.bl (decide (x = y))) H'
theorem c_law_says (T : Txt K mg) : Cal P w K mg base 1 "_law_says" (sp_law_says K) := by
  refine cal T.d__law_says sc_law_says (by rintro vs H Q E ⟨_, _, rfl, _⟩; rfl) (fun f cdv A outer s H vs Q E hr h => ?_)
  obtain ⟨x, y, rfl, k⟩ := h
  refine ⟨_, (pss_one (ps_ret (pe_and (pe_callB call_isi (by rfl) T.m_isinstance (by decide +kernel) (pa_cons (pv 0) (pa_cons (pe_bltn (v := .ty "bool") (u := .type "bool") (by rfl) T.m_bool (by decide +kernel) rfl) pa_nil))) (pe_one (pe_cmpR op_eq (pv 0) (pv 1) (nomark _)))))), ?_⟩
  refine at_start (σ := [some (.bl x), some (.bl y)]) rfl ?_; simp only [kx, kx', kb, mx, mx']
  walk_at "rd"
  refine r_isi (.ty "bool") (.base (.bl x)) (kit_ty (r := true) (by decide +kernel)) ?_
  walk_at "rd"
  exact k _ (Evl.Ex.refl _)
theorem low_there {r : Ring} (ok : Ok r) (t : Int) : ∃ b, Low t r b := by
  have ne : (hgts t r).drop 1 ≠ [] := by
    intro e
    have z := congrArg List.length e
    rw [List.length_drop, hgts_len, List.length_nil] at z
    have := ok.len
    omega
  obtain ⟨b, b1, b2⟩ := min_there _ ne
  exact ⟨b, hgts_tail_mem.mp b1, fun i h1 h2 => b2 _ (hgts_tail_mem.mpr ⟨i, h1, h2, rfl⟩)⟩
theorem least_is {t : Int} {r : Ring} {b l : Int} (h : Low t r b) (l1 : l ∈ hgts t r) (l2 : ∀ y ∈ hgts t r, l ≤ y) : l = min 0 b := by
  obtain ⟨i, hi, e⟩ := hgts_mem l1
  obtain ⟨j, j1, j2, e2⟩ := h.at_
  have q0 := l2 _ (mem_hgts (t := t) (r := r) (i := 0) (by omega))
  have q1 := l2 _ (mem_hgts (t := t) (r := r) (i := j) j2)
  simp only [List.take_zero, hgt] at q0
  by_cases z : i = 0
  · subst z
    simp only [List.take_zero, hgt] at e
    omega
  · have := h.le i (by omega) hi
    omega
theorem StartH.height {t : Int} {r : Ring} {b p v : Int} (ok : Ok r) (h : StartH t r b p v) : hp t r p = v := by
  obtain ⟨j, x, hj, kx, j0, j1, e, _⟩ := h
  rw [hp_at ok hj j0 (by omega), kx, if_pos rfl, e]
def sp_law_right (K : PySem.W.Frag) : Sp := fun vs H Q _ => ∃ (a p : Addr) (ns : List Int) (r : Ring) (t : Int), vs = [.ref a, .ref p, .int t] ∧ SqL K H a (ns.map V.int) ∧ RingAt K H p r ∧ Ok r ∧ Tm t ∧ ∀ H', Ex H H' → Q (.bl true) H'
set_option maxHeartbeats 4000000 in
theorem c_law_right (T : Txt K mg) : Cal P w K mg base 5 "_law_right" (sp_law_right K) := by
  refine cal T.d__law_right sc_law_right (by rintro vs H Q E ⟨_, _, _, _, _, rfl, _⟩; rfl) (fun f cdv A outer s H vs Q E hr h => ?_)
  obtain ⟨a, p, ns, r, t, rfl, hS, hR, ok, ht, k⟩ := h
  have few := ok.few
  have W0 := ok.size_pos
  have W1 := ok.size_lt
  obtain ⟨vs, hvs, lvs⟩ := hR.lst
  obtain ⟨b, hb⟩ := low_there ok t
  refine ⟨_, (pss_cons (ps_par (i := 3) (j := 4) rfl sc_law_right.nd rfl rfl (by decide) rfl rfl (pa_cons (pe_callTy cr_listOf (by rfl) T.m_list (by decide +kernel) (pa_cons (pv 1) pa_nil)) (pa_cons (pe_c (c_law_table T) hr (by decide) (by rfl) (pa_cons (pv 1) pa_nil)) pa_nil)) rfl)
        (pss_cons (ps_set (i := 5) sc_law_right.nd rfl (by first | exact Or.inl rfl | exact Or.inr rfl) (pe_c (c_law_size T) hr (by decide) (by rfl) (pa_cons (pv 1) pa_nil)))
        (pss_cons (ps_set (i := 6) sc_law_right.nd rfl (by first | exact Or.inl rfl | exact Or.inr rfl) (pe_callB (cr_max2 rfl) (by rfl) T.m_max (by decide +kernel) (pa_cons pe_int (pa_cons (pe_c (c_law_surplus T) hr (by decide) (by rfl) (pa_cons (pv 4) (pa_cons (pv 2) pa_nil))) pa_nil))))
        (pss_cons (ps_set (i := 7) sc_law_right.nd rfl (by first | exact Or.inl rfl | exact Or.inr rfl) (pe_c (c_starts T) hr (by decide) (by rfl) (pa_cons (pv 1) (pa_cons (pv 2) pa_nil))))
        (pss_cons (ps_if (PW.pt (pw_or (pt_not (pt_val (pe_c (c_law_whole T) hr (by decide) (by rfl) (pa_cons (pv 7) pa_nil)))) (pw_or1 (pt_cmpR op_ne (pv 7) (pv 6) (nomark _))))) (pss_one (ps_ret pe_bl)) pss_nil)
        (pss_cons (ps_asg (pv 4) (pg_tup (n := 2) rfl (pgs_cons (pg_name (i := 8) sc_law_right.nd rfl (by first | exact Or.inl rfl | exact Or.inr rfl)) (pgs_cons (pg_name (i := 9) sc_law_right.nd rfl (by first | exact Or.inl rfl | exact Or.inr rfl)) pgs_nil))))
        (pss_cons (ps_set (i := 10) sc_law_right.nd rfl (by first | exact Or.inl rfl | exact Or.inr rfl) (pe_callB (cr_min rfl) (by rfl) T.m_min (by decide +kernel) (pa_cons (pe_lc (own := [("_law_end", 11), ("_law_mine", 12)]) (g := (gTup K 2 (gCons (gName 11) (gCons (gName 12) gNil)))) rfl sc_law_right.nd (pi_zip (by rfl) T.m_zip (pa_cons (pv 8) (pa_cons (pv 9) pa_nil))) (blkOk_by (own := [("_law_end", 11), ("_law_mine", 12)]) (N := ["_law_script", "_law_ring_here", "_law_times_here", "_law_kept", "_law_table_here", "_law_size_here", "_law_count", "_law_many", "_law_ends", "_law_sums", "_law_least", "_law_end", "_law_mine", "_law_numbers", "_law_last", "_law_number_here", "_law_place", "_law_near", "_law_due"]) (sc := defScope s_law_right) (by decide +kernel)) (fun _ _ _ _ _ => (pg_tup (n := 2) rfl (pgs_cons (pg_name (i := 11) sc_law_right.nd rfl (by first | exact Or.inl rfl | exact Or.inr rfl)) (pgs_cons (pg_name (i := 12) sc_law_right.nd rfl (by first | exact Or.inl rfl | exact Or.inr rfl)) pgs_nil)))) (fun _ _ _ _ _ => pts_nil) (fun _ _ _ _ _ => (pe_op op_sub (pe_op op_mulX (pe_op op_add (pv 2) pe_int) (pv 12)) (pe_op op_mulX (pv 2) (pv 11))))) pa_nil)))
        (pss_cons (ps_set (i := 13) sc_law_right.nd rfl (by first | exact Or.inl rfl | exact Or.inr rfl) (pe_lst pa_nil))
        (pss_cons (ps_if (pt_cmpR op_gt (pv 6) pe_int (nomark _)) (pss_one (ps_set (i := 13) sc_law_right.nd rfl (by first | exact Or.inl rfl | exact Or.inr rfl) (pe_lst (pa_cons pe_int (pa_cons (pe_op op_fdivW (pv 6) pe_int) (pa_cons (pe_op op_sub (pv 6) pe_int) (pa_cons (pe_op op_mod (pe_c (c_law_cell_at T) hr (by decide) (by rfl) (pa_cons (pv 0) (pa_cons pe_int pa_nil))) (pv 6)) pa_nil))))))) pss_nil)
        (pss_cons (ps_set (i := 14) sc_law_right.nd rfl (by first | exact Or.inl rfl | exact Or.inr rfl) (pe_un un_neg pe_int))
        (pss_cons (ps_for PassesOwn.never rfl (pi_list (pe_callB (cr_sortedSet rfl) (by rfl) T.m_sorted (by decide +kernel) (pa_cons (pe_callTy (cr_setL rfl) (by rfl) T.m_set (by decide +kernel) (pa_cons (pv 13) pa_nil)) pa_nil))) (pg_name (i := 15) sc_law_right.nd rfl (by first | exact Or.inl rfl | exact Or.inr rfl))
          (pss_cons (ps_set (i := 16) sc_law_right.nd rfl (by first | exact Or.inl rfl | exact Or.inr rfl) (pe_c (c_start_at T) hr (by decide) (by rfl) (pa_cons (pv 1) (pa_cons (pv 2) (pa_cons (pv 15) pa_nil)))))
          (pss_cons (ps_if (PW.pt (pw_or (pt_not (pt_val (pe_c (c_law_whole T) hr (by decide) (by rfl) (pa_cons (pv 16) pa_nil)))) (pw_or1 (pt_not (pt_chain op_lt op_lt (pv 14) (pv 16) (pv 5)))))) (pss_one (ps_ret pe_bl)) pss_nil)
          (pss_cons (ps_if (pt_not (pt_val (pe_c (c_law_is_start T) hr (by decide) (by rfl) (pa_cons (pv 4) (pa_cons (pv 2) (pa_cons (pv 16) pa_nil)))))) (pss_one (ps_ret pe_bl)) pss_nil)
          (pss_cons (ps_if (pt_cmpR op_ne (pe_c (c_law_height T) hr (by decide) (by rfl) (pa_cons (pv 4) (pa_cons (pv 2) (pa_cons (pv 16) pa_nil)))) (pe_op op_add (pv 10) (pv 15)) (nomark _)) (pss_one (ps_ret pe_bl)) pss_nil)
          (pss_cons (ps_if (pt_not (pt_val (pe_c (c_law_says T) hr (by decide) (by rfl) (pa_cons (pe_c (c_is_start T) hr (by decide) (by rfl) (pa_cons (pv 1) (pa_cons (pv 2) (pa_cons (pv 16) pa_nil)))) (pa_cons pe_bl pa_nil))))) (pss_one (ps_ret pe_bl)) pss_nil)
          (pss_cons (ps_set (i := 14) sc_law_right.nd rfl (by first | exact Or.inl rfl | exact Or.inr rfl) (pv 16))
          (pss_cons (ps_set (i := 17) sc_law_right.nd rfl (by first | exact Or.inl rfl | exact Or.inr rfl) (pe_op op_mod (pe_op op_add (pv 16) pe_int) (pv 5)))
          (pss_cons (ps_set (i := 18) sc_law_right.nd rfl (by first | exact Or.inl rfl | exact Or.inr rfl) (pe_c (c_law_is_start T) hr (by decide) (by rfl) (pa_cons (pv 4) (pa_cons (pv 2) (pa_cons (pv 17) pa_nil)))))
          (pss_cons (ps_if (pt_not (pt_val (pe_c (c_law_says T) hr (by decide) (by rfl) (pa_cons (pe_c (c_is_start T) hr (by decide) (by rfl) (pa_cons (pv 1) (pa_cons (pv 2) (pa_cons (pv 17) pa_nil)))) (pa_cons (pv 18) pa_nil))))) (pss_one (ps_ret pe_bl)) pss_nil)
          (pss_one (ps_if (PW.pt (pw_and (pt_cmpR op_gt (pv 15) pe_int (nomark _)) (pw_and1 (pt_not (pt_cmpR op_lt (pe_c (c_start_at T) hr (by decide) (by rfl) (pa_cons (pv 1) (pa_cons (pv 2) (pa_cons (pe_op op_sub (pv 15) pe_int) pa_nil)))) (pv 16) (nomark _)))))) (pss_one (ps_ret pe_bl)) pss_nil))))))))))))
        (pss_cons (ps_for PassesOwn.never rfl (pi_tup (pe_tup (pa_cons pe_int (pa_cons (pe_op op_sub (pv 5) pe_int) (pa_cons (pe_op op_mod (pe_c (c_law_cell_at T) hr (by decide) (by rfl) (pa_cons (pv 0) (pa_cons pe_int pa_nil))) (pv 5)) pa_nil))))) (pg_name (i := 16) sc_law_right.nd rfl (by first | exact Or.inl rfl | exact Or.inr rfl))
          (pss_cons (ps_set (i := 18) sc_law_right.nd rfl (by first | exact Or.inl rfl | exact Or.inr rfl) (pe_c (c_law_is_start T) hr (by decide) (by rfl) (pa_cons (pv 4) (pa_cons (pv 2) (pa_cons (pv 16) pa_nil)))))
          (pss_one (ps_if (pt_not (pt_val (pe_c (c_law_says T) hr (by decide) (by rfl) (pa_cons (pe_c (c_is_start T) hr (by decide) (by rfl) (pa_cons (pv 1) (pa_cons (pv 2) (pa_cons (pv 16) pa_nil)))) (pa_cons (pv 18) pa_nil))))) (pss_one (ps_ret pe_bl)) pss_nil))))
        (pss_one (ps_ret (pe_cmpR (op_eqD hr.units) (pv 1) (pv 3) (nomark _)))))))))))))))), ?_⟩
  refine at_start (σ := [some (.ref a), some (.ref p), some (.int t), none, none, none, none, none, none, none, none, none, none, none, none, none, none, none, none]) rfl ?_; simp only [kx, kx', kb, mx, mx']
  walk_at "rd"
  refine r_listOf (.of hvs) fun kl H1 n1 e1 hkl => ?_
  walk_at "rd"
  refine ⟨p, r, rfl, hR.ex e1, by omega, fun tb H2 e2 hT => ?_⟩
  walk_at "rd"
  have e12 := exT e2 e1
  refine ⟨p, r, rfl, hR.ex e12, by omega, fun H3 e3 => ?_⟩
  walk_at "rd"
  refine ⟨tb, r, t, rfl, hT.ex e3, ok, ht.1, ht.2, fun H4 e4 => ?_⟩
  walk_at "rd"
  have e14 := exT e4 (exT e3 e12)
  refine ⟨p, r, t, rfl, hR.ex e14, ok, ht, fun H5 e5 => ?_⟩
  walk_at "rd"
  refine ⟨_, rfl, fun H6 e6 => ?_⟩
  walk_at "rd"
  rw [decide_eq_true rfl]
  have e16 := exT e6 (exT e5 e14)
  have hT6 : TabAt K H6 tb r := hT.ex (exT e6 (exT e5 (exT e4 e3)))
  have hR6 := hR.ex e16
  have hS6 := exL e16 hS
  have hk6 : RingAt K H6 kl r := .copy hR6 (e16 _ _ hvs) (exT e6 (exT e5 (exT e4 (exT e3 e2))) _ _ hkl)
  obtain ⟨te, ts, z1, z2, z3⟩ := id hT6
  walk_at "rd"
  refine lcK_zipI (xs := ends r) (ys := sums r) ((hgts t r).map V.int) (by rw [List.length_map, hgts_len, ends_len]) z2 z3 (by rw [ends_len, sums_len]) (by rw [ends_len]; omega) (fun _ _ => rfl) (fun n x y z hx hy hz H7 e7 Q1 k1 => ?_) fun q H7 n7 e7 h7 => ?_
  · have hn : n ≤ r.length := by
      have := (List.getElem?_eq_some_iff.mp hx).1
      rw [ends_len] at this
      omega
    rw [ends_at hn] at hx
    rw [sums_at hn] at hy
    rw [List.getElem?_map, hgts_at hn] at hz
    cases hx
    cases hy
    cases hz
    have se := size_end ok hn
    have mt := mine_le (r.take n) (pos_take ok.pos n)
    have ht1 := ht.1
    have ht2 := ht.2
    walk_at "rd"
    refine r_I (mulx_60 (by omega) (by omega)) ?_
    walk_at "rd"
    refine r_I (mulx_60 (by omega) (by omega)) ?_
    walk_at "rd"
    rw [← hgt_eq]
    exact k1 _ (Evl.Ex.refl _)
  walk_at "rd"
  refine r_minL (.of h7) (by rw [hgts_len]; omega) fun least l1 l2 => ?_
  have el := least_is hb l1 l2
  clear l1 l2
  walk_at "rd"
  refine r_mkL (by decide) fun q0 H8 n8 e8 h8 => ?_
  have e18 := exT e8 (exT e7 e16)
  refine r_name (by walk_at "ns") ?_
  refine r_seq ?_
  refine r_ifJ (fun σ' H' => ∃ (q : Addr) (nums : List Int) (x11 x12 : Option V), σ' = [some (.ref a), some (.ref p), some (.int t), some (.ref kl), some (.ref tb), some (.int (size r)), some (.int (max 0 (hgt t r))), some (.int (max 0 (hgt t r))), some (.ref te), some (.ref ts), some (.int least), x11, x12, some (.ref q), none, none, none, none, none] ∧ Ex H6 H' ∧ H' q = some (.lst (nums.map V.int)) ∧ nums.length ≤ 4 ∧ ∀ z ∈ nums, 0 ≤ z ∧ z < hgt t r) (fun nx' done => ?_) ?_
  · walk_at "rd"
    refine iteD (fun c => ?_) (fun c => ?_)
    · walk_at "rd"
      have s0 : 0 < hgt t r := by omega
      rw [show max 0 (hgt t r) = hgt t r by omega]
      refine r_I (divw_60 (by decide) (by decide)) ?_
      walk_at "rd"
      refine ⟨a, ns, 3, rfl, exL (exT e8 e7) hS6, fun H9 e9 => ?_⟩
      walk_at "rd"
      refine r_I s0 ?_
      walk_at "rd"
      have md0 := Int.emod_nonneg (cellM ns 3) (show hgt t r ≠ 0 by omega)
      have md1 := Int.emod_lt_of_pos (cellM ns 3) s0
      generalize cellM ns 3 % hgt t r = g at md0 md1
      refine r_mkL (by show 4 ≤ sizeLine; decide) fun q H10 n10 e10 h10 => ?_
      walk_at "rd"
      refine done _ _ ⟨q, [0, hgt t r / 2, hgt t r - 1, g], _, _, by rw [show max 0 (hgt t r) = hgt t r by omega], exT e10 (exT e9 (exT e8 e7)), h10, by simp, fun z hz => ?_⟩
      simp only [List.mem_cons, List.not_mem_nil, or_false] at hz
      omega
    · walk_at "rd"
      exact done _ _ ⟨q0, [], _, _, rfl, exT e8 e7, h8, by simp, fun z hz => nomatch hz⟩
  · rintro σ' H9 ⟨q, nums, x11, x12, rfl, e9, h9, ln, hn⟩
    walk_at "rd"
    refine r_setL (.of h9) (by omega) fun sa H10 n10 e10 hsa => ?_
    walk_at "rd"
    refine r_sortedS hsa (by omega) fun so out H11 n11 e11 h11 up mem => ?_
    have e611 := exT e11 (exT e10 e9)
    have hT11 := hT6.ex e611
    have hR11 := hR6.ex e611
    refine forK_listI (zs := out) H11 (.of h11) (fun i σ' H' => ∃ (l : Int) (x15 x16 x17 x18 : Option V), σ' = [some (.ref a), some (.ref p), some (.int t), some (.ref kl), some (.ref tb), some (.int (size r)), some (.int (max 0 (hgt t r))), some (.int (max 0 (hgt t r))), some (.ref te), some (.ref ts), some (.int least), x11, x12, some (.ref q), some (.int l), x15, x16, x17, x18] ∧ Ex H11 H' ∧
        (l = -1 ∨ ∃ j z, j < i ∧ out[j]? = some z ∧ PlaceOf t r b l (min 0 b + z)))
      ⟨-1, _, _, _, _, rfl, Evl.Ex.refl _, .inl rfl⟩ (fun i σ' H' ⟨_, _, _, _, _, _, e, _⟩ => e) ?_ ?_
    · rintro i z σ' H12 hz ⟨l, x15, x16, x17, x18, rfl, e12', hl⟩
      have zr := hn z ((mem z).mp (List.mem_of_getElem? hz))
      have u : Up t r b := ⟨ok, ht.1, by omega, hb⟩
      have hT12 := hT11.ex e12'
      have hR12 := hR11.ex e12'
      walk_at "rd"
      refine ⟨p, r, t, z, rfl, hR12, ok, ht, zr.1, zr.2, fun b' pl H13 e13 u' hpl => ?_⟩
      rw [u'.low.one hb] at hpl
      have hst := u.place.mp hpl
      have rg := hst.range ok
      have hh := hst.height ok
      have say : EndsSay t r pl := (u.ends rg.1 rg.2).mpr (by rw [hh]; exact hst)
      have lp : l < pl := by
        rcases hl with rfl | ⟨j, z', hj, hz', hp'⟩
        · omega
        · have lt : z' < z := by
            obtain ⟨a1, rfl⟩ := List.getElem?_eq_some_iff.mp hz'
            obtain ⟨a2, rfl⟩ := List.getElem?_eq_some_iff.mp hz
            exact List.pairwise_iff_getElem.mp up j i a1 a2 hj
          exact u.rise hp' hpl (by omega)
      walk_at "rd"
      refine ⟨pl, rfl, fun H14 e14' => ?_⟩
      walk_at "rd"
      refine iteD (fun _ => ?_) (fun no => absurd lp no)
      walk_at "rd"
      refine iteN (fun no => absurd rg.2 no) (fun _ => ?_)
      walk_at "rd"
      have e1 := exT e14' e13
      refine ⟨tb, r, t, pl, rfl, hT12.ex e1, ok, ht.1, ht.2, rg.1, rg.2, fun b1 H15 e15 hb1 => ?_⟩
      rw [hb1.mpr say]
      walk_at "rd"
      have e2 := exT e15 e1
      refine ⟨tb, r, t, pl, rfl, hT12.ex e2, ok, ht.1, ht.2, rg.1, rg.2, fun H16 e16' => ?_⟩
      walk_at "rd"
      rw [hh, el, decide_eq_true rfl]
      walk_at "rd"
      have e3 := exT e16' e2
      refine ⟨p, r, t, pl, rfl, hR12.ex e3, ok, ht, rg.1, rg.2, fun b2 H17 e17 hb2 => ?_⟩
      rw [hb2.mpr say]
      walk_at "rd"
      refine ⟨true, true, rfl, fun H18 e18' => ?_⟩
      rw [decide_eq_true rfl]
      walk_at "rd"
      refine r_I (show 0 < size r by omega) ?_
      have nr0 := Int.emod_nonneg (pl + 1) (show size r ≠ 0 by omega)
      have nr1 := Int.emod_lt_of_pos (pl + 1) (show 0 < size r by omega)
      generalize (pl + 1) % size r = near at nr0 nr1
      walk_at "rd"
      have e4 := exT e18' (exT e17 e3)
      refine ⟨tb, r, t, near, rfl, hT12.ex e4, ok, ht.1, ht.2, nr0, nr1, fun b3 H19 e19 hb3 => ?_⟩
      walk_at "rd"
      have e5 := exT e19 e4
      refine ⟨p, r, t, near, rfl, hR12.ex e5, ok, ht, nr0, nr1, fun b4 H20 e20 hb4 => ?_⟩
      walk_at "rd"
      have eb : b4 = b3 := Bool.eq_iff_iff.mpr (hb4.trans hb3.symm)
      subst eb
      refine ⟨b4, b4, rfl, fun H21 e21 => ?_⟩
      rw [decide_eq_true rfl]
      walk_at "rd"
      have e6 := exT e21 (exT e20 e5)
      have inv : ∀ H', Ex H11 H' → Ex H11 H' ∧ (pl = -1 ∨ ∃ j z, j < i + 1 ∧ out[j]? = some z ∧ PlaceOf t r b pl (min 0 b + z)) := fun H' e => ⟨e, .inr ⟨i, z, by omega, hz, hpl⟩⟩
      refine iteD (fun g => ?_) (fun g => ?_)
      · walk_at "rd"
        refine ⟨p, r, t, z - 1, rfl, hR12.ex e6, ok, ht, by omega, by omega, fun b'' pl' H22 e22 u'' hpl' => ?_⟩
        rw [u''.low.one hb] at hpl'
        have lt : pl' < pl := u.rise hpl' hpl (by omega)
        walk_at "rd"
        rw [decide_eq_true lt]
        walk_at "rd"
        exact ⟨pl, _, _, _, _, rfl, inv _ (exT e22 (exT e6 e12'))⟩
      · walk_at "rd"
        exact ⟨pl, _, _, _, _, rfl, inv _ (exT e6 e12')⟩
    · rintro σ' H12 ⟨l, x15, x16, x17, x18, rfl, e12', _⟩
      have e612 := exT e12' e611
      walk_at "rd"
      refine ⟨a, ns, 2, rfl, exL e612 hS6, fun H13 e13 => ?_⟩
      walk_at "rd"
      refine r_I (show 0 < size r by omega) ?_
      walk_at "rd"
      have md0 := Int.emod_nonneg (cellM ns 2) (show size r ≠ 0 by omega)
      have md1 := Int.emod_lt_of_pos (cellM ns 2) (show 0 < size r by omega)
      generalize cellM ns 2 % size r = g at md0 md1
      refine r_mkU (by show 3 ≤ sizeLine; decide) fun tt H14 n14 e14' h14 => ?_
      have e614 := exT e14' (exT e13 e612)
      refine forK_tupI (zs := [0, size r - 1, g]) H14 (.of h14) (fun i σ' H' => ∃ (x16 x18 : Option V), σ' = [some (.ref a), some (.ref p), some (.int t), some (.ref kl), some (.ref tb), some (.int (size r)), some (.int (max 0 (hgt t r))), some (.int (max 0 (hgt t r))), some (.ref te), some (.ref ts), some (.int least), x11, x12, some (.ref q), some (.int l), x15, x16, x17, x18] ∧ Ex H14 H')
        ⟨_, _, rfl, Evl.Ex.refl _⟩ (fun i σ' H' ⟨_, _, _, e⟩ => e) ?_ ?_
      · rintro i pl σ' H15 hpl ⟨x16, x18, rfl, e15⟩
        have rg : 0 ≤ pl ∧ pl < size r := by
          have h := List.mem_of_getElem? hpl
          simp only [List.mem_cons, List.not_mem_nil, or_false] at h
          omega
        have e615 := exT e15 e614
        walk_at "rd"
        refine ⟨tb, r, t, pl, rfl, hT6.ex e615, ok, ht.1, ht.2, rg.1, rg.2, fun b3 H16 e16' hb3 => ?_⟩
        walk_at "rd"
        refine ⟨p, r, t, pl, rfl, hR6.ex (exT e16' e615), ok, ht, rg.1, rg.2, fun b4 H17 e17 hb4 => ?_⟩
        walk_at "rd"
        have eb : b4 = b3 := Bool.eq_iff_iff.mpr (hb4.trans hb3.symm)
        subst eb
        refine ⟨b4, b4, rfl, fun H18 e18' => ?_⟩
        rw [decide_eq_true rfl]
        walk_at "rd"
        exact ⟨_, _, rfl, exT e18' (exT e17 (exT e16' e15))⟩
      · rintro σ' H15 ⟨x16, x18, rfl, e15⟩
        have e615 := exT e15 e614
        walk_at "rd"
        refine r_eqD _ _ (hR6.ex e615).dp (hk6.ex e615).dp (rdD_shaped _) (rdD_shaped _) ?_
        rw [rdD_same]
        exact k _ (exT e615 e16)
theorem op_inK {X : Cx} {K : PySem.W.Frag} (h : X.K = K) : OpR X (compareOp .In) (rIn K false) := by
  subst h
  exact op_in_seq
/-- the beads from a place on, once around -/
def rot (r : Ring) (i : Nat) : List Bool := (row r).drop i ++ (row r).take i
theorem rot_len {r : Ring} {i : Nat} (h : i ≤ (row r).length) : (rot r i).length = (row r).length := by
  unfold rot
  rw [List.length_append, List.length_drop, List.length_take]
  omega
theorem rot_count {r : Ring} (ok : Ok r) {i m : Nat} (hi : i ≤ (row r).length) (hm : m ≤ (row r).length) : (((rot r i).take m).count true : Int) = among r i m := by
  have hl := row_len ok.pos
  rw [among_two ok (by omega) (by omega), List.drop_append_of_le_length hi]
  unfold rot
  rw [List.take_append, List.take_append, List.take_take, List.length_drop, Nat.min_eq_left (by omega)]
def dd (t : Int) (r : Ring) (i m : Nat) : Int := (t + 1) * (((rot r i).take m).count true : Int) - t * (m : Int)
theorem dd_next {t : Int} {r : Ring} {i n : Nat} {b : Bool} (h : (rot r i)[n]? = some b) : dd t r i (n + 1) = dd t r i n + (if b then 1 else -t) := by
  unfold dd
  rw [List.take_add_one, h, List.count_append, Int.natCast_add, Int.mul_add, show ((n + 1 : Nat) : Int) = (n : Int) + 1 by omega, Int.mul_add t]
  cases b
  · simp
    omega
  · simp
    omega
theorem good_dd {t : Int} {r : Ring} (ok : Ok r) {i : Nat} (hi : i ≤ (row r).length) : Good t r i ↔ ∀ m : Nat, 1 ≤ m → m ≤ (rot r i).length → 0 < dd t r i m := by
  have hl := row_len ok.pos
  rw [rot_len hi]
  unfold Good dd
  constructor
  · intro g m h1 h2
    rw [rot_count ok hi h2]
    exact g m h1 (by omega)
  · intro g n h1 h2
    have z := g n h1 (by omega)
    rw [rot_count ok hi (by omega)] at z
    exact z
open Classical in
/-- the places that are starts bead by bead, rising -/
noncomputable def goods (t : Int) (r : Ring) (n : Nat) : List Int := ((List.range n).filter fun p : Nat => decide (Good t r (p : Int))).map fun p : Nat => (p : Int)
theorem goods_yes {t : Int} {r : Ring} {n : Nat} (h : Good t r (n : Int)) : goods t r (n + 1) = goods t r n ++ [(n : Int)] := by
  unfold goods
  rw [List.range_succ, List.filter_append, List.map_append]
  simp [h]
theorem goods_no {t : Int} {r : Ring} {n : Nat} (h : ¬ Good t r (n : Int)) : goods t r (n + 1) = goods t r n := by
  unfold goods
  rw [List.range_succ, List.filter_append, List.map_append]
  simp [h]
theorem goods_mem {t : Int} {r : Ring} {n : Nat} {z : Int} : z ∈ goods t r n ↔ 0 ≤ z ∧ z < n ∧ Good t r z := by
  unfold goods
  rw [List.mem_map]
  constructor
  · rintro ⟨p, hp, rfl⟩
    rw [List.mem_filter, List.mem_range] at hp
    exact ⟨by omega, by omega, by simpa using hp.2⟩
  · rintro ⟨h0, h1, g⟩
    refine ⟨z.toNat, ?_, by omega⟩
    rw [List.mem_filter, List.mem_range]
    refine ⟨by omega, ?_⟩
    rw [show ((z.toNat : Nat) : Int) = z by omega]
    simpa using g
theorem goods_up (t : Int) (r : Ring) (n : Nat) : (goods t r n).Pairwise (· < ·) := by
  unfold goods
  rw [List.pairwise_map]
  exact (List.pairwise_lt_range.filter _).imp fun {a b} h => by omega
theorem goods_len (t : Int) (r : Ring) (n : Nat) : (goods t r n).length ≤ n := by
  unfold goods
  rw [List.length_map]
  have z := List.length_filter_le (fun p : Nat => @decide (Good t r (p : Int)) (Classical.propDecidable _)) (List.range n)
  rw [List.length_range] at z
  exact z
theorem sorted_ext : ∀ l m : List Int, l.Pairwise (· < ·) → m.Pairwise (· < ·) → (∀ x, x ∈ l ↔ x ∈ m) → l = m
  | [], [], _, _, _ => rfl
  | [], b :: m, _, _, h => nomatch (h b).mpr List.mem_cons_self
  | a :: l, [], _, _, h => nomatch (h a).mp List.mem_cons_self
  | a :: l, b :: m, h1, h2, h => by
    rw [List.pairwise_cons] at h1 h2
    have ab : a = b := by
      rcases List.mem_cons.mp ((h a).mp List.mem_cons_self) with e | e
      · exact e
      · rcases List.mem_cons.mp ((h b).mpr List.mem_cons_self) with e' | e'
        · exact e'.symm
        · have := h2.1 a e
          have := h1.1 b e'
          omega
    subst ab
    congr 1
    refine sorted_ext l m h1.2 h2.2 fun x => ⟨fun hx => ?_, fun hx => ?_⟩
    · have := h1.1 x hx
      rcases List.mem_cons.mp ((h x).mp (List.mem_cons_of_mem _ hx)) with e | e
      · omega
      · exact e
    · have := h2.1 x hx
      rcases List.mem_cons.mp ((h x).mpr (List.mem_cons_of_mem _ hx)) with e | e
      · omega
      · exact e
theorem goods_places {t : Int} {r : Ring} {b : Int} (u : Up t r b) : (goods t r (row r).length).length = (hgt t r).toNat ∧ ∀ (i : Nat) (x : Int), (goods t r (row r).length)[i]? = some x → PlaceOf t r b x (min 0 b + i) := by
  have hl := row_len u.ok.pos
  have s := u.s
  have th : ∀ i : Nat, i < (hgt t r).toNat → ∃ p, PlaceOf t r b p (min 0 b + i) := fun i hi => u.there (by omega) (by omega)
  obtain ⟨P, P1, P2⟩ : ∃ P : List Int, P.length = (hgt t r).toNat ∧ ∀ (i : Nat) (x : Int), P[i]? = some x → PlaceOf t r b x (min 0 b + i) := by
    have go : ∀ n : Nat, n ≤ (hgt t r).toNat → ∃ P : List Int, P.length = n ∧ ∀ (i : Nat) (x : Int), P[i]? = some x → PlaceOf t r b x (min 0 b + i) := by
      intro n
      induction n with
      | zero => intro _; exact ⟨[], rfl, fun i x h => by simp at h⟩
      | succ n ih =>
        intro hn
        obtain ⟨P, h1, h2⟩ := ih (by omega)
        obtain ⟨p, hp⟩ := th n (by omega)
        refine ⟨P ++ [p], by simp [h1], fun i x hx => ?_⟩
        by_cases c : i < n
        · rw [List.getElem?_append_left (by omega)] at hx
          exact h2 i x hx
        · have e : i = n := by
            have := (List.getElem?_eq_some_iff.mp hx).1
            simp at this
            omega
          subst e
          rw [List.getElem?_append_right (by omega), h1] at hx
          simp at hx
          subst hx
          exact hp
    exact go _ (Nat.le_refl _)
  have e : goods t r (row r).length = P := by
    refine sorted_ext _ _ (goods_up t r _) (List.pairwise_iff_getElem.mpr fun i j hi hj lt => u.rise (P2 i _ (List.getElem?_eq_getElem hi)) (P2 j _ (List.getElem?_eq_getElem hj)) (by omega)) fun x => ?_
    rw [goods_mem]
    constructor
    · rintro ⟨h0, h1, g⟩
      have hS := (u.ends h0 (by omega)).mp ((u.good h0 (by omega)).mp g)
      have hP := u.place.mpr hS
      have num := u.number hP
      have hi : (hp t r x - min 0 b).toNat < P.length := by omega
      have z := P2 _ _ (List.getElem?_eq_getElem hi)
      rw [show min 0 b + (((hp t r x - min 0 b).toNat : Nat) : Int) = hp t r x by omega] at z
      rw [u.one hP z]
      exact List.getElem_mem hi
    · intro hx
      obtain ⟨i, hi⟩ := List.getElem?_of_mem hx
      have hS := u.place.mp (P2 i x hi)
      have rg := hS.range u.ok
      have hh := hS.height u.ok
      refine ⟨rg.1, by omega, (u.good rg.1 rg.2).mpr ((u.ends rg.1 rg.2).mpr (by rw [hh]; exact hS))⟩
  rw [e]
  exact ⟨P1, P2⟩
theorem goods_none {t : Int} {r : Ring} (ok : Ok r) (h : ¬ 0 < hgt t r) : goods t r (row r).length = [] := by
  have hl := row_len ok.pos
  refine List.eq_nil_iff_forall_not_mem.mpr fun x hx => ?_
  obtain ⟨h0, h1, g⟩ := goods_mem.mp hx
  exact good_none ok h h0 (by omega) g
theorem good_ends {t : Int} {r : Ring} (ok : Ok r) (ht : 1 ≤ t) {p : Int} (h0 : 0 ≤ p) (h1 : p < size r) : EndsSay t r p ↔ Good t r p := by
  by_cases s : 0 < hgt t r
  · obtain ⟨b, hb⟩ := low_there ok t
    exact ((⟨ok, ht, s, hb⟩ : Up t r b).good h0 h1).symm
  · exact ⟨fun e => absurd e (ends_none s), fun e => absurd e (good_none ok s h0 h1)⟩
def sp_law_small_right (K : PySem.W.Frag) : Sp := fun vs H Q _ => ∃ (a : Addr) (r : Ring) (t : Int), vs = [.ref a, .int t] ∧ RingAt K H a r ∧ Ok r ∧ r.length ≤ 10 ∧ (∀ x ∈ r, x.2 ≤ 3) ∧ Tm t ∧ ∀ H', Ex H H' → Q (.bl true) H'
set_option maxHeartbeats 4000000 in
theorem c_law_small_right (T : Txt K mg) : Cal P w K mg base 5 "_law_small_right" (sp_law_small_right K) := by
  refine cal T.d__law_small_right sc_law_small_right (by rintro vs H Q E ⟨_, _, _, rfl, _⟩; rfl) (fun f cdv A outer s H vs Q E hr h => ?_)
  obtain ⟨a, r, t, rfl, hR, ok, few, h3, ht, k⟩ := h
  have sz := size_lim (M := 3) (by decide) r h3
  have rl := row_len ok.pos
  have sl := sizeLine_eq
  have W0 := ok.size_pos
  have m := mine_le r ok.pos
  have sH : hgt t r ≤ size r := by
    have e := surplus_eq t r
    have z : 0 ≤ t * (size r - mine r) := Int.mul_nonneg (by omega) (by omega)
    omega
  refine ⟨_, (pss_cons (ps_asg (pe_tup (pa_cons (pe_c (c_law_row T) hr (by decide) (by rfl) (pa_cons (pv 0) pa_nil)) (pa_cons (pe_lst pa_nil) pa_nil))) (pg_tup (n := 2) rfl (pgs_cons (pg_name (i := 2) sc_law_small_right.nd rfl (by first | exact Or.inl rfl | exact Or.inr rfl)) (pgs_cons (pg_name (i := 3) sc_law_small_right.nd rfl (by first | exact Or.inl rfl | exact Or.inr rfl)) pgs_nil))))
        (pss_cons (ps_for PassesOwn.never rfl (pi_range1 rfl T.m_range (pa_cons (pe_callB cr_lenS (by rfl) T.m_len (by decide +kernel) (pa_cons (pv 2) pa_nil)) pa_nil)) (pg_name (i := 4) sc_law_small_right.nd rfl (by first | exact Or.inl rfl | exact Or.inr rfl))
          (pss_cons (ps_asg (pe_tup (pa_cons pe_int (pa_cons pe_bl pa_nil))) (pg_tup (n := 2) rfl (pgs_cons (pg_name (i := 5) sc_law_small_right.nd rfl (by first | exact Or.inl rfl | exact Or.inr rfl)) (pgs_cons (pg_name (i := 6) sc_law_small_right.nd rfl (by first | exact Or.inl rfl | exact Or.inr rfl)) pgs_nil))))
          (pss_cons (ps_for PassesOwn.never rfl (pi_str (pe_op op_addS (pe_slice sl_str (pv 2) (po_some (pv 4)) po_none) (pe_slice sl_str (pv 2) po_none (po_some (pv 4))))) (pg_name (i := 7) sc_law_small_right.nd rfl (by first | exact Or.inl rfl | exact Or.inr rfl))
            (pss_cons (ps_set (i := 5) sc_law_small_right.nd rfl (by first | exact Or.inl rfl | exact Or.inr rfl) (pe_op op_add (pv 5) (pe_ifExp (pt_cmpR op_eq (pv 7) pe_str (nomark _)) pe_int (pe_un un_neg (pv 1)))))
            (pss_one (ps_set (i := 6) sc_law_small_right.nd rfl (by first | exact Or.inl rfl | exact Or.inr rfl) (pe_and (pv 6) (pe_one (pe_cmpR op_gt (pv 5) pe_int (nomark _))))))))
          (pss_one (ps_if (pt_val (pv 6)) (pss_one (ps_expr (pe_bm PySem.F.plainAttrs_list PySem.F.slot_list_append PySem.F.type_list_append mt_append (pv 3) (pa_cons (pv 4) pa_nil)))) pss_nil)))))
        (pss_cons (ps_set (i := 8) sc_law_small_right.nd rfl (by first | exact Or.inl rfl | exact Or.inr rfl) (pe_c (c_starts T) hr (by decide) (by rfl) (pa_cons (pv 0) (pa_cons (pv 1) pa_nil))))
        (pss_cons (ps_if (pt_cmpR (op_neD hr.units) (pv 3) (pe_lc (own := [("_law_at", 9)]) (g := (gName 9)) rfl sc_law_small_right.nd (pi_range1 rfl T.m_range (pa_cons (pv 8) pa_nil)) (blkOk_by (own := [("_law_at", 9)]) (N := ["_law_ring_here", "_law_times_here", "_law_row_here", "_law_found", "_law_place", "_law_ahead_here", "_law_good", "_law_letter", "_law_told", "_law_at"]) (sc := defScope s_law_small_right) (by decide +kernel)) (fun _ _ _ _ _ => (pg_name (i := 9) sc_law_small_right.nd rfl (by first | exact Or.inl rfl | exact Or.inr rfl))) (fun _ _ _ _ _ => pts_nil) (fun _ _ _ _ _ => (pe_c (c_start_at T) hr (by decide) (by rfl) (pa_cons (pv 0) (pa_cons (pv 1) (pa_cons (pv 9) pa_nil)))))) (nomark _)) (pss_one (ps_ret pe_bl)) pss_nil)
        (pss_one (ps_ret (pe_callB (cr_all rfl) (by rfl) T.m_all (by decide +kernel) (pa_cons (pe_lc (own := [("_law_place", 4)]) (g := (gName 4)) rfl sc_law_small_right.nd (pi_range1 rfl T.m_range (pa_cons (pe_callB cr_lenS (by rfl) T.m_len (by decide +kernel) (pa_cons (pv 2) pa_nil)) pa_nil)) (blkOk_by (own := [("_law_place", 4)]) (N := ["_law_ring_here", "_law_times_here", "_law_row_here", "_law_found", "_law_place", "_law_ahead_here", "_law_good", "_law_letter", "_law_told", "_law_at"]) (sc := defScope s_law_small_right) (by decide +kernel)) (fun _ _ _ _ _ => (pg_name (i := 4) sc_law_small_right.nd rfl (by first | exact Or.inl rfl | exact Or.inr rfl))) (fun _ _ _ _ _ => pts_nil) (fun _ _ _ _ _ => (pe_c (c_law_says T) hr (by decide) (by rfl) (pa_cons (pe_c (c_is_start T) hr (by decide) (by rfl) (pa_cons (pv 0) (pa_cons (pv 1) (pa_cons (pv 4) pa_nil)))) (pa_cons (pe_cmpR (op_inK (K := K) rfl) (pv 4) (pv 3) (by rfl)) pa_nil))))) pa_nil)))))))), ?_⟩
  refine at_start (σ := [some (.ref a), some (.int t), none, none, none, none, none, none, none, none]) rfl ?_; simp only [kx, kx', kb, mx, mx']
  walk_at "rd"
  refine ⟨a, r, rfl, hR, by omega, fun x hx => ⟨ok.pos x hx, by have := h3 x hx; omega⟩, fun H1 e1 => ?_⟩
  walk_at "rd"
  refine r_mkL (by decide) fun q H2 n2 e2 h2 => ?_
  walk_at "rd"
  refine r_mkU (by show 2 ≤ sizeLine; decide) fun tq0 H2' n2' e2' h2' => ?_
  walk_at "rd"
  replace h2 := e2' _ _ h2
  replace e2 := exT e2' e2
  refine r_lenS (txt_len _) (by omega) ?_
  walk_at "rd"
  refine r_rng1b (n := (row r).length) rfl (by omega) ?_
  refine forK_rng (fun i σ' H' => ∃ (x4 x5 x6 x7 : Option V), σ' = [some (.ref a), some (.int t), some (.str (txt (row r))), some (.ref q), x4, x5, x6, x7, none, none] ∧ Ex H1 H' ∧ H' q = some (.lst ((goods t r i).map V.int)))
    ⟨_, _, _, _, rfl, e2, h2⟩ ?_ ?_
  · rintro i σ' H3 hi ⟨x4, x5, x6, x7, rfl, e3, hq⟩
    rw [show (0 : Int) + (i : Int) = (i : Int) by omega]
    walk_at "rd"
    refine r_mkU (by show 2 ≤ sizeLine; decide) fun tq H4 n4 e4 h4 => ?_
    walk_at "rd"
    replace hq := e4 _ _ hq
    replace e3 := exT e4 e3
    refine r_iS ?_
    walk_at "rd"
    refine r_slS (by rw [txt_len]; omega) ?_
    rw [txt_from (by omega)]
    walk_at "rd"
    refine r_slS (by rw [txt_len]; omega) ?_
    rw [txt_to (by omega)]
    refine r_addS (by rw [txt_len, txt_len, List.length_drop, List.length_take]; omega) ?_
    rw [txt_app]
    refine forK_txt (l := rot r i) (fun n σ' H' => ∃ (g : Bool) (x7 : Option V), σ' = [some (.ref a), some (.int t), some (.str (txt (row r))), some (.ref q), some (.int (i : Int)), some (.int (dd t r i n)), some (.bl g), x7, none, none] ∧ H' = H4 ∧ (g = true ↔ ∀ m : Nat, 1 ≤ m → m ≤ n → 0 < dd t r i m))
      ⟨true, _, by rw [show dd t r i 0 = 0 by simp [dd]], rfl, fun _ m h1 h2 => absurd h1 (by omega), fun _ => rfl⟩ ?_ ?_
    · rintro n bd σ' H5 hn ⟨g, x7, rfl, rfl, hg⟩
      have dn := dd_next (t := t) hn
      walk_at "rd"
      refine r_val (.int (if bd then 1 else -t)) (fun R z => r_if ?_) ?_
      · walk_at "rd"
        rw [kS_a]
        cases bd
        · walk_at "rd"
          exact z
        · walk_at "rd"
          exact z
      · walk_at "rdS"
        rw [← dn]
        refine r_val (.bl (g && decide (0 < dd t r i (n + 1)))) (fun R z => ?_) ?_
        · walk_at "rd"
          cases g
          · walk_at "rd"
            exact z
          · walk_at "rd"
            exact z
        · walk_at "rd"
          refine ⟨_, _, rfl, rfl, ?_⟩
          rw [Bool.and_eq_true, hg, decide_eq_true_iff]
          constructor
          · rintro ⟨z1, z2⟩ m m1 m2
            by_cases e : m = n + 1
            · subst e
              exact z2
            · exact z1 m m1 (by omega)
          · intro z
            exact ⟨fun m m1 m2 => z m m1 (by omega), z (n + 1) (by omega) (Nat.le_refl _)⟩
    · rintro σ' H5 ⟨g, x7, rfl, rfl, hg⟩
      rw [← good_dd ok (by omega)] at hg
      walk_at "rd"
      cases g
      · have no : ¬ Good t r (i : Int) := fun z => Bool.false_ne_true (hg.mpr z)
        walk_at "rd"
        refine ⟨_, _, _, _, rfl, e3, ?_⟩
        rw [goods_no no]
        exact hq
      · have yes := hg.mp rfl
        walk_at "rd"
        refine r_app1 hq ?_
        walk_at "rd"
        have gl := goods_len t r i
        refine r_app2 hq (Evl.sz_lt (by rw [List.length_map]; omega)) ?_
        refine ⟨_, _, _, _, rfl, exM e3 n2, ?_⟩
        rw [upd_same, goods_yes yes, List.map_append]
        rfl
  · rintro σ' H3 ⟨x4, x5, x6, x7, rfl, e3, hq⟩
    have e13 := exT e3 e1
    have gm : ∀ z, z ∈ goods t r (row r).length ↔ 0 ≤ z ∧ z < size r ∧ Good t r z := fun z => by rw [goods_mem, rl]
    have told : ∀ (i : Nat) (x : Int), (goods t r (row r).length)[i]? = some x → ((i : Int) < hgt t r ∧ ∀ b, Up t r b → PlaceOf t r b x (min 0 b + i)) := fun i x hx => by
      by_cases s : 0 < hgt t r
      · obtain ⟨b, hb⟩ := low_there ok t
        obtain ⟨g1, g2⟩ := goods_places (⟨ok, ht.1, s, hb⟩ : Up t r b)
        have := (List.getElem?_eq_some_iff.mp hx).1
        exact ⟨by omega, fun b' u' => by rw [u'.low.one hb]; exact g2 i x hx⟩
      · rw [goods_none ok s] at hx
        simp at hx
    have tlen : ((goods t r (row r).length).length : Int) = max 0 (hgt t r) := by
      by_cases s : 0 < hgt t r
      · obtain ⟨b, hb⟩ := low_there ok t
        have g1 := (goods_places (⟨ok, ht.1, s, hb⟩ : Up t r b)).1
        omega
      · rw [goods_none ok s]
        simp
        omega
    generalize hG : goods t r (row r).length = G at *
    walk_at "rd"
    refine ⟨a, r, t, rfl, hR.ex e13, ok, ht, fun H4 e4 => ?_⟩
    rw [← tlen]
    walk_at "rd"
    refine r_rng1b (n := G.length) rfl (by omega) ?_
    have e14 := exT e4 e13
    refine lcK_range (G.map V.int) (by simp) (by omega) (fun _ => rfl) (fun i y hy H5 e5 Q1 k1 => ?_) fun l H5 n5 e5 h5 => ?_
    · rw [List.getElem?_map] at hy
      cases ex : G[i]? with
      | none => rw [ex] at hy; cases hy
      | some x =>
        rw [ex] at hy
        cases hy
        obtain ⟨t1, t2⟩ := told i x ex
        walk_at "rd"
        refine ⟨a, r, t, (i : Int), rfl, (hR.ex e14).ex e5, ok, ht, by omega, t1, fun b p H6 e6 u hp => ?_⟩
        rw [u.one hp (t2 b u)]
        exact k1 H6 e6
    · refine r_neD _ _ (dp_ints (exL (exT e5 e4) (.of hq))) (dp_ints (.of h5)) (inD_shaped _) (inD_shaped _) ?_
      rw [inD_same]
      walk_at "rd"
      refine r_lenS (txt_len _) (by omega) ?_
      walk_at "rd"
      refine r_rng1b (n := (row r).length) rfl (by omega) ?_
      have e15 := exT e5 e14
      refine lcK_range ((List.replicate (row r).length true).map V.bl) (by simp) (by omega) (fun _ => rfl) (fun i y hy H6 e6 Q1 k1 => ?_) fun l2 H6 n6 e6 h6 => ?_
      · have hi : i < (row r).length := by
          have := (List.getElem?_eq_some_iff.mp hy).1
          simpa using this
        have ey : y = .bl true := by
          rw [List.getElem?_map, List.getElem?_replicate, if_pos hi] at hy
          exact (Option.some.inj hy).symm
        subst ey
        walk_at "rd"
        refine ⟨a, r, t, (i : Int), rfl, (hR.ex e15).ex e6, ok, ht, by omega, by omega, fun b H7 e7 hb => ?_⟩
        walk_at "rd"
        refine r_in (.inl (exL (exT e7 (exT e6 (exT e5 e4))) (.of hq))) rfl (flat_int _) ?_
        rw [inV_int]
        walk_at "rd"
        have eb : b = decide ((i : Int) ∈ G) := by
          rw [Bool.eq_iff_iff, hb, decide_eq_true_iff, gm, good_ends ok ht.1 (by omega) (by omega)]
          exact ⟨fun z => ⟨by omega, by omega, z⟩, fun z => z.2.2⟩
        refine ⟨_, _, rfl, fun H8 e8 => ?_⟩
        rw [decide_eq_true eb]
        exact k1 H8 (exT e8 e7)
      · walk_at "rd"
        refine r_all (.of h6) ?_
        rw [show (List.replicate (row r).length true).all id = true by simp]
        exact k _ (exT e6 e15)
def sp_law_ring (K : PySem.W.Frag) : Sp := fun vs H Q _ => ∃ (a : Addr) (ns : List Int), vs = [.ref a] ∧ SqL K H a (ns.map V.int) ∧ ns.length ≤ 63 ∧ (∀ z ∈ ns, Builtin.Int.intBits z ≤ 1048576) ∧ ∀ p H', Ex H H' → RingAt K H' p (ringM ns) → Q (.ref p) H'
theorem c_law_ring (T : Txt K mg) : Cal P w K mg base 3 "_law_ring" (sp_law_ring K) := by
  refine cal T.d__law_ring sc_law_ring (by rintro vs H Q E ⟨_, _, rfl, _⟩; rfl) (fun f cdv A outer s H vs Q E hr h => ?_)
  obtain ⟨a, ns, rfl, hS, hl, hb, k⟩ := h
  have lim0 := limM_range ns
  have sl0 : 0 ≤ slantM ns ∧ slantM ns < 4 := drawM_range (by decide)
  refine ⟨_, (pss_cons (ps_set (i := 0) sc_law_ring.nd rfl (by first | exact Or.inl rfl | exact Or.inr rfl) (pe_slice sl_list (pv 0) po_none (po_some pe_int)))
        (pss_cons (ps_set (i := 1) sc_law_ring.nd rfl (by first | exact Or.inl rfl | exact Or.inr rfl) (pe_ix ix_tup (pe_tup (pa_cons pe_int (pa_cons pe_int (pa_cons pe_int (pa_cons pe_int pa_nil))))) (pe_c (c_law_draw T) hr (by decide) (by rfl) (pa_cons (pe_c (c_law_cell_at T) hr (by decide) (by rfl) (pa_cons (pv 0) (pa_cons pe_int pa_nil))) (pa_cons pe_int (pa_cons pe_int pa_nil)))) (fun _ _ => rfl)))
        (pss_cons (ps_set (i := 2) sc_law_ring.nd rfl (by first | exact Or.inl rfl | exact Or.inr rfl) (pe_c (c_law_draw T) hr (by decide) (by rfl) (pa_cons (pe_c (c_law_cell_at T) hr (by decide) (by rfl) (pa_cons (pv 0) (pa_cons pe_int pa_nil))) (pa_cons pe_int (pa_cons pe_int pa_nil)))))
        (pss_cons (ps_set (i := 3) sc_law_ring.nd rfl (by first | exact Or.inl rfl | exact Or.inr rfl) (pe_lst pa_nil))
        (pss_cons (ps_for PassesOwn.never rfl (pi_enum (by rfl) T.m_enumerate (pa_cons (pv 0) pa_nil)) (pg_tup (n := 2) rfl (pgs_cons (pg_name (i := 4) sc_law_ring.nd rfl (by first | exact Or.inl rfl | exact Or.inr rfl)) (pgs_cons (pg_name (i := 5) sc_law_ring.nd rfl (by first | exact Or.inl rfl | exact Or.inr rfl)) pgs_nil)))
          (pss_cons (ps_set (i := 6) sc_law_ring.nd rfl (by first | exact Or.inl rfl | exact Or.inr rfl) (pe_c (c_law_number T) hr (by decide) (by rfl) (pa_cons (pv 5) (pa_cons (pv 4) (pa_cons (pe_op op_mulX pe_int (pv 1)) pa_nil)))))
          (pss_cons (ps_set (i := 7) sc_law_ring.nd rfl (by first | exact Or.inl rfl | exact Or.inr rfl) (pe_ifExp (pt_cmpR op_lt (pv 2) pe_int (nomark _)) (pe_ix ix_str pe_str (pe_op op_mod (pv 6) pe_int) (fun _ _ => rfl)) (pe_ix ix_str pe_str (pe_op op_mod (pv 4) pe_int) (fun _ _ => rfl))))
          (pss_one (ps_expr (pe_bm PySem.F.plainAttrs_list PySem.F.slot_list_append PySem.F.type_list_append mt_append (pv 3) (pa_cons (pe_tup (pa_cons (pv 7) (pa_cons (pe_op op_add pe_int (pe_op op_mulX (pe_op op_fdivW (pv 6) pe_int) (pe_ifExp (PW.pt (pw_and (pt_cmpR op_eq (pv 2) pe_int (nomark _)) (pw_and1 (pt_cmpR op_eq (pv 7) pe_str (nomark _))))) pe_int pe_int))) pa_nil))) pa_nil)))))))
        (pss_one (ps_ret (pe_ifExp (pt_cmpR (op_neD hr.units) (pv 3) (pe_lst pa_nil) (nomark _)) (pv 3) (pe_lst (pa_cons (pe_tup (pa_cons pe_str (pa_cons pe_int pa_nil))) pa_nil)))))))))), ?_⟩
  refine at_start (σ := [some (.ref a), none, none, none, none, none, none, none]) rfl ?_; simp only [kx, kx', kb, mx, mx']
  walk_at "rd"
  refine r_slL hS fun l H1 n1 e1 h1 => ?_
  rw [show cutV (ns.map V.int) none (some 63) = ns.map V.int from (cut_to _ 63).trans (List.take_of_length_le (by rw [List.length_map]; exact hl))] at h1
  walk_at "rd"
  refine r_mkU (by show 4 ≤ sizeLine; decide) fun t H2 n2 e2 h2 => ?_
  walk_at "rd"
  have hS2 : SqL K H2 l (ns.map V.int) := exL e2 (.of h1)
  refine ⟨l, ns, 0, rfl, hS2, fun H3 e3 => ?_⟩
  walk_at "rd"
  refine ⟨_, _, _, rfl, Nat.le_trans (cell_bits hb 0) (by decide), by decide, by decide, by decide, fun H4 e4 => ?_⟩
  have ex4 : Ex H2 H4 := exT e4 e3
  refine r_ixT (exU ex4 (.of h2)) (lim_ix ns) ?_
  walk_at "rd"
  refine ⟨l, ns, 1, rfl, exL ex4 hS2, fun H5 e5 => ?_⟩
  walk_at "rd"
  refine ⟨_, _, _, rfl, Nat.le_trans (cell_bits hb 1) (by decide), by decide, by decide, by decide, fun H6 e6 => ?_⟩
  walk_at "rd"
  refine r_mkL (by decide) fun q H7 n7 e7 h7 => ?_
  have ex6 : Ex H2 H6 := exT e6 (exT e5 ex4)
  have exA : Ex H H6 := exT ex6 (exT e2 e1)
  walk_at "rd"
  refine forK_enum H6 (exL ex6 hS2) (fun n σ' H' => ∃ x1 x2 x3 x4, σ' = [some (.ref l), some (.int (limM ns)), some (.int (slantM ns)), some (.ref q), x1, x2, x3, x4] ∧ Ex H6 H' ∧ RingAt K H' q ((mapK (strM (limM ns) (slantM ns)) ns).take n))
    ⟨_, _, _, _, rfl, e7, .nil h7⟩ (fun n σ' H' ⟨_, _, _, _, _, e, _⟩ => e) (fun m σ' H' H'' e ⟨x1, x2, x3, x4, z, e', hR⟩ => ⟨x1, x2, x3, x4, z, exT e e', hR.ex e⟩) ?_ ?_
  · rintro n z σ' H' hn ⟨x1, x2, x3, x4, rfl, e, hR⟩
    have hln : n < ns.length := (List.getElem?_eq_some_iff.mp hn).1
    walk_at "rd"
    refine r_I (mulx_60 (by omega) (by omega)) ?_
    walk_at "rd"
    refine ⟨z, n, _, rfl, hb z (List.mem_of_getElem? hn), by omega, by omega, by omega, fun H8 e8 => ?_⟩
    have nr := numM_range (cell := z) (k := (n : Int)) (lim := 2 * limM ns) (by omega) (by omega)
    walk_at "rd"
    obtain ⟨vs, hv, hvl⟩ := (hR.ex e8).lst
    have key : ∀ (kd : Bool), kd = (if slantM ns < 2 then decide (numM z n (2 * limM ns) % 2 = 0) else decide ((n : Int) % 2 = 0)) → strM (limM ns) (slantM ns) n z = (kd, 1 + numM z n (2 * limM ns) / 2 * (if slantM ns = 3 ∧ kd = true then 3 else 1)) := fun kd e => by
      rw [e]; rfl
    have fin : ∀ (kd : Bool) (m : Int) (p : Addr) (H9 : Hp), Ex H8 H9 → H9 p = some (.tup [.str (kS kd), .int m]) → strM (limM ns) (slantM ns) n z = (kd, m) →
        ∃ vs', H9 q = some (.lst vs') ∧ vs'.length < sizeLine ∧ ∀ y1 y2 y3 y4, (∃ x1 x2 x3 x4, [some (V.ref l), some (V.int (limM ns)), some (V.int (slantM ns)), some (V.ref q), y1, y2, y3, y4] = [some (.ref l), some (.int (limM ns)), some (.int (slantM ns)), some (.ref q), x1, x2, x3, x4] ∧ Ex H6 (upd H9 q (.lst (vs' ++ [.ref p]))) ∧ RingAt K (upd H9 q (.lst (vs' ++ [.ref p]))) q ((mapK (strM (limM ns) (slantM ns)) ns).take (n + 1))) := fun kd m p H9 e9 hp es => by
      obtain ⟨vs', hv', hvl'⟩ := ((hR.ex e8).ex e9).lst
      refine ⟨vs', hv', Evl.sz_lt (by rw [hvl', List.length_take, mapK_len]; omega), fun y1 y2 y3 y4 => ⟨_, _, _, _, rfl, exM (exT e9 (exT e8 e)) n7, ?_⟩⟩
      rw [mapK_take hn, es]
      exact ((hR.ex e8).ex e9).snoc hv' hp
    refine r_val (.str (kS (if slantM ns < 2 then decide (numM z n (2 * limM ns) % 2 = 0) else decide ((n : Int) % 2 = 0)))) (fun R q => ?_) ?_
    · refine r_if ?_
      walk_at "rd"
      refine iteD (fun c => ?_) (fun c => ?_)
      · rw [if_pos c] at q
        walk_at "rd"
        refine r_I (by decide) ?_
        exact r_ab (Int.emod_nonneg _ (by decide)) (Int.emod_lt_of_pos _ (by decide)) q
      · rw [if_neg c] at q
        walk_at "rd"
        refine r_I (by decide) ?_
        exact r_ab (Int.emod_nonneg _ (by decide)) (Int.emod_lt_of_pos _ (by decide)) q
    · generalize hkd : (if slantM ns < 2 then decide (numM z n (2 * limM ns) % 2 = 0) else decide ((n : Int) % 2 = 0)) = kd
      walk_at "rd"
      refine r_app1 hv ?_
      walk_at "rd"
      refine r_I ⟨by decide, by decide⟩ ?_
      refine r_val (.int (if slantM ns = 3 ∧ kd = true then 3 else 1)) (fun R q => ?_) ?_
      · refine r_if ?_
        walk_at "rd"
        refine iteD (fun c => ?_) (fun c => ?_)
        · walk_at "rd"
          rw [kS_a]
          cases kd
          · rw [if_neg (fun z => Bool.false_ne_true z.2)] at q
            walk_at "rd"
            exact q
          · rw [if_pos ⟨c, rfl⟩] at q
            walk_at "rd"
            exact q
        · rw [if_neg (fun z => c z.1)] at q
          walk_at "rd"
          exact q
      · have three : ∀ c : Prop, [Decidable c] → (if c then (3 : Int) else 1) = 3 ∨ (if c then (3 : Int) else 1) = 1 := fun c _ => by split <;> simp
        have th := three (slantM ns = 3 ∧ kd = true)
        refine r_I (mulx_60 (by omega) (by omega)) ?_
        walk_at "rd"
        refine r_mkU (by show 2 ≤ sizeLine; decide) fun p H9 n9 e9 h9 => ?_
        walk_at "rd"
        obtain ⟨vs', g1, g2, g3⟩ := fin kd _ p H9 e9 h9 (key kd hkd.symm)
        refine r_app2 g1 g2 ?_
        exact g3 _ _ _ _
  · rintro σ' H' ⟨x1, x2, x3, x4, rfl, e, hR⟩
    rw [List.take_of_length_le (by rw [mapK_len]; exact Nat.le_refl _)] at hR
    walk_at "rdI"
    refine r_mkL (by decide) fun p H8 n8 e8 h8 => ?_
    refine r_neD _ _ (hR.ex e8).dp (dp_nil h8) (rdD_shaped _) (rdD_shaped _) ?_
    rw [rdD_nil]
    walk_at "rd"
    refine iteN (fun z => ?_) (fun z => ?_)
    · walk_at "rd"
      refine k q H8 (exT e8 (exT e exA)) ?_
      unfold ringM orOne
      rw [if_neg z]
      exact hR.ex e8
    · walk_at "rd"
      refine r_mkU (by show 2 ≤ sizeLine; decide) fun p9 H9 n9 e9 h9 => ?_
      walk_at "rd"
      refine r_mkL (by show 1 ≤ sizeLine; decide) fun p10 H10 n10 e10 h10 => ?_
      refine k p10 H10 (exT e10 (exT e9 (exT e8 (exT e exA)))) ?_
      unfold ringM orOne
      rw [if_pos z]
      exact .one (k := true) h10 (e10 _ _ h9)
def sp_law_small (K : PySem.W.Frag) : Sp := fun vs H Q _ => ∃ (a : Addr) (ns : List Int) (b : Nat), vs = [.ref a, .int b] ∧ SqL K H a (ns.map V.int) ∧ ns.length ≤ 63 ∧ (∀ z ∈ ns, Builtin.Int.intBits z ≤ 1048576) ∧ b ≤ 100 ∧ ∀ p H', Ex H H' → RingAt K H' p (smallM ns b) → Q (.ref p) H'
theorem c_law_small (T : Txt K mg) : Cal P w K mg base 3 "_law_small" (sp_law_small K) := by
  refine cal T.d__law_small sc_law_small (by rintro vs H Q E ⟨_, _, _, rfl, _⟩; rfl) (fun f cdv A outer s H vs Q E hr h => ?_)
  obtain ⟨a, ns, b, rfl, hS, hl, hb, hb2, k⟩ := h
  refine ⟨_, (pss_cons (ps_set (i := 2) sc_law_small.nd rfl (by first | exact Or.inl rfl | exact Or.inr rfl) (pe_lst pa_nil))
        (pss_cons (ps_for PassesOwn.never rfl (pi_enum (by rfl) T.m_enumerate (pa_cons (pe_slice sl_list (pv 0) po_none (po_some pe_int)) pa_nil)) (pg_tup (n := 2) rfl (pgs_cons (pg_name (i := 3) sc_law_small.nd rfl (by first | exact Or.inl rfl | exact Or.inr rfl)) (pgs_cons (pg_name (i := 4) sc_law_small.nd rfl (by first | exact Or.inl rfl | exact Or.inr rfl)) pgs_nil)))
          (pss_cons (ps_set (i := 5) sc_law_small.nd rfl (by first | exact Or.inl rfl | exact Or.inr rfl) (pe_c (c_law_number T) hr (by decide) (by rfl) (pa_cons (pv 4) (pa_cons (pe_op op_add (pv 3) (pv 1)) (pa_cons pe_int pa_nil)))))
          (pss_one (ps_expr (pe_bm PySem.F.plainAttrs_list PySem.F.slot_list_append PySem.F.type_list_append mt_append (pv 2) (pa_cons (pe_tup (pa_cons (pe_ix ix_str pe_str (pe_op op_mod (pv 5) pe_int) (fun _ _ => rfl)) (pa_cons (pe_op op_add pe_int (pe_op op_mod (pe_op op_fdivW (pv 5) pe_int) pe_int)) pa_nil))) pa_nil))))))
        (pss_one (ps_ret (pe_ifExp (pt_cmpR (op_neD hr.units) (pv 2) (pe_lst pa_nil) (nomark _)) (pv 2) (pe_lst (pa_cons (pe_tup (pa_cons pe_str (pa_cons pe_int pa_nil))) pa_nil))))))), ?_⟩
  refine at_start (σ := [some (.ref a), some (.int b), none, none, none, none]) rfl ?_; simp only [kx, kx', kb, mx, mx']
  walk_at "rd"
  refine r_mkL (by decide) fun q H1 n1 e1 h1 => ?_
  walk_at "rd"
  refine r_slL (exL e1 hS) fun l H2 n2 e2 h2 => ?_
  rw [show cutV (ns.map V.int) none (some 10) = (ns.take 10).map V.int from (cut_to _ 10).trans (List.map_take).symm] at h2
  walk_at "rd"
  have nlq : l ≠ q := fun e => by
    rw [e, h1] at n2
    cases n2
  have hbt : ∀ z ∈ ns.take 10, Builtin.Int.intBits z ≤ 1048576 := fun z hz => hb z (List.mem_of_mem_take hz)
  have eh : Ex H (hide q H2) := hide_up (exT e2 e1) n1
  refine forK_enum (hide q H2) (.of (hide_at nlq h2)) (fun n σ' H' => ∃ x1 x2 x3, σ' = [some (.ref a), some (.int b), some (.ref q), x1, x2, x3] ∧ Ex (hide q H2) H' ∧ RingAt K H' q ((mapK (smM b) (ns.take 10)).take n))
    ⟨_, _, _, rfl, hide_ex, .nil (e2 _ _ h1)⟩ (fun n σ' H' ⟨_, _, _, _, e, _⟩ => e) (fun m σ' H' H'' e ⟨x1, x2, x3, z, e', hR⟩ => ⟨x1, x2, x3, z, exT e e', hR.ex e⟩) ?_ ?_
  · rintro n z σ' H' hn ⟨x1, x2, x3, rfl, e, hR⟩
    have hln : n < (ns.take 10).length := (List.getElem?_eq_some_iff.mp hn).1
    rw [List.length_take] at hln
    walk_at "rd"
    refine ⟨z, n + b, _, rfl, hbt z (List.mem_of_getElem? hn), by omega, by omega, by decide, fun H8 e8 => ?_⟩
    have nr := numM_range (cell := z) (k := (n : Int) + b) (lim := 900000) (by decide) (by decide)
    walk_at "rd"
    obtain ⟨vs, hv, hvl⟩ := (hR.ex e8).lst
    refine r_app1 hv ?_
    walk_at "rd"
    refine r_I (by decide) ?_
    refine r_aab (Int.emod_nonneg _ (by decide)) (Int.emod_lt_of_pos _ (by decide)) ?_
    walk_at "rd"
    refine r_I ⟨by decide, by decide⟩ ?_
    walk_at "rd"
    refine r_I (by decide) ?_
    walk_at "rd"
    refine r_mkU (by show 2 ≤ sizeLine; decide) fun p H9 n9 e9 h9 => ?_
    walk_at "rd"
    refine r_app2 (e9 _ _ hv) (Evl.sz_lt (by rw [hvl, List.length_take, mapK_len, List.length_take]; omega)) ?_
    refine ⟨_, _, _, rfl, exM (exT e9 (exT e8 e)) hide_no, ?_⟩
    rw [mapK_take hn]
    exact ((hR.ex e8).ex e9).snoc (e9 _ _ hv) h9
  · rintro σ' H' ⟨x1, x2, x3, rfl, e, hR⟩
    rw [List.take_of_length_le (by rw [mapK_len]; exact Nat.le_refl _)] at hR
    walk_at "rdI"
    refine r_mkL (by decide) fun p H8 n8 e8 h8 => ?_
    refine r_neD _ _ (hR.ex e8).dp (dp_nil h8) (rdD_shaped _) (rdD_shaped _) ?_
    rw [rdD_nil]
    walk_at "rd"
    refine iteN (fun z => ?_) (fun z => ?_)
    · walk_at "rd"
      refine k q H8 (exT e8 (exT e eh)) ?_
      unfold smallM orOne
      rw [if_neg z]
      exact hR.ex e8
    · walk_at "rd"
      refine r_mkU (by show 2 ≤ sizeLine; decide) fun p9 H9 n9 e9 h9 => ?_
      walk_at "rd"
      refine r_mkL (by show 1 ≤ sizeLine; decide) fun p10 H10 n10 e10 h10 => ?_
      refine k p10 H10 (exT e10 (exT e9 (exT e8 (exT e eh)))) ?_
      unfold smallM orOne
      rw [if_pos z]
      exact .one (k := true) h10 (e10 _ _ h9)
/-! the law -/
def baaaa : Ring := [(false, 1), (true, 4)]
theorem baaaa_ok : Ok baaaa := ⟨by decide, by decide, by decide, by decide⟩
theorem baaaa_low : Low 2 baaaa (-2) := by
  refine ⟨⟨1, by decide, by decide, by decide⟩, fun i h1 h2 => ?_⟩
  have h2' : i ≤ 2 := h2
  have h : i = 1 ∨ i = 2 := by omega
  rcases h with rfl | rfl <;> decide
theorem baaaa_at {b p n : Int} (u : Up 2 baaaa b) (h : PlaceOf 2 baaaa b p (min 0 b + n)) : p = n + 1 := by
  have eb := u.low.one baaaa_low
  subst eb
  obtain ⟨j, x, hj, kx, j0, j1, e, _⟩ := u.place.mp h
  match j, hj with
  | 0, hj => cases hj; cases kx
  | 1, hj =>
    have e1 : size (baaaa.take 1) = 1 := by decide
    have e2 : hgt 2 (baaaa.take 1) = -2 := by decide
    rw [e1, e2] at e
    omega
  | n + 2, hj => simp [baaaa] at hj
def aaa : Ring := [(true, 3)]
theorem aaa_ok : Ok aaa := ⟨by decide, by decide, by decide, by decide⟩
def bbaa : Ring := [(false, 2), (true, 2)]
theorem bbaa_ok : Ok bbaa := ⟨by decide, by decide, by decide, by decide⟩
def sp_law (K : PySem.W.Frag) : Sp := fun vs H Q _ => ∃ (a : Addr) (ns : List Int), vs = [.ref a] ∧ SqL K H a (ns.map V.int) ∧ ns.length ≤ 63 ∧ (∀ z ∈ ns, Builtin.Int.intBits z ≤ 1048576) ∧ ∀ H', Q (.bl true) H'
set_option maxHeartbeats 8000000 in
theorem ok_law {f : Addr} {fd : FuncData} (F : Fun K "law" "law" s_law f fd) (T : Txt K mg) : FnOk P w K mg base CX0 6 f fd ["_law_script"] (sp_law K) := by
  refine F.ok sc_law (by rintro vs H Q E ⟨_, _, rfl, _⟩; rfl) (fun cdv A outer s H vs Q E hr h => ?_)
  obtain ⟨a, ns, rfl, hS, hl, hb, k⟩ := h
  have p50 : (10 : Int) ^ (50 : Int).toNat = 100000000000000000000000000000000000000000000000000 := by decide
  refine ⟨_, (pss_cons (ps_asg (pe_tup (pa_cons (pe_c (c_law_ring T) hr (by decide) (by rfl) (pa_cons (pv 0) pa_nil)) (pa_cons (pe_c (c_law_small T) hr (by decide) (by rfl) (pa_cons (pv 0) (pa_cons pe_int pa_nil))) pa_nil))) (pg_tup (n := 2) rfl (pgs_cons (pg_name (i := 1) sc_law.nd rfl (by first | exact Or.inl rfl | exact Or.inr rfl)) (pgs_cons (pg_name (i := 2) sc_law.nd rfl (by first | exact Or.inl rfl | exact Or.inr rfl)) pgs_nil))))
        (pss_cons (ps_for PassesOwn.never rfl (pi_list (pe_c (c_law_times T) hr (by decide) (by rfl) (pa_cons (pv 0) (pa_cons (pv 1) pa_nil)))) (pg_name (i := 3) sc_law.nd rfl (by first | exact Or.inl rfl | exact Or.inr rfl))
          (pss_one (ps_if (pt_not (pt_val (pe_c (c_law_right T) hr (by decide) (by rfl) (pa_cons (pv 0) (pa_cons (pv 1) (pa_cons (pv 3) pa_nil)))))) (pss_one (ps_ret pe_bl)) pss_nil)))
        (pss_cons (ps_if (pt_not (pt_val (pe_callB (cr_all rfl) (by rfl) T.m_all (by decide +kernel) (pa_cons (pe_lc (own := [("_law_times_here", 3)]) (g := (gName 3)) rfl sc_law.nd (pi_tup (pe_tup (pa_cons pe_int (pa_cons pe_int pa_nil)))) (blkOk_by (own := [("_law_times_here", 3)]) (N := ["_law_script", "_law_ring_here", "_law_small_here", "_law_times_here", "_law_number_here"]) (sc := defScope s_law) (by decide +kernel)) (fun _ _ _ _ _ => (pg_name (i := 3) sc_law.nd rfl (by first | exact Or.inl rfl | exact Or.inr rfl))) (fun _ _ _ _ _ => pts_nil) (fun _ _ _ _ _ => (pe_c (c_law_small_right T) hr (by decide) (by rfl) (pa_cons (pv 2) (pa_cons (pv 3) pa_nil))))) pa_nil)))) (pss_one (ps_ret pe_bl)) pss_nil)
        (pss_cons (ps_if (pt_cmpR (op_neD hr.units) (pe_lc (own := [("_law_number_here", 4)]) (g := (gName 4)) rfl sc_law.nd (pi_range1 rfl T.m_range (pa_cons pe_int pa_nil)) (blkOk_by (own := [("_law_number_here", 4)]) (N := ["_law_script", "_law_ring_here", "_law_small_here", "_law_times_here", "_law_number_here"]) (sc := defScope s_law) (by decide +kernel)) (fun _ _ _ _ _ => (pg_name (i := 4) sc_law.nd rfl (by first | exact Or.inl rfl | exact Or.inr rfl))) (fun _ _ _ _ _ => pts_nil) (fun _ _ _ _ _ => (pe_c (c_start_at T) hr (by decide) (by rfl) (pa_cons (pe_lst (pa_cons (pe_tup (pa_cons pe_str (pa_cons pe_int pa_nil))) (pa_cons (pe_tup (pa_cons pe_str (pa_cons pe_int pa_nil))) pa_nil))) (pa_cons pe_int (pa_cons (pv 4) pa_nil)))))) (pe_lst (pa_cons pe_int (pa_cons pe_int pa_nil))) (nomark _)) (pss_one (ps_ret pe_bl)) pss_nil)
        (pss_one (ps_ret (pe_and (pe_cmpR op_eq (pe_c (c_starts T) hr (by decide) (by rfl) (pa_cons (pe_lst (pa_cons (pe_tup (pa_cons pe_str (pa_cons pe_int pa_nil))) pa_nil)) (pa_cons (pe_op op_pow pe_int pe_int) pa_nil))) pe_int (nomark _)) (pe_one (pe_cmpR op_eq (pe_c (c_starts T) hr (by decide) (by rfl) (pa_cons (pe_lst (pa_cons (pe_tup (pa_cons pe_str (pa_cons pe_int pa_nil))) (pa_cons (pe_tup (pa_cons pe_str (pa_cons pe_int pa_nil))) pa_nil))) (pa_cons pe_int pa_nil))) pe_int (nomark _)))))))))), ?_⟩
  refine at_start (σ := [some (.ref a), none, none, none, none]) rfl ?_; simp only [kx, kx', kb, mx, mx']
  walk_at "rd"
  refine ⟨a, ns, rfl, hS, hl, hb, fun p H1 e1 hR => ?_⟩
  have okR := ringM_ok hl
  generalize ringM ns = r at *
  walk_at "rd"
  refine ⟨a, ns, 0, rfl, exL e1 hS, hl, hb, by decide, fun q H2 e2 hQ => ?_⟩
  have okQ := smallM_ok ns 0
  have lQ := smallM_len ns 0
  have tQ := smallM_three ns 0
  have hQ' : RingAt K H2 q (smallM ns 0) := hQ
  clear hQ
  generalize smallM ns 0 = r2 at *
  walk_at "rd"
  refine r_mkU (by show 2 ≤ sizeLine; decide) fun tq H2' n2' e2' h2' => ?_
  walk_at "rd"
  replace hQ' := hQ'.ex e2'
  replace e2 := exT e2' e2
  have e12 := exT e2 e1
  refine ⟨a, p, ns, r, rfl, exL e12 hS, hb, hR.ex e2, okR, fun l ts H3 e3 h3 hts => ?_⟩
  have e13 := exT e3 e12
  have hR3 := (hR.ex e2).ex e3
  have hQ3 := hQ'.ex e3
  have hS3 := exL e13 hS
  refine forK_listI (zs := ts) H3 (.of h3) (fun i σ' H' => ∃ (x3 : Option V), σ' = [some (.ref a), some (.ref p), some (.ref q), x3, none] ∧ Ex H3 H')
    ⟨_, rfl, Evl.Ex.refl _⟩ (fun i σ' H' ⟨_, _, e⟩ => e) ?_ ?_
  · rintro i t σ' H4 hi ⟨x3, rfl, e4⟩
    walk_at "rd"
    refine ⟨a, p, ns, r, t, rfl, exL e4 hS3, hR3.ex e4, okR, hts t (List.mem_of_getElem? hi), fun H5 e5 => ?_⟩
    walk_at "rd"
    exact ⟨_, rfl, exT e5 e4⟩
  · rintro σ' H4 ⟨x3, rfl, e4⟩
    walk_at "rd"
    refine r_mkU (by show 2 ≤ sizeLine; decide) fun tt H5 n5 e5 h5 => ?_
    refine lcK_tup (xs := [V.int 1, V.int 2]) [V.bl true, V.bl true] rfl (.of h5) (by show 2 ≤ 40000; decide) (fun _ => rfl) (fun i x y hx hy H6 e6 Q1 k1 => ?_) fun pr H6 n6 e6 h6 => ?_
    · have hxy : (∃ z, x = .int z ∧ Tm z) ∧ y = .bl true := by
        match i, hx, hy with
        | 0, hx, hy => exact ⟨⟨1, (Option.some.inj hx).symm, by decide⟩, (Option.some.inj hy).symm⟩
        | 1, hx, hy => exact ⟨⟨2, (Option.some.inj hx).symm, by decide⟩, (Option.some.inj hy).symm⟩
        | n + 2, hx, _ => simp at hx
      obtain ⟨⟨z, rfl, hz⟩, rfl⟩ := hxy
      walk_at "rd"
      exact ⟨q, r2, z, rfl, hQ3.ex (exT e6 (exT e5 e4)), okQ, lQ, tQ, hz, fun H7 e7 => k1 _ e7⟩
    · walk_at "rd"
      refine r_all (bs := [true, true]) (.of h6) ?_
      rw [show [true, true].all id = true by decide]
      walk_at "rd"
      refine r_rng1b (n := 2) rfl (by decide) ?_
      refine lcK_range [V.int 1, V.int 2] rfl (by decide) (fun _ => rfl) (fun i y hy H7 e7 Q1 k1 => ?_) fun l1 H7 n7 e7 h7 => ?_
      · have hi : (i : Int) < hgt 2 baaaa ∧ y = .int ((i : Int) + 1) := by
          have e : hgt 2 baaaa = 2 := by decide
          match i, hy with
          | 0, hy => exact ⟨by omega, (Option.some.inj hy).symm⟩
          | 1, hy => exact ⟨by omega, (Option.some.inj hy).symm⟩
          | n + 2, hy => simp at hy
        obtain ⟨hi, rfl⟩ := hi
        walk_at "rd"
        refine r_mkU (by show 2 ≤ sizeLine; decide) fun u1 B1 nb1 eb1 hb1 => ?_
        walk_at "rd"
        refine r_mkU (by show 2 ≤ sizeLine; decide) fun v1 C1 nc1 ec1 hc1 => ?_
        walk_at "rd"
        refine r_mkL (by show 2 ≤ sizeLine; decide) fun w1 D1 nd1 ed1 hd1 => ?_
        walk_at "rd"
        have hR1 : RingAt K D1 w1 baaaa := .two hd1 (ed1 _ _ (ec1 _ _ hb1)) (ed1 _ _ hc1)
        refine ⟨w1, baaaa, 2, (i : Int), rfl, hR1, baaaa_ok, by decide, by omega, hi, fun b pl E1 ee1 u hp => ?_⟩
        rw [baaaa_at u hp]
        exact k1 E1 (exT ee1 (exT ed1 (exT ec1 eb1)))
      · walk_at "rd"
        refine r_mkL (by show 2 ≤ sizeLine; decide) fun l2 H8 n8 e8 h8 => ?_
        refine r_neD _ _ (dp_ints (ns := [1, 2]) (.of (e8 _ _ h7))) (dp_ints (ns := [1, 2]) (.of h8)) (inD_shaped _) (inD_shaped _) ?_
        rw [inD_same]
        walk_at "rd"
        refine r_mkU (by show 2 ≤ sizeLine; decide) fun u1 B1 nb1 eb1 hb1 => ?_
        walk_at "rd"
        refine r_mkL (by show 1 ≤ sizeLine; decide) fun w1 D1 nd1 ed1 hd1 => ?_
        walk_at "rd"
        refine r_I ⟨by decide, by decide, by decide⟩ ?_
        rw [p50]
        walk_at "rd"
        have hR1 : RingAt K D1 w1 aaa := .one hd1 (ed1 _ _ hb1)
        refine ⟨w1, aaa, _, rfl, hR1, aaa_ok, by decide, fun E1 ee1 => ?_⟩
        rw [show max 0 (hgt 100000000000000000000000000000000000000000000000000 aaa) = 3 by decide]
        walk_at "rd"
        rw [show decide ((3 : Int) = 3) = true by decide]
        walk_at "rd"
        refine r_mkU (by show 2 ≤ sizeLine; decide) fun u2 B2 nb2 eb2 hb2 => ?_
        walk_at "rd"
        refine r_mkU (by show 2 ≤ sizeLine; decide) fun v2 C2 nc2 ec2 hc2 => ?_
        walk_at "rd"
        refine r_mkL (by show 2 ≤ sizeLine; decide) fun w2 D2 nd2 ed2 hd2 => ?_
        walk_at "rd"
        have hR2 : RingAt K D2 w2 bbaa := .two hd2 (ed2 _ _ (ec2 _ _ hb2)) (ed2 _ _ hc2)
        refine ⟨w2, bbaa, 1, rfl, hR2, bbaa_ok, by decide, fun E2 ee2 => ?_⟩
        rw [show max 0 (hgt 1 bbaa) = 0 by decide]
        walk_at "rd"
        rw [show decide ((0 : Int) = 0) = true by decide]
        exact k _
end
end Rb
namespace Rb
open PySem PySem.Spec PyProof.Rows L2
/-- the law from what the top has left -/
theorem fin {l : PySem.W.OpenLaw} {w : World} {K : PySem.W.Frag} {h : Heap} {mg : Str → Option Value} {fa f : Addr} (X : K.In h) (G : h.Ns mainGlobals mg) (hfa : mg "law" = some (.ref fa)) (T : Txt K mg)
    {oc : Value} {od an : Option Addr} {osl : Array (Option Value)} {kV doc pm cdv ct : Value} (a : PySem.W.nsIn K mainGlobals "law" = some (some (.ref f)))
    (lk : K.lookup f = some ⟨oc, od, .func (PySem.W.fnOf "law" "law" (defArgs s_law) (defBody s_law) (defScope s_law) .none kV doc pm an cdv ct), osl⟩) (c : PySem.W.codeIn K cdv "law" = true) (k : PySem.W.keepIn K (.ref f) = true) :
    ∃ fd : FuncData, (∀ (s : Shared) (v : Value), BindsTo s fd ⟨[v], []⟩ [("_law_script", v)]) ∧ ∀ base : Heap, K.In base → base.Ns mainGlobals mg → FnOk l.prog w K mg base CX0 6 fa fd ["_law_script"] (sp_law K) := by
  have e := hfa.symm.trans (PySem.W.mg_of X G a)
  cases e
  exact ⟨_, fun s v => .of_eq rfl, fun base _ _ => ok_law (fun_mk lk c k) T⟩
end Rb
open PySem PySem.W PyProof.Rows
set_option maxRecDepth 100000 in
set_option maxHeartbeats 0 in
theorem PySem.Challenge.cw_ringbeads_k01_whole_starts_holds : PySem.Challenge.rw_ringbeads_k01_whole_starts.Holds := by
  w_on; o_law; k_head; (case hw => w_witness2)
  k_fill
  refine L2.walk_ofB (l := PySem.Challenge.rw_ringbeads_k01_whole_starts) (n := 63) (k := 6) (x := "_law_script") (CX := fun _ => L2.CX0) (sp := fun w => Rb.sp_law _) rfl (by decide) rfl ⟨rfl, by decide, by decide⟩ (fun w h Y => PySem.W.kIn_of Y) ?F (fun _ _ a ns hl hb _ hS => ⟨a, ns, rfl, hS, hl, hb, fun _ => rfl⟩) (fun _ _ _ _ _ h => h)
  case F =>
    intro w mg fa h KX G hmg
    refine' Rb.fin KX G hmg ?T ?la ?ll ?lc ?lk
    case T =>
      refine' {
        d_is_whole := ?_, d_is_stretch := ?_, d_check_ring := ?_, d_whole_of := ?_, d_check_place := ?_, d_table_of := ?_, d_check_times := ?_, d_more_of := ?_, d_parts_of := ?_, d_starts := ?_, d_start_at := ?_, d_is_start := ?_, d__law_cell_at := ?_, d__law_draw := ?_, d__law_number := ?_, d__law_ring := ?_, d__law_small := ?_, d__law_whole := ?_, d__law_size := ?_, d__law_table := ?_, d__law_ahead := ?_, d__law_along := ?_, d__law_row := ?_, d__law_surplus := ?_, d__law_is_start := ?_, d__law_says := ?_, d__law_times := ?_, d__law_height := ?_, d__law_right := ?_, d__law_small_right := ?_, m_len := ?_, m_sum := ?_, m_min := ?_, m_max := ?_, m_all := ?_, m_any := ?_, m_isinstance := ?_, m_int := ?_, m_bool := ?_, m_str := ?_, m_tuple := ?_, m_list := ?_, m_range := ?_, m_enumerate := ?_, m_zip := ?_, m_sorted := ?_, m_set := ?_ }
      · (refine' Rb.dfn_mk KX G ?a ?l ?c ?k (fun _ _ _ _ _ _ us hl => match us, hl with | [_], _ => rfl)); (case a => k_is); (case l => k_is); (case c => k_is); (case k => k_is)
      · (refine' Rb.dfn_mk KX G ?a ?l ?c ?k (fun _ _ _ _ _ _ us hl => match us, hl with | [_], _ => rfl)); (case a => k_is); (case l => k_is); (case c => k_is); (case k => k_is)
      · (refine' Rb.dfn_mk KX G ?a ?l ?c ?k (fun _ _ _ _ _ _ us hl => match us, hl with | [_], _ => rfl)); (case a => k_is); (case l => k_is); (case c => k_is); (case k => k_is)
      · (refine' Rb.dfn_mk KX G ?a ?l ?c ?k (fun _ _ _ _ _ _ us hl => match us, hl with | [_], _ => rfl)); (case a => k_is); (case l => k_is); (case c => k_is); (case k => k_is)
      · (refine' Rb.dfn_mk KX G ?a ?l ?c ?k (fun _ _ _ _ _ _ us hl => match us, hl with | [_, _], _ => rfl)); (case a => k_is); (case l => k_is); (case c => k_is); (case k => k_is)
      · (refine' Rb.dfn_mk KX G ?a ?l ?c ?k (fun _ _ _ _ _ _ us hl => match us, hl with | [_], _ => rfl)); (case a => k_is); (case l => k_is); (case c => k_is); (case k => k_is)
      · (refine' Rb.dfn_mk KX G ?a ?l ?c ?k (fun _ _ _ _ _ _ us hl => match us, hl with | [_], _ => rfl)); (case a => k_is); (case l => k_is); (case c => k_is); (case k => k_is)
      · (refine' Rb.dfn_mk KX G ?a ?l ?c ?k (fun _ _ _ _ _ _ us hl => match us, hl with | [_, _], _ => rfl)); (case a => k_is); (case l => k_is); (case c => k_is); (case k => k_is)
      · (refine' Rb.dfn_mk KX G ?a ?l ?c ?k (fun _ _ _ _ _ _ us hl => match us, hl with | [_, _], _ => rfl)); (case a => k_is); (case l => k_is); (case c => k_is); (case k => k_is)
      · (refine' Rb.dfn_mk KX G ?a ?l ?c ?k (fun _ _ _ _ _ _ us hl => match us, hl with | [_, _], _ => rfl)); (case a => k_is); (case l => k_is); (case c => k_is); (case k => k_is)
      · (refine' Rb.dfn_mk KX G ?a ?l ?c ?k (fun _ _ _ _ _ _ us hl => match us, hl with | [_, _, _], _ => rfl)); (case a => k_is); (case l => k_is); (case c => k_is); (case k => k_is)
      · (refine' Rb.dfn_mk KX G ?a ?l ?c ?k (fun _ _ _ _ _ _ us hl => match us, hl with | [_, _, _], _ => rfl)); (case a => k_is); (case l => k_is); (case c => k_is); (case k => k_is)
      · (refine' Rb.dfn_mk KX G ?a ?l ?c ?k (fun _ _ _ _ _ _ us hl => match us, hl with | [_, _], _ => rfl)); (case a => k_is); (case l => k_is); (case c => k_is); (case k => k_is)
      · (refine' Rb.dfn_mk KX G ?a ?l ?c ?k (fun _ _ _ _ _ _ us hl => match us, hl with | [_, _, _], _ => rfl)); (case a => k_is); (case l => k_is); (case c => k_is); (case k => k_is)
      · (refine' Rb.dfn_mk KX G ?a ?l ?c ?k (fun _ _ _ _ _ _ us hl => match us, hl with | [_, _, _], _ => rfl)); (case a => k_is); (case l => k_is); (case c => k_is); (case k => k_is)
      · (refine' Rb.dfn_mk KX G ?a ?l ?c ?k (fun _ _ _ _ _ _ us hl => match us, hl with | [_], _ => rfl)); (case a => k_is); (case l => k_is); (case c => k_is); (case k => k_is)
      · (refine' Rb.dfn_mk KX G ?a ?l ?c ?k (fun _ _ _ _ _ _ us hl => match us, hl with | [_, _], _ => rfl)); (case a => k_is); (case l => k_is); (case c => k_is); (case k => k_is)
      · (refine' Rb.dfn_mk KX G ?a ?l ?c ?k (fun _ _ _ _ _ _ us hl => match us, hl with | [_], _ => rfl)); (case a => k_is); (case l => k_is); (case c => k_is); (case k => k_is)
      · (refine' Rb.dfn_mk KX G ?a ?l ?c ?k (fun _ _ _ _ _ _ us hl => match us, hl with | [_], _ => rfl)); (case a => k_is); (case l => k_is); (case c => k_is); (case k => k_is)
      · (refine' Rb.dfn_mk KX G ?a ?l ?c ?k (fun _ _ _ _ _ _ us hl => match us, hl with | [_], _ => rfl)); (case a => k_is); (case l => k_is); (case c => k_is); (case k => k_is)
      · (refine' Rb.dfn_mk KX G ?a ?l ?c ?k (fun _ _ _ _ _ _ us hl => match us, hl with | [_, _], _ => rfl)); (case a => k_is); (case l => k_is); (case c => k_is); (case k => k_is)
      · (refine' Rb.dfn_mk KX G ?a ?l ?c ?k (fun _ _ _ _ _ _ us hl => match us, hl with | [_, _, _], _ => rfl)); (case a => k_is); (case l => k_is); (case c => k_is); (case k => k_is)
      · (refine' Rb.dfn_mk KX G ?a ?l ?c ?k (fun _ _ _ _ _ _ us hl => match us, hl with | [_], _ => rfl)); (case a => k_is); (case l => k_is); (case c => k_is); (case k => k_is)
      · (refine' Rb.dfn_mk KX G ?a ?l ?c ?k (fun _ _ _ _ _ _ us hl => match us, hl with | [_, _], _ => rfl)); (case a => k_is); (case l => k_is); (case c => k_is); (case k => k_is)
      · (refine' Rb.dfn_mk KX G ?a ?l ?c ?k (fun _ _ _ _ _ _ us hl => match us, hl with | [_, _, _], _ => rfl)); (case a => k_is); (case l => k_is); (case c => k_is); (case k => k_is)
      · (refine' Rb.dfn_mk KX G ?a ?l ?c ?k (fun _ _ _ _ _ _ us hl => match us, hl with | [_, _], _ => rfl)); (case a => k_is); (case l => k_is); (case c => k_is); (case k => k_is)
      · (refine' Rb.dfn_mk KX G ?a ?l ?c ?k (fun _ _ _ _ _ _ us hl => match us, hl with | [_, _], _ => rfl)); (case a => k_is); (case l => k_is); (case c => k_is); (case k => k_is)
      · (refine' Rb.dfn_mk KX G ?a ?l ?c ?k (fun _ _ _ _ _ _ us hl => match us, hl with | [_, _, _], _ => rfl)); (case a => k_is); (case l => k_is); (case c => k_is); (case k => k_is)
      · (refine' Rb.dfn_mk KX G ?a ?l ?c ?k (fun _ _ _ _ _ _ us hl => match us, hl with | [_, _, _], _ => rfl)); (case a => k_is); (case l => k_is); (case c => k_is); (case k => k_is)
      · (refine' Rb.dfn_mk KX G ?a ?l ?c ?k (fun _ _ _ _ _ _ us hl => match us, hl with | [_, _], _ => rfl)); (case a => k_is); (case l => k_is); (case c => k_is); (case k => k_is)
      · (refine' PySem.W.mg_none_of KX G ?z); (case z => k_is)
      · (refine' PySem.W.mg_none_of KX G ?z); (case z => k_is)
      · (refine' PySem.W.mg_none_of KX G ?z); (case z => k_is)
      · (refine' PySem.W.mg_none_of KX G ?z); (case z => k_is)
      · (refine' PySem.W.mg_none_of KX G ?z); (case z => k_is)
      · (refine' PySem.W.mg_none_of KX G ?z); (case z => k_is)
      · (refine' PySem.W.mg_none_of KX G ?z); (case z => k_is)
      · (refine' PySem.W.mg_none_of KX G ?z); (case z => k_is)
      · (refine' PySem.W.mg_none_of KX G ?z); (case z => k_is)
      · (refine' PySem.W.mg_none_of KX G ?z); (case z => k_is)
      · (refine' PySem.W.mg_none_of KX G ?z); (case z => k_is)
      · (refine' PySem.W.mg_none_of KX G ?z); (case z => k_is)
      · (refine' PySem.W.mg_none_of KX G ?z); (case z => k_is)
      · (refine' PySem.W.mg_none_of KX G ?z); (case z => k_is)
      · (refine' PySem.W.mg_none_of KX G ?z); (case z => k_is)
      · (refine' PySem.W.mg_none_of KX G ?z); (case z => k_is)
      · (refine' PySem.W.mg_none_of KX G ?z); (case z => k_is)
    (case la => k_is); (case ll => k_is); (case lc => k_is); (case lk => k_is)
