import PyProof.Rows.All
import Wide.All
import OpenK.AllK
import Wide.FinOn
import HandS.ForMost
import HandS.Evl
import HandS.Walk
import HandS.IsInst
import HandS.Style
import HandS.WideBits
import HandS.EndBits
import HandS.Codes
import HandS.More
import HandS.SortInts
import HandS.Strs
import HandS.SetFor
import HandS.Exc
import HandS.ExcOwn
import HandS.WordsExc
import HandS.ExcIs
import HandS.HotCalls
import PySem.Challenge.RW_ringbeads_k05_refused
set_option Elab.async false
set_option linter.all false
set_option maxRecDepth 100000
/-! Ring beads: short words over the hand layer, no program in sight. -/
namespace Rb
open PySem PySem.Spec PyProof.Rows L2
/-! ### defs by their names -/
/-- a def of the module as the top leaves it -/
def Dfn (K : PySem.W.Frag) (mg : Str → Option Value) (x : Str) (st : Stmt) (ps : List Str) : Prop :=
  ∃ f fd, Fun K x x st f fd ∧ Binds K fd ps [] ∧ mg x = some (.ref f)
/-- a def that may be called by its name, with its promise -/
def Cal (P : Program) (w : World) (K : PySem.W.Frag) (mg : Str → Option Value) (base : Heap) (k : Nat) (x : Str) (sp : Sp) : Prop :=
  ∃ f fd ps, FnOk P w K mg base CX0 k f fd ps sp ∧ mg x = some (.ref f) ∧ PySem.W.keepIn K (.ref f) = true ∧ Binds K fd ps []
section
variable {P : Program} {w : World} {K : PySem.W.Frag} {mg : Str → Option Value} {base : Heap}
theorem cal {x : Str} {st : Stmt} {N ps : List Str} {k : Nat} {sp : Sp} (D : Dfn K mg x st ps) (S : FnScope N ps (defScope st)) (len : ∀ vs H Q E, sp vs H Q E → vs.length = ps.length)
    (hbody : ∀ (f : Addr) (cdv : Value) (A : Around) (outer : List Env) (s : Shared) (H : Hp) (vs : List V) (Q : VK) (E : XK), Room k (A.deeper (envOfC x (defScope st) s.heap.objs.size f cdv)) → sp vs H Q E →
      ∃ t, PSs (cxOf CX0 P w K mg base N x (defScope st) f cdv A outer s H E).nox (defBody st) t ∧ t { nx := fun _ H' => Q .non H', rt := Q } (start N vs) H) : Cal P w K mg base (k + 1) x sp := by
  obtain ⟨f, fd, F, b, g⟩ := D
  exact ⟨f, fd, ps, F.ok S len fun cdv A outer s H vs Q E hr h => hbody f cdv A outer s H vs Q E hr h, g, F.kp, b⟩
end
/-- a def from what the top has left -/
theorem dfn_mk {K : PySem.W.Frag} {h : Heap} {mg : Str → Option Value} {x : Str} {st : Stmt} {ps : List Str} (X : K.In h) (G : h.Ns mainGlobals mg) {f : Addr} {oc : Value} {od an : Option Addr} {osl : Array (Option Value)} {kV doc pm cdv ct : Value}
    (a : PySem.W.nsIn K mainGlobals x = some (some (.ref f))) (l : K.lookup f = some ⟨oc, od, .func (PySem.W.fnOf x x (defArgs st) (defBody st) (defScope st) .none kV doc pm an cdv ct), osl⟩) (c : PySem.W.codeIn K cdv x = true) (k : PySem.W.keepIn K (.ref f) = true)
    (hb : ∀ (kV doc pm : Value) (an : Option Addr) (cdv ct : Value) (us : List Value), us.length = ps.length → bindArgs (PySem.W.fnOf x x (defArgs st) (defBody st) (defScope st) .none kV doc pm an cdv ct) ⟨us, []⟩ = pure (ps.zip us)) : Dfn K mg x st ps :=
  ⟨f, _, fun_mk l c k, (fun_mk l c k).binds hb, PySem.W.mg_of X G a⟩
section
variable {X : Cx} {k j : Nat} {x : Str} {sp : Sp} {p pos : Pos} {e : Expr} {es : List Expr} {t : TA}
theorem pe_c (c : Cal X.prog X.w X.K X.mg X.base k x sp) (hr : Room j X.A) (hk : k ≤ j) (hg : Gl X x) (ha : PA X (e :: es) t)
    (hdb : (x == ("__debug__" : Str)) = false := by decide) (he : starEach (e :: es) X.env = (false, eval e X.env) :: starEach es X.env := by rfl) (hpl : (backTo pos (starEach es X.env)).any (·.1) = false := by rfl) :
    PE X (.Call (.Name x p) (e :: es) [] pos) (tCall sp [] E0 t) := by
  obtain ⟨f, fd, ps, F, hm, kp, b⟩ := c
  exact pe_call F (hr.mono hk) hg hm kp b .nil pass0 ha hdb he hpl
end
section
variable {CX : CXT} {P : Program} {w : World} {K : PySem.W.Frag} {mg : Str → Option Value} {base : Heap} {N : List Str} {qual : Str} {scope : Scope} {f : Addr} {cd : Value} {A : Around} {outer : List Env} {s : Shared} {H : Hp} {E : XK}
/-- the written part, where the context stands in its place -/
theorem kx : (cxOf CX P w K mg base N qual scope f cd A outer s H E).nox.K = K := rfl
theorem kx' : (cxOf CX P w K mg base N qual scope f cd A outer s H E).K = K := rfl
theorem mx : (cxOf CX P w K mg base N qual scope f cd A outer s H E).nox.mg = mg := rfl
theorem mx' : (cxOf CX P w K mg base N qual scope f cd A outer s H E).mg = mg := rfl
theorem wx : (cxOf CX P w K mg base N qual scope f cd A outer s H E).nox.w = w := rfl
theorem kb {s' : Shared} {H' : Hp} {sc : Scope} {ce : Env} {fp : List Addr} : ((cxOf CX P w K mg base N qual scope f cd A outer s H E).nox.blk s' H' sc ce fp).K = K := rfl
end
/-! ### heaps that grow -/
abbrev Ex := Evl.Ex
theorem exN {H : Hp} {p : Addr} {o : HO} (h : H p = none) : Ex H (upd H p o) := Evl.Ex.new h
theorem exM {H H' : Hp} {p : Addr} {o : HO} (e : Ex H H') (h : H p = none) : Ex H (upd H' p o) := Evl.Ex.mut e h
theorem exT {H H1 H2 : Hp} (b : Ex H1 H2) (a : Ex H H1) : Ex H H2 := Evl.Ex.trans a b
theorem exB {H H' : Hp} {p : Addr} (e : Ex H H') (h : H' p = none) : H p = none := Evl.fresh_back e h
/-- all but one object -/
def hide (q : Addr) (H : Hp) : Hp := fun x => if x = q then none else H x
theorem hide_no {q : Addr} {H : Hp} : hide q H q = none := by unfold hide; rw [if_pos rfl]
theorem hide_ex {q : Addr} {H : Hp} : Ex (hide q H) H := fun a o h => by
  unfold hide at h
  split at h
  · cases h
  · exact h
theorem hide_up {q : Addr} {H0 H : Hp} (e : Ex H0 H) (n : H0 q = none) : Ex H0 (hide q H) := fun a o h => by
  unfold hide
  rw [if_neg (ne_of_none h n)]
  exact e a o h
theorem hide_at {q l : Addr} {H : Hp} {o : HO} (ne : l ≠ q) (h : H l = some o) : hide q H l = some o := by
  unfold hide
  rw [if_neg ne]
  exact h
local macro_rules | `(tactic| walk_at "ex") => `(tactic| first
  | exact Evl.Ex.refl _
  | assumption
  | exact exN (by assumption)
  | (refine exT (by assumption) ?_; walk_at "ex"))
/-! ### the readings, a step each -/
section
variable {σ : L2.St} {H : Hp} {Q : VK} {v : V}
theorem r_var {i : Nat} (h : σ[i]? = some (some v)) (q : Q v H) : tVar i σ H Q := ⟨v, h, q⟩
theorem r_c (q : Q v H) : tC v σ H Q := q
theorem r_op {r : R2} {ta tb : TE} (q : ta σ H fun x H1 => tb σ H1 fun y H2 => r x y H2 Q) : tOp r ta tb σ H Q := q
theorem r_un {r : V → Hp → VK → Prop} {ta : TE} (q : ta σ H fun x H1 => r x H1 Q) : tUn r ta σ H Q := q
theorem r_cb {r : List V → Hp → VK → Prop} {t : TA} (q : t σ H fun vs H1 => r vs H1 Q) : tCB r t σ H Q := q
/-- an expression by its value -/
theorem r_val {te : TE} (v : V) (h : ∀ R : VK, R v H → te σ H R) (q : Q v H) : te σ H Q := h Q q
/-- .. that may make objects on the way -/
theorem r_valE {te : TE} (v : V) (h : ∀ R : VK, (∀ H', Ex H H' → R v H') → te σ H R) (q : ∀ H', Ex H H' → Q v H') : te σ H Q := h Q q
theorem r_call {sp : Sp} {dvs : List V} {E : XK} {t : TA} (q : t σ H fun vs H1 => sp (vs ++ dvs) H1 Q E) : tCall sp dvs E t σ H Q := q
theorem r_if {t : TT} {ta tb : TE} (q : t σ H fun c H1 => if c = true then ta σ H1 Q else tb σ H1 Q) : tIf t ta tb σ H Q := q
theorem r_nil {Q : List V → Hp → Prop} (q : Q [] H) : tNil σ H Q := q
theorem r_cons {ta : TE} {tr : TA} {Q : List V → Hp → Prop} (q : ta σ H fun x H1 => tr σ H1 fun xs H2 => Q (x :: xs) H2) : tCons ta tr σ H Q := q
/-- a new list, a new tuple: what is wanted of it -/
def MkL (xs : List V) (H : Hp) (Q : VK) : Prop := xs.length ≤ sizeLine ∧ ∀ p, H p = none → Q (.ref p) (upd H p (.lst xs))
def MkU (xs : List V) (H : Hp) (Q : VK) : Prop := xs.length ≤ sizeLine ∧ ∀ p, H p = none → Q (.ref p) (upd H p (.tup xs))
theorem r_mkL {xs : List V} (n : xs.length ≤ sizeLine) (q : ∀ p H', H p = none → Ex H H' → H' p = some (.lst xs) → Q (.ref p) H') : MkL xs H Q := ⟨n, fun p hp => q p _ hp (exN hp) upd_same⟩
theorem r_mkU {xs : List V} (n : xs.length ≤ sizeLine) (q : ∀ p H', H p = none → Ex H H' → H' p = some (.tup xs) → Q (.ref p) H') : MkU xs H Q := ⟨n, fun p hp => q p _ hp (exN hp) upd_same⟩
theorem r_tup {t : TA} (q : t σ H fun xs H1 => MkU xs H1 Q) : tTup t σ H Q := q
theorem r_lst {t : TA} (q : t σ H fun xs H1 => MkL xs H1 Q) : tLst t σ H Q := q
theorem r_test {t : TE} {Q : Bool → Hp → Prop} (q : t σ H fun x H' => ∃ k, x = .bl k ∧ Q k H') : tTest t σ H Q := q
theorem r_tB {t : TE} {Q : Bool → Hp → Prop} (q : t σ H fun x H' => ∃ k, x = .bl k ∧ Q k H') : tB t σ H Q := q
theorem r_bl {k : Bool} {P : Bool → Prop} (q : P k) : ∃ k', V.bl k = .bl k' ∧ P k' := ⟨k, rfl, q⟩
theorem r_and {t u : TT} {Q : Bool → Hp → Prop} (q : t σ H fun c H1 => if c = true then u σ H1 Q else Q false H1) : tAnd t u σ H Q := q
theorem r_or {t u : TT} {Q : Bool → Hp → Prop} (q : t σ H fun c H1 => if c = true then Q true H1 else u σ H1 Q) : tOr t u σ H Q := q
theorem r_not {t : TT} {Q : Bool → Hp → Prop} (q : t σ H fun c H1 => Q (!c) H1) : tNot t σ H Q := q
theorem r_chain {r r' : R2} {ta tb tc : TE} (q : ta σ H fun x H1 => tb σ H1 fun y H2 => r x y H2 fun z H3 => ∃ k, z = .bl k ∧ (if k = true then tc σ H3 fun w' H4 => r' y w' H4 Q else Q (.bl false) H3)) : tChain r r' ta tb tc σ H Q := q
theorem r_andV {ta tb : TE} (q : ta σ H fun x H1 => ∃ c, x = .bl c ∧ if c = true then tb σ H1 Q else Q (.bl false) H1) : tAndV ta tb σ H Q := q
theorem r_orV {ta tb : TE} (q : ta σ H fun x H1 => ∃ c, x = .bl c ∧ if c = true then Q (.bl true) H1 else tb σ H1 Q) : tOrV ta tb σ H Q := q
theorem r_notV {ta : TE} (q : ta σ H fun x H1 => ∃ c, x = .bl c ∧ Q (.bl (!c)) H1) : tNotV ta σ H Q := q
theorem r_I0 {g : Int → Int → V} {i j : Int} (q : Q (g i j) H) : rI0 g (.int i) (.int j) H Q := ⟨i, j, rfl, rfl, q⟩
theorem r_I {C : Int → Int → Prop} {g : Int → Int → V} {i j : Int} (c : C i j) (q : Q (g i j) H) : rI C g (.int i) (.int j) H Q := ⟨i, j, rfl, rfl, c, q⟩
theorem r_U {g : Int → V} {i : Int} (q : Q (g i) H) : rU g (.int i) H Q := ⟨i, rfl, q⟩
theorem r_eqI {i j : Int} (q : Q (.bl (decide (i = j))) H) : rEq (.int i) (.int j) H Q := ⟨rfl, by rw [show decide (V.int i = V.int j) = decide (i = j) by simp]; exact q⟩
theorem r_neI {i j : Int} (q : Q (.bl (!decide (i = j))) H) : rNe (.int i) (.int j) H Q := ⟨rfl, by rw [show decide (V.int i = V.int j) = decide (i = j) by simp]; exact q⟩
theorem r_eqS {i j : Str} (q : Q (.bl (decide (i = j))) H) : rEq (.str i) (.str j) H Q := ⟨rfl, by rw [show decide (V.str i = V.str j) = decide (i = j) by simp]; exact q⟩
theorem r_neS {i j : Str} (q : Q (.bl (!decide (i = j))) H) : rNe (.str i) (.str j) H Q := ⟨rfl, by rw [show decide (V.str i = V.str j) = decide (i = j) by simp]; exact q⟩
theorem r_eqB {i j : Bool} (q : Q (.bl (decide (i = j))) H) : rEq (.bl i) (.bl j) H Q := ⟨rfl, by rw [show decide (V.bl i = V.bl j) = decide (i = j) by simp]; exact q⟩
variable {K : PySem.W.Frag}
theorem r_ixL {p : Addr} {xs : List V} {i : Int} (h : SqL K H p xs) (e : atI xs i = some v) (q : Q v H) : rIxL K (.ref p) (.int i) H Q := ⟨p, xs, i, v, rfl, rfl, h, e, q⟩
theorem r_ixT {p : Addr} {xs : List V} {i : Int} (h : SqT K H p xs) (e : atI xs i = some v) (q : Q v H) : rIxT K (.ref p) (.int i) H Q := ⟨p, xs, i, v, rfl, rfl, h, e, q⟩
end
section
variable {nx : L2.St → Hp → Prop} {rt : VK} {bk ct : L2.St → Hp → Prop} {σ : L2.St} {H : Hp}
theorem at_start {t : TS} {D : Ends} {σ0 : L2.St} (h : σ0 = σ) (q : t D σ H) : t D σ0 H := by rw [h]; exact q
theorem r_seq {t u : TS} (q : t ⟨u ⟨nx, rt, bk, ct⟩, rt, bk, ct⟩ σ H) : tSeq t u ⟨nx, rt, bk, ct⟩ σ H := q
theorem r_next (q : nx σ H) : tNext ⟨nx, rt, bk, ct⟩ σ H := q
theorem r_break (q : bk σ H) : tBreak ⟨nx, rt, bk, ct⟩ σ H := q
theorem r_asg {te : TE} {g : TG} (q : te σ H fun x H1 => g x σ H1 nx) : tAsg te g ⟨nx, rt, bk, ct⟩ σ H := q
theorem r_name {i : Nat} {v : V} {σ' : L2.St} {Q : L2.St → Hp → Prop} (h : σ.set i (some v) = σ') (q : Q σ' H) : gName i v σ H Q := by
  show Q (σ.set i (some v)) H
  rw [h]
  exact q
theorem r_ret {te : TE} (q : te σ H rt) : tRet te ⟨nx, rt, bk, ct⟩ σ H := q
theorem r_retN (q : rt .non H) : tRetN ⟨nx, rt, bk, ct⟩ σ H := q
theorem r_ifS {c : TT} {t u : TS} (q : c σ H fun b H1 => if b = true then t ⟨nx, rt, bk, ct⟩ σ H1 else u ⟨nx, rt, bk, ct⟩ σ H1) : tIfS c t u ⟨nx, rt, bk, ct⟩ σ H := q
theorem r_drop {te : TE} (q : te σ H fun _ H1 => nx σ H1) : tDrop te ⟨nx, rt, bk, ct⟩ σ H := q
theorem r_par {i j : Nat} {ta : TA} (q : ta σ H fun vs H1 => ∃ v w, vs = [v, w] ∧ nx ((σ.set i (some v)).set j (some w)) H1) : tPar i j ta ⟨nx, rt, bk, ct⟩ σ H := q
theorem r_par2 {v w : V} {i j : Nat} {σ' : L2.St} (h : (σ.set i (some v)).set j (some w) = σ') (q : nx σ' H) : ∃ v' w', [v, w] = [v', w'] ∧ nx ((σ.set i (some v')).set j (some w')) H := ⟨v, w, rfl, by rw [h]; exact q⟩
theorem r_par3 {i j l : Nat} {ta : TA} (q : ta σ H fun vs H1 => ∃ u v w, vs = [u, v, w] ∧ nx (((σ.set i (some u)).set j (some v)).set l (some w)) H1) : tPar3 i j l ta ⟨nx, rt, bk, ct⟩ σ H := q
theorem r_par3b {u v w : V} {i j l : Nat} {σ' : L2.St} (h : ((σ.set i (some u)).set j (some v)).set l (some w) = σ') (q : nx σ' H) : ∃ u' v' w', [u, v, w] = [u', v', w'] ∧ nx (((σ.set i (some u')).set j (some v')).set l (some w')) H := ⟨u, v, w, rfl, by rw [h]; exact q⟩
theorem r_aug {i : Nat} {te : TE} {ti : TIp} {x : V} (h : σ[i]? = some (some x)) (q : te σ H fun y H1 => ti x y H1 fun z H2 => nx (σ.set i (some z)) H2) : tAug i te ti ⟨nx, rt, bk, ct⟩ σ H := ⟨x, h, q⟩
theorem r_ipI {f : Int → Int → Int} {a b : Int} {Q : VK} (q : Q (.int (f a b)) H) : ipI f (.int a) (.int b) H Q := ⟨a, b, rfl, rfl, q⟩
theorem r_tup2 {K : PySem.W.Frag} {t : TGs} {a : Addr} {xs : List V} {n : Nat} {Q : L2.St → Hp → Prop} (h : SqT K H a xs) (hn : xs.length = n) (q : t xs σ H Q) : gTup K n t (.ref a) σ H Q := ⟨a, xs, rfl, h, hn, q⟩
theorem r_gcons {t : TG} {u : TGs} {v : V} {r : List V} {Q : L2.St → Hp → Prop} (q : t v σ H fun σ' H' => u r σ' H' Q) : gCons t u (v :: r) σ H Q := ⟨v, r, rfl, q⟩
theorem r_gnil {Q : L2.St → Hp → Prop} (q : Q σ H) : gNil [] σ H Q := ⟨rfl, q⟩
/-- xs.append(e) -/
theorem r_app {K : PySem.W.Frag} {to : TE} {ta : TA} {Q : VK} (q : to σ H fun x H1 => tyV K "list" x H1 ∧ ta σ H1 fun xs H2 => rAppend x xs H2 Q) : tBM K "list" rAppend to ta σ H Q := q
theorem r_app1 {K : PySem.W.Frag} {l : Addr} {xs : List V} {R : Prop} (h : H l = some (.lst xs)) (q : R) : tyV K "list" (.ref l) H ∧ R := ⟨.inl ⟨rfl, _, SqL.of h⟩, q⟩
theorem r_app2 {l : Addr} {xs : List V} {y : V} {Q : VK} (h : H l = some (.lst xs)) (n : xs.length < sizeLine) (q : Q .non (upd H l (.lst (xs ++ [y])))) : rAppend (.ref l) [y] H Q := ⟨l, xs, y, rfl, rfl, h, n, q⟩
end
/-- tests -/
theorem iteD {c : Prop} [Decidable c] {A B : Prop} (h1 : c → A) (h2 : ¬ c → B) : if decide c = true then A else B := by
  by_cases h : c
  · rw [decide_eq_true h, if_pos rfl]; exact h1 h
  · rw [decide_eq_false h, if_neg Bool.false_ne_true]; exact h2 h
theorem iteN {c : Prop} [Decidable c] {A B : Prop} (h1 : ¬ c → A) (h2 : c → B) : if (!decide c) = true then A else B := by
  by_cases h : c
  · rw [decide_eq_true h]; exact (if_neg Bool.false_ne_true).mpr (h2 h)
  · rw [decide_eq_false h]; exact (if_pos rfl).mpr (h1 h)
theorem iteNT {A B : Prop} (h : B) : if (!true) = true then A else B := (if_neg (by decide)).mpr h
theorem iteNF {A B : Prop} (h : A) : if (!false) = true then A else B := (if_pos (by decide)).mpr h
theorem iteB {c : Bool} {A B : Prop} (h1 : c = true → A) (h2 : c = false → B) : if c = true then A else B := by
  cases c with
  | true => rw [if_pos rfl]; exact h1 rfl
  | false => rw [if_neg Bool.false_ne_true]; exact h2 rfl
/-- while -/
theorem r_while {t : TT} {tb : TS} {nx : L2.St → Hp → Prop} {rt : VK} {bk ct : L2.St → Hp → Prop} {σ : L2.St} {H : Hp} (W : Nat → L2.St → Hp → Prop) (m0 : Nat) (h0 : W m0 σ H)
    (hs : ∀ m σ' H', W m σ' H' → t σ' H' fun b H1 => if b = true then ∃ N : L2.St → Hp → Prop, (∀ σ2 H2, N σ2 H2 → ∃ m', m' < m ∧ W m' σ2 H2) ∧ tb ⟨N, rt, nx, N⟩ σ' H1 else nx σ' H1) : tWhile t tb ⟨nx, rt, bk, ct⟩ σ H :=
  ⟨W, ⟨m0, h0⟩, hs⟩
theorem r_turn {tb : TS} {nx : L2.St → Hp → Prop} {rt : VK} {σ : L2.St} {H : Hp} {W : Nat → L2.St → Hp → Prop} {m : Nat} (q : tb ⟨fun σ2 H2 => ∃ m', m' < m ∧ W m' σ2 H2, rt, nx, fun σ2 H2 => ∃ m', m' < m ∧ W m' σ2 H2⟩ σ H) :
    ∃ N : L2.St → Hp → Prop, (∀ σ2 H2, N σ2 H2 → ∃ m', m' < m ∧ W m' σ2 H2) ∧ tb ⟨N, rt, nx, N⟩ σ H := ⟨_, fun _ _ h => h, q⟩
/-! ### built-ins by names of their rules -/
section
variable {X : Cx} {K : PySem.W.Frag} {H : Hp} {Q : VK}
def rLen (K : PySem.W.Frag) : List V → Hp → VK → Prop := fun xs H Q => ∃ p ys, xs = [.ref p] ∧ (SqL K H p ys ∨ SqT K H p ys) ∧ Q (.int ys.length) H
theorem cr_len : CallR X (.builtin "len") (rLen X.K) := call_len_seq
theorem r_len {p : Addr} {xs : List V} {n : Nat} (h : SqL K H p xs) (hn : xs.length = n) (q : Q (.int n) H) : rLen K [.ref p] H Q := ⟨p, xs, rfl, .inl h, by rw [hn]; exact q⟩
theorem r_lenU {p : Addr} {xs : List V} {n : Nat} (h : SqT K H p xs) (hn : xs.length = n) (q : Q (.int n) H) : rLen K [.ref p] H Q := ⟨p, xs, rfl, .inr h, by rw [hn]; exact q⟩
def rLenS : List V → Hp → VK → Prop := fun xs H Q => ∃ z : Str, xs = [.str z] ∧ z.length ≤ sizeLine ∧ Q (.int z.length) H
theorem cr_lenS : CallR X (.builtin "len") rLenS := call_len_str
theorem r_lenS {z : Str} {n : Nat} (hn : z.length = n) (h : n ≤ sizeLine) (q : Q (.int n) H) : rLenS [.str z] H Q := ⟨z, rfl, by rw [hn]; exact h, by rw [hn]; exact q⟩
def rAbs : List V → Hp → VK → Prop := fun xs H Q => ∃ i, xs = [.int i] ∧ Q (.int (if i < 0 then -i else i)) H
theorem cr_abs : CallR X (.builtin "abs") rAbs := call_abs
theorem r_abs {i : Int} (q : Q (.int (i.natAbs : Int)) H) : rAbs [.int i] H Q := ⟨i, rfl, by
  have e : (if i < 0 then -i else i) = (i.natAbs : Int) := by split <;> omega
  rw [e]
  exact q⟩
def rMax2 : List V → Hp → VK → Prop := fun xs H Q => ∃ i j, xs = [.int i, .int j] ∧ Q (.int (if j > i then j else i)) H
theorem cr_max2 (hc : X.calm = true) : CallR X (.builtin "max") rMax2 := call_max2 hc
theorem r_max2 {i j : Int} (q : Q (.int (max i j)) H) : rMax2 [.int i, .int j] H Q := ⟨i, j, rfl, by
  have e : (if j > i then j else i) = max i j := by split <;> omega
  rw [e]
  exact q⟩
def rMin2 : List V → Hp → VK → Prop := fun xs H Q => ∃ i j, xs = [.int i, .int j] ∧ Q (.int (if j < i then j else i)) H
theorem cr_min2 (hc : X.calm = true) : CallR X (.builtin "min") rMin2 := call_min2 hc
theorem r_min2 {i j : Int} (q : Q (.int (min i j)) H) : rMin2 [.int i, .int j] H Q := ⟨i, j, rfl, by
  have e : (if j < i then j else i) = min i j := by split <;> omega
  rw [e]
  exact q⟩
theorem r_sum {p : Addr} {ns : List Int} (h : SqL K H p (ns.map V.int)) (q : Q (.int ns.sum) H) : rSum K [.ref p] H Q := ⟨p, ns, rfl, h, q⟩
theorem r_all {p : Addr} {bs : List Bool} (h : SqL K H p (bs.map V.bl)) (q : Q (.bl (bs.all id)) H) : rAll K [.ref p] H Q := ⟨p, bs, rfl, h, q⟩
theorem r_any {p : Addr} {bs : List Bool} (h : SqL K H p (bs.map V.bl)) (q : Q (.bl (bs.any id)) H) : rAny K [.ref p] H Q := ⟨p, bs, rfl, h, q⟩
theorem r_minL {p : Addr} {ns : List Int} (h : SqL K H p (ns.map V.int)) (n : 0 < ns.length) (q : ∀ m, m ∈ ns → (∀ y ∈ ns, m ≤ y) → Q (.int m) H) : rMin K [.ref p] H Q := ⟨p, ns, rfl, h, n, fun m a b => q m a b⟩
theorem r_maxL {p : Addr} {ns : List Int} (h : SqL K H p (ns.map V.int)) (n : 0 < ns.length) (q : ∀ m, m ∈ ns → (∀ y ∈ ns, y ≤ m) → Q (.int m) H) : rMax K [.ref p] H Q := ⟨p, ns, rfl, h, n, fun m a b => q m a b⟩
def rListOf (K : PySem.W.Frag) : List V → Hp → VK → Prop := fun xs H Q => ∃ p ys, xs = [.ref p] ∧ (SqL K H p ys ∨ SqT K H p ys) ∧ ∀ l, H l = none → Q (.ref l) (upd H l (.lst ys))
theorem cr_listOf : CallR X (.type "list") (rListOf X.K) := call_list_of
theorem r_listOf {p : Addr} {xs : List V} (h : SqL K H p xs) (q : ∀ l H', H l = none → Ex H H' → H' l = some (.lst xs) → Q (.ref l) H') : rListOf K [.ref p] H Q := ⟨p, xs, rfl, .inl h, fun l hl => q l _ hl (exN hl) upd_same⟩
theorem r_slL {p : Addr} {xs : List V} {lo hi : Option Int} (h : SqL K H p xs) (q : ∀ l H', H l = none → Ex H H' → H' l = some (.lst (cutV xs lo hi)) → Q (.ref l) H') : rSlL K (.ref p) lo hi H Q := ⟨p, xs, rfl, h, fun l hl => q l _ hl (exN hl) upd_same⟩
theorem r_cat {p q : Addr} {xs ys : List V} (h1 : H p = some (.lst xs)) (h2 : H q = some (.lst ys)) (n : xs.length + ys.length ≤ sizeLine) (k : ∀ l H', H l = none → Ex H H' → H' l = some (.lst (xs ++ ys)) → Q (.ref l) H') : rCat (.ref p) (.ref q) H Q :=
  ⟨p, q, xs, ys, rfl, rfl, h1, h2, n, fun l hl => k l _ hl (exN hl) upd_same⟩
def rAddS : R2 := fun x y H Q => ∃ i j, x = .str i ∧ y = .str j ∧ i.length + j.length ≤ sizeLine ∧ Q (.str (i ++ j)) H
theorem op_addS : OpR X (binaryOp .Add) rAddS := op_add_str
theorem r_addS {i j : Str} (n : i.length + j.length ≤ sizeLine) (q : Q (.str (i ++ j)) H) : rAddS (.str i) (.str j) H Q := ⟨i, j, rfl, rfl, n, q⟩
theorem r_ixS {z : Str} {i : Int} {c : Nat} (n : z.length ≤ sizeLine) (e : atI z.cps.toList i = some c) (q : Q (.str ⟨#[c]⟩) H) : rIxS (.str z) (.int i) H Q := ⟨z, i, c, rfl, rfl, n, e, q⟩
theorem r_isi {x c : V} {t u : Value} {b : Bool} (hc : ClsV c u) (ht : TyX K H x t) (e : PySem.W.kitOne K t u = some b) (q : Q (.bl b) H) : rIsi K [x, c] H Q := ⟨x, c, t, u, b, rfl, hc, ht, e, q⟩
theorem r_in {x : V} {p : Addr} {xs : List V} (h : SqL K H p xs ∨ SqT K H p xs) (f1 : flatV x = true) (f2 : xs.all flatV = true) (q : Q (.bl (inV x xs)) H) : rIn K false x (.ref p) H Q := ⟨p, xs, rfl, h, f1, f2, q⟩
theorem r_eqD {x y : V} (d e : PyData) (h1 : Dp K H x d) (h2 : Dp K H y e) (s1 : SeqAt.shaped d = true) (s2 : SeqAt.shaped e = true) (q : Q (.bl (PyData.eqv d e)) H) : rEqD K x y H Q := ⟨d, e, h1, h2, s1, s2, q⟩
theorem r_neD {x y : V} (d e : PyData) (h1 : Dp K H x d) (h2 : Dp K H y e) (s1 : SeqAt.shaped d = true) (s2 : SeqAt.shaped e = true) (q : Q (.bl (!PyData.eqv d e)) H) : rNeD K x y H Q := ⟨d, e, h1, h2, s1, s2, q⟩
theorem r_tPart {te : TE} {σ : L2.St} {Q : Option Int → Hp → Prop} (q : te σ H fun x H1 => ∃ i, x = .int i ∧ Q (some i) H1) : tPart te σ H Q := q
theorem r_noPart {σ : L2.St} {Q : Option Int → Hp → Prop} (q : Q none H) : tNoPart σ H Q := q
theorem r_int {i : Int} {P : Int → Prop} (q : P i) : ∃ j, V.int i = .int j ∧ P j := ⟨i, rfl, q⟩
theorem r_sl {r : V → Option Int → Option Int → Hp → VK → Prop} {te : TE} {tl th : TO} {σ : L2.St} (q : te σ H fun x H1 => tl σ H1 fun l H2 => th σ H2 fun u H3 => r x l u H3 Q) : tSl r te tl th σ H Q := q
end
/-! ### lists of pairs -/
section
variable {K : PySem.W.Frag} {H H' : Hp}
theorem exL {a : Addr} {xs : List V} (e : Ex H H') (h : SqL K H a xs) : SqL K H' a xs := Evl.ex_l e h
theorem exU {a : Addr} {xs : List V} (e : Ex H H') (h : SqT K H a xs) : SqT K H' a xs := Evl.ex_t e h
/-- a list of two-item tuples -/
def PairsAt (K : PySem.W.Frag) (H : Hp) (a : Addr) (xs : List (V × V)) : Prop :=
  ∃ vs : List V, H a = some (.lst vs) ∧ vs.length = xs.length ∧ ∀ (i : Nat) (x : V × V), xs[i]? = some x → ∃ p, vs[i]? = some (.ref p) ∧ H p = some (.tup [x.1, x.2])
theorem PairsAt.ex {a : Addr} {xs : List (V × V)} (e : Ex H H') (h : PairsAt K H a xs) : PairsAt K H' a xs := by
  obtain ⟨vs, h1, h2, h3⟩ := h
  exact ⟨vs, e _ _ h1, h2, fun i x hx => let ⟨p, q1, q2⟩ := h3 i x hx; ⟨p, q1, e _ _ q2⟩⟩
/-- the pair of names that a turn sets -/
abbrev gPair (K : PySem.W.Frag) (i j : Nat) : TG := gTup K 2 (gCons (gName i) (gCons (gName j) gNil))
theorem g_pair {σ : L2.St} {i j : Nat} {p : Addr} {x y : V} {Q : L2.St → Hp → Prop} (h : SqT K H p [x, y]) (q : Q ((σ.set i (some x)).set j (some y)) H) : gPair K i j (.ref p) σ H Q :=
  ⟨p, [x, y], rfl, h, rfl, x, [y], rfl, y, [], rfl, rfl, q⟩
/-! ### loops and comprehensions: what is wanted of the iterator -/
/-- a for's wish of what it walks -/
def ForK (g : TG) (tb : TS) (D : Ends) (σ : L2.St) : It → Hp → Prop := fun J H1 => ∃ W : Nat → Nat → L2.St → Hp → Prop, (∃ m, W 0 m σ H1) ∧ ∀ i m σ H, W i m σ H →
  (J.stop i H ∧ D.nx σ H) ∨ (J.go i H ∧ ∃ N : L2.St → Hp → Prop, (∀ σ' H', N σ' H' → ∃ m', m' < m ∧ W (i + 1) m' σ' H') ∧ ∀ x H', J.yld i H x H' → g x σ H' fun σ2 H2 => tb { D with nx := N, ct := N, bk := D.nx } σ2 H2)
theorem r_for {wi : TI} {g : TG} {tb : TS} {nx : L2.St → Hp → Prop} {rt : VK} {bk ct : L2.St → Hp → Prop} {σ : L2.St} (q : wi σ H (ForK g tb ⟨nx, rt, bk, ct⟩ σ)) : tFor wi g tb ⟨nx, rt, bk, ct⟩ σ H := q
/-- a comprehension's -/
def LcK (g : TG) (tt : TT) (te : TE) (vs : List Nat) (σ : L2.St) (Q : VK) : It → Hp → Prop := fun J H1 => ∀ D, H1 D = none → ∃ W : Nat → Nat → Hp → Prop, (∃ m, W 0 m (upd H1 D (.lst []))) ∧ ∀ i m H, W i m H →
  (J.stop i H ∧ Q (.ref D) H) ∨ (J.go i H ∧ ∃ Nx : Hp → Prop, (∀ H', Nx H' → ∃ m', m' < m ∧ W (i + 1) m' H') ∧ ∀ x H', J.yld i H x H' → g x (wipe σ vs) H' fun σ2 H2 => wipe σ2 vs = wipe σ vs ∧ tt σ2 H2 fun b H3 =>
    if b = true then te σ2 H3 fun y H4 => ∃ acc, H4 D = some (.lst acc) ∧ acc.length < sizeLine ∧ Nx (upd H4 D (.lst (acc ++ [y]))) else Nx H3)
theorem r_lc {wi : TI} {g : TG} {tt : TT} {te : TE} {vs : List Nat} {σ : L2.St} {Q : VK} (q : wi σ H (LcK g tt te vs σ Q)) : tLc wi g tt te vs σ H Q := q
theorem r_yes {σ : L2.St} {Q : Bool → Hp → Prop} (q : Q true H) : tYes σ H Q := q
theorem r_iL {tl : TE} {σ : L2.St} {R : It → Hp → Prop} (q : tl σ H fun x H1 => ∃ a, x = .ref a ∧ (∃ xs, SqL K H1 a xs) ∧ R (Itl K a) H1) : iList K tl σ H R := q
theorem r_iT {tl : TE} {σ : L2.St} {R : It → Hp → Prop} (q : tl σ H fun x H1 => ∃ a, x = .ref a ∧ (∃ xs, SqT K H1 a xs) ∧ R (Itt K a) H1) : iTup K tl σ H R := q
theorem r_atL {a : Addr} {xs : List V} {R : It → Hp → Prop} (h : SqL K H a xs) (q : R (Itl K a) H) : ∃ a', V.ref a = .ref a' ∧ (∃ xs, SqL K H a' xs) ∧ R (Itl K a') H := ⟨a, rfl, ⟨xs, h⟩, q⟩
theorem r_atT {a : Addr} {xs : List V} {R : It → Hp → Prop} (h : SqT K H a xs) (q : R (Itt K a) H) : ∃ a', V.ref a = .ref a' ∧ (∃ xs, SqT K H a' xs) ∧ R (Itt K a') H := ⟨a, rfl, ⟨xs, h⟩, q⟩
/-- for x, y in pairs -/
theorem forK_pairs {a : Addr} {xs : List (V × V)} {i j : Nat} {tb : TS} {nx : L2.St → Hp → Prop} {rt : VK} {bk ct : L2.St → Hp → Prop} {σ : L2.St} (H0 : Hp) (h0 : PairsAt K H0 a xs) (Pv : Nat → L2.St → Hp → Prop) (p0 : Pv 0 σ H)
    (hx : ∀ n σ' H', Pv n σ' H' → Ex H0 H')
    (hs : ∀ n x σ' H', xs[n]? = some x → Pv n σ' H' → tb ⟨Pv (n + 1), rt, nx, Pv (n + 1)⟩ ((σ'.set i (some x.1)).set j (some x.2)) H')
    (hd : ∀ σ' H', Pv xs.length σ' H' → nx σ' H') : ∃ a', V.ref a = .ref a' ∧ (∃ xs, SqL K H a' xs) ∧ ForK (gPair K i j) tb ⟨nx, rt, bk, ct⟩ σ (Itl K a') H := by
  obtain ⟨vs, h1, h2, h3⟩ := h0
  refine ⟨a, rfl, ⟨vs, exL (hx _ _ _ p0) (.of h1)⟩, for_it walk_list Pv p0 (fun n σ' H' _ p => exL (hx _ _ _ p) (.of h1)) (fun n x σ' H' H'' hn p y => ?_) (fun σ' H' p => hd σ' H' (h2 ▸ p))⟩
  obtain ⟨rfl, hy⟩ := y
  have hn' : n < xs.length := h2 ▸ hn
  obtain ⟨pp, q1, q2⟩ := h3 n xs[n] (List.getElem?_eq_getElem hn')
  rw [hy] at q1
  cases q1
  exact g_pair (exU (hx _ _ _ p) (.of q2)) (hs n _ _ _ (List.getElem?_eq_getElem hn') p)
/-- [e for x, y in pairs] -/
theorem lcK_pairs {a : Addr} {xs : List (V × V)} {te : TE} {i j : Nat} {ws : List Nat} {σ : L2.St} {Q : VK} (f : V × V → V) (h0 : PairsAt K H a xs) (hz : xs.length ≤ 40000)
    (hw : ∀ x y, wipe (((wipe σ ws).set i (some x)).set j (some y)) ws = wipe σ ws)
    (he : ∀ x ∈ xs, ∀ H1, Ex H H1 → ∀ Q : VK, (∀ H2, Ex H1 H2 → Q (f x) H2) → te (((wipe σ ws).set i (some x.1)).set j (some x.2)) H1 Q)
    (q : ∀ p H', H p = none → Ex H H' → H' p = some (.lst (xs.map f)) → Q (.ref p) H') : ∃ a', V.ref a = .ref a' ∧ (∃ xs, SqL K H a' xs) ∧ LcK (gPair K i j) tYes te ws σ Q (Itl K a') H := by
  obtain ⟨vs, h1, h2, h3⟩ := h0
  refine ⟨a, rfl, ⟨vs, .of h1⟩, fun Dl hD => ?_⟩
  refine lc_it walk_list (fun n H' => Ex H H' ∧ H' Dl = some (.lst ((xs.take n).map f))) ⟨exN hD, upd_same⟩ (fun n H' _ p => exL p.1 (.of h1)) (fun n x H' H'' hn p y => ?_) (fun H' p => ?_)
  · obtain ⟨rfl, hy⟩ := y
    have hn' : n < xs.length := h2 ▸ hn
    obtain ⟨pp, q1, q2⟩ := h3 n xs[n] (List.getElem?_eq_getElem hn')
    rw [hy] at q1
    cases q1
    refine g_pair (exU p.1 (.of q2)) ⟨hw _ _, ?_⟩
    refine r_yes (iteT ?_)
    refine he xs[n] (List.getElem_mem hn') _ p.1 _ fun H2 e2 => ⟨_, e2 _ _ p.2, ?_, exM (exT e2 p.1) hD, ?_⟩
    · rw [List.length_map, List.length_take]
      exact Evl.sz_lt (by omega)
    · rw [upd_same, List.take_add_one, List.getElem?_eq_getElem hn', List.map_append]
      rfl
  · refine q Dl H' hD p.1 ?_
    rw [p.2, h2, List.take_length]
/-- [e for x in ..], the item a name: what each turn gives is told by ys -/
theorem lcK_gen {J : It} {n : Nat} {G : Hp → Prop} {P : Nat → V → Prop} (w : Walk J n G fun i H x H' => H' = H ∧ P i x) {te : TE} {j : Nat} {ws : List Nat} {σ : L2.St} {Q : VK} (ys : List V) (hl : ys.length = n) (hG : ∀ H', Ex H H' → G H') (hz : n ≤ 40000)
    (hw : ∀ x, wipe ((wipe σ ws).set j (some x)) ws = wipe σ ws)
    (he : ∀ (i : Nat) (x y : V), P i x → ys[i]? = some y → ∀ H1, Ex H H1 → ∀ Q : VK, (∀ H2, Ex H1 H2 → Q y H2) → te ((wipe σ ws).set j (some x)) H1 Q)
    (q : ∀ p H', H p = none → Ex H H' → H' p = some (.lst ys) → Q (.ref p) H') : LcK (gName j) tYes te ws σ Q J H := by
  intro Dl hD
  refine lc_it w (fun m H' => Ex H H' ∧ H' Dl = some (.lst (ys.take m))) ⟨exN hD, upd_same⟩ (fun m H' _ p => hG _ p.1) (fun m x H' H'' hm p y => ?_) (fun H' p => ?_)
  · obtain ⟨rfl, hy⟩ := y
    have hm' : m < ys.length := hl ▸ hm
    refine ⟨hw _, r_yes (iteT ?_)⟩
    refine he m x ys[m] hy (List.getElem?_eq_getElem hm') _ p.1 _ fun H2 e2 => ⟨_, e2 _ _ p.2, ?_, exM (exT e2 p.1) hD, ?_⟩
    · rw [List.length_take]
      exact Evl.sz_lt (by omega)
    · rw [upd_same, List.take_add_one, List.getElem?_eq_getElem hm']
      rfl
  · refine q Dl H' hD p.1 ?_
    rw [p.2, ← hl, List.take_length]
theorem lcK_list {a : Addr} {xs : List V} {te : TE} {j : Nat} {ws : List Nat} {σ : L2.St} {Q : VK} (ys : List V) (hl : ys.length = xs.length) (h0 : SqL K H a xs) (hz : xs.length ≤ 40000)
    (hw : ∀ x, wipe ((wipe σ ws).set j (some x)) ws = wipe σ ws)
    (he : ∀ (i : Nat) (x y : V), xs[i]? = some x → ys[i]? = some y → ∀ H1, Ex H H1 → ∀ Q : VK, (∀ H2, Ex H1 H2 → Q y H2) → te ((wipe σ ws).set j (some x)) H1 Q)
    (q : ∀ p H', H p = none → Ex H H' → H' p = some (.lst ys) → Q (.ref p) H') : ∃ a', V.ref a = .ref a' ∧ (∃ xs, SqL K H a' xs) ∧ LcK (gName j) tYes te ws σ Q (Itl K a') H :=
  ⟨a, rfl, ⟨xs, h0⟩, lcK_gen (walk_list (xs := xs)) ys hl (fun H' e => exL e h0) hz hw he q⟩
theorem lcK_range {n : Nat} {te : TE} {j : Nat} {ws : List Nat} {σ : L2.St} {Q : VK} (ys : List V) (hl : ys.length = n) (hz : n ≤ 40000)
    (hw : ∀ x, wipe ((wipe σ ws).set j (some x)) ws = wipe σ ws)
    (he : ∀ (i : Nat) (y : V), ys[i]? = some y → ∀ H1, Ex H H1 → ∀ Q : VK, (∀ H2, Ex H1 H2 → Q y H2) → te ((wipe σ ws).set j (some (.int (i : Int)))) H1 Q)
    (q : ∀ p H', H p = none → Ex H H' → H' p = some (.lst ys) → Q (.ref p) H') : LcK (gName j) tYes te ws σ Q (Itr 0 n) H :=
  lcK_gen (walk_range.mono (fun _ h => h) fun _ _ _ _ _ _ y => y) ys hl (fun _ _ => trivial) hz hw (fun i x y hx hy H1 e1 Q1 k1 => by
    have hx' : x = .int (0 + (i : Int)) := hx
    rw [Int.zero_add] at hx'
    subst hx'
    exact he i y hy H1 e1 Q1 k1) q
theorem r_rng1 {ta : TA} {σ : L2.St} {R : It → Hp → Prop} (q : ta σ H fun vs H1 => ∃ j : Int, vs = [.int j] ∧ -(2 ^ 62) ≤ j ∧ j < 2 ^ 62 ∧ R (Itr 0 j.toNat) H1) : iRng1 ta σ H R := q
theorem r_rng1b {j : Int} {n : Nat} {R : It → Hp → Prop} (hj : j = (n : Int)) (hn : n < 1000000) (q : R (Itr 0 n) H) : ∃ j' : Int, [V.int j] = [.int j'] ∧ -(2 ^ 62) ≤ j' ∧ j' < 2 ^ 62 ∧ R (Itr 0 j'.toNat) H :=
  ⟨j, rfl, by omega, by omega, by rw [hj, Int.toNat_natCast]; exact q⟩
end
/-! ### rings -/
/-- stretches: True for the kind a -/
abbrev Ring := List (Bool × Int)
def kS (k : Bool) : Str := if k then "a" else "b"
theorem kS_a (k : Bool) : decide (kS k = ("a" : Str)) = k := by cases k <;> decide
theorem kS_inj {k l : Bool} : kS k = kS l ↔ k = l := by cases k <;> cases l <;> decide
def prV (x : Bool × Int) : V × V := (.str (kS x.1), .int x.2)
def unpr (f : Bool × Int → V) : V × V → V
  | (.str s, .int m) => f (decide (s = ("a" : Str)), m)
  | _ => .non
theorem unpr_prV (f : Bool × Int → V) (x : Bool × Int) : unpr f (prV x) = f x := by
  show f (decide (kS x.1 = ("a" : Str)), x.2) = f x
  rw [kS_a]
def RingAt (K : PySem.W.Frag) (H : Hp) (a : Addr) (r : Ring) : Prop := PairsAt K H a (r.map prV)
section
variable {K : PySem.W.Frag} {H H' : Hp}
theorem RingAt.ex {a : Addr} {r : Ring} (e : Ex H H') (h : RingAt K H a r) : RingAt K H' a r := PairsAt.ex e h
theorem forK_ring {a : Addr} {r : Ring} {i j : Nat} {tb : TS} {nx : L2.St → Hp → Prop} {rt : VK} {bk ct : L2.St → Hp → Prop} {σ : L2.St} (H0 : Hp) (h0 : RingAt K H0 a r) (Pv : Nat → L2.St → Hp → Prop) (p0 : Pv 0 σ H)
    (hx : ∀ n σ' H', Pv n σ' H' → Ex H0 H')
    (hs : ∀ n k m σ' H', r[n]? = some (k, m) → Pv n σ' H' → tb ⟨Pv (n + 1), rt, nx, Pv (n + 1)⟩ ((σ'.set i (some (.str (kS k)))).set j (some (.int m))) H')
    (hd : ∀ σ' H', Pv r.length σ' H' → nx σ' H') : ∃ a', V.ref a = .ref a' ∧ (∃ xs, SqL K H a' xs) ∧ ForK (gPair K i j) tb ⟨nx, rt, bk, ct⟩ σ (Itl K a') H := by
  refine forK_pairs H0 h0 Pv p0 hx (fun n x σ' H' hn p => ?_) (fun σ' H' p => hd σ' H' (by rw [List.length_map] at p; exact p))
  rw [List.getElem?_map] at hn
  cases e : r[n]? with
  | none => rw [e] at hn; cases hn
  | some y =>
    rw [e] at hn
    cases hn
    exact hs n y.1 y.2 σ' H' e p
theorem lcK_ring {a : Addr} {r : Ring} {te : TE} {i j : Nat} {ws : List Nat} {σ : L2.St} {Q : VK} (f : Bool × Int → V) (h0 : RingAt K H a r) (hz : r.length ≤ 40000)
    (hw : ∀ x y, wipe (((wipe σ ws).set i (some x)).set j (some y)) ws = wipe σ ws)
    (he : ∀ k m, (k, m) ∈ r → ∀ H1, Ex H H1 → ∀ Q : VK, (∀ H2, Ex H1 H2 → Q (f (k, m)) H2) → te (((wipe σ ws).set i (some (.str (kS k)))).set j (some (.int m))) H1 Q)
    (q : ∀ p H', H p = none → Ex H H' → H' p = some (.lst (r.map f)) → Q (.ref p) H') : ∃ a', V.ref a = .ref a' ∧ (∃ xs, SqL K H a' xs) ∧ LcK (gPair K i j) tYes te ws σ Q (Itl K a') H := by
  have em : (r.map prV).map (unpr f) = r.map f := by
    rw [List.map_map]
    exact List.map_congr_left fun x _ => unpr_prV f x
  refine lcK_pairs (unpr f) h0 (by rw [List.length_map]; exact hz) hw (fun x hx H1 e1 Q1 k1 => ?_) (fun p H' n e h => q p H' n e (by rw [h, em]))
  obtain ⟨y, hy, rfl⟩ := List.mem_map.mp hx
  refine he y.1 y.2 hy H1 e1 Q1 fun H2 e2 => ?_
  have z := k1 H2 e2
  rw [unpr_prV] at z
  exact z
/-- a ring as data -/
def stD (x : Bool × Int) : PyData := .tuple [.str (kS x.1), .int x.2]
def rdD (r : Ring) : PyData := .list (r.map stD)
theorem rdD_all (r : Ring) : PyData.canLayAll0 (r.map stD) = true ∧ PyData.depthAll (r.map stD) ≤ 1 := by
  induction r with
  | nil => exact ⟨by simp [PyData.canLayAll0], by simp [PyData.depthAll]⟩
  | cons x r ih =>
    have h1 : PyData.strOk (kS x.1) = true := by cases x.1 <;> decide +kernel
    refine ⟨?_, ?_⟩
    · rw [List.map_cons, PyData.canLayAll0, ih.1, stD, PyData.canLay0, PyData.canLayAll0, PyData.canLay0, h1, PyData.canLayAll0, PyData.canLay0, PyData.canLayAll0]
      rfl
    · rw [List.map_cons, PyData.depthAll, stD, PyData.depth, PyData.depthAll, PyData.depth, PyData.depthAll, PyData.depth, PyData.depthAll]
      have := ih.2
      omega
theorem rdD_shaped (r : Ring) : SeqAt.shaped (rdD r) = true := by
  have h := rdD_all r
  unfold SeqAt.shaped rdD
  rw [PyData.canLay0, h.1, PyData.depth]
  have := h.2
  exact decide_eq_true (by omega)
theorem rdD_same (r : Ring) : PyData.eqv (rdD r) (rdD r) = true := SeqAt.eqv_refl _ (by
  unfold rdD
  rw [PyData.canLay0]
  exact (rdD_all r).1)
theorem rdD_nil (r : Ring) : PyData.eqv (rdD r) (rdD []) = decide (r = []) := by
  cases r with
  | nil => simp [rdD, PyData.eqv, PyData.eqvAll]
  | cons x r => simp [rdD, PyData.eqv, PyData.eqvAll]
theorem RingAt.dp {a : Addr} {r : Ring} (h : RingAt K H a r) : Dp K H (.ref a) (rdD r) := by
  obtain ⟨vs, h1, h2, h3⟩ := h
  refine Dp.lst (.of h1) ?_
  clear h1
  rw [List.length_map] at h2
  induction r generalizing vs with
  | nil =>
    cases vs with
    | nil => exact .nil
    | cons v vs => simp at h2
  | cons x r ih =>
    cases vs with
    | nil => simp at h2
    | cons v vs =>
      obtain ⟨p, q1, q2⟩ := h3 0 (prV x) rfl
      have ev : v = .ref p := by simpa using q1
      subst ev
      refine .cons (.tup (.of q2) (.cons (.str _) (.cons (.int _) .nil))) (ih vs (by simpa using h2) fun i y hy => ?_)
      obtain ⟨p', z1, z2⟩ := h3 (i + 1) y (by simpa using hy)
      exact ⟨p', by simpa using z1, z2⟩
/-! ### two things a turn, in a new pair -/
theorem forK_two {J : It} {n : Nat} {G : Hp → Prop} {f g : Nat → Option V} (w : Walk J n G (YPair f g)) {i : Nat} {g2 : TG} {tb : TS} {nx : L2.St → Hp → Prop} {rt : VK} {bk ct : L2.St → Hp → Prop} {σ : L2.St} (Pv : Nat → L2.St → Hp → Prop) (p0 : Pv 0 σ H)
    (hG : ∀ m σ' H', m ≤ n → Pv m σ' H' → G H') (hm : ∀ m σ' H' H'', Ex H' H'' → Pv m σ' H' → Pv m σ' H'')
    (hs : ∀ m x y σ' H', m < n → f m = some x → g m = some y → Pv m σ' H' → g2 y (σ'.set i (some x)) H' fun σ2 H2 => gNil [] σ2 H2 fun σ2 H2 => tb ⟨Pv (m + 1), rt, nx, Pv (m + 1)⟩ σ2 H2)
    (hd : ∀ σ' H', Pv n σ' H' → nx σ' H') : ForK (gTup K 2 (gCons (gName i) (gCons g2 gNil))) tb ⟨nx, rt, bk, ct⟩ σ J H := by
  refine for_it w Pv p0 hG (fun m x σ' H' H'' hm' p y => ?_) hd
  obtain ⟨T, a, b, rfl, hT, rfl, ha, hb⟩ := y
  refine ⟨T, [a, b], rfl, .of upd_same, rfl, a, [b], rfl, b, [], rfl, ?_⟩
  exact hs m a b σ' _ hm' ha hb (hm m σ' H' _ (exN hT) p)
theorem r_enum {ta : TA} {σ : L2.St} {R : It → Hp → Prop} (q : ta σ H fun vs H1 => ∃ a xs, vs = [.ref a] ∧ SqL K H1 a xs ∧ R (Ite K a) H1) : iEnum K ta σ H R := q
theorem r_enumb {a : Addr} {xs : List V} {R : It → Hp → Prop} (h : SqL K H a xs) (q : R (Ite K a) H) : ∃ a' xs, [V.ref a] = [.ref a'] ∧ SqL K H a' xs ∧ R (Ite K a') H := ⟨a, xs, rfl, h, q⟩
/-- for k, x in enumerate(whole numbers) -/
theorem forK_enum {a : Addr} {ns : List Int} {i j : Nat} {tb : TS} {nx : L2.St → Hp → Prop} {rt : VK} {bk ct : L2.St → Hp → Prop} {σ : L2.St} (H0 : Hp) (h0 : SqL K H0 a (ns.map V.int)) (Pv : Nat → L2.St → Hp → Prop) (p0 : Pv 0 σ H)
    (hx : ∀ n σ' H', Pv n σ' H' → Ex H0 H') (hm : ∀ m σ' H' H'', Ex H' H'' → Pv m σ' H' → Pv m σ' H'')
    (hs : ∀ n z σ' H', ns[n]? = some z → Pv n σ' H' → tb ⟨Pv (n + 1), rt, nx, Pv (n + 1)⟩ ((σ'.set i (some (.int (n : Int)))).set j (some (.int z))) H')
    (hd : ∀ σ' H', Pv ns.length σ' H' → nx σ' H') : ∃ a' xs, [V.ref a] = [.ref a'] ∧ SqL K H a' xs ∧ ForK (gPair K i j) tb ⟨nx, rt, bk, ct⟩ σ (Ite K a') H := by
  refine r_enumb (exL (hx _ _ _ p0) h0) (forK_two (walk_enum (xs := ns.map V.int)) Pv p0 (fun m σ' H' _ p => exL (hx _ _ _ p) h0) hm (fun m x y σ' H' hm' ex ey p => ?_) (fun σ' H' p => hd σ' H' (by rw [List.length_map] at p; exact p)))
  cases ex
  rw [List.getElem?_map] at ey
  cases q : ns[m]? with
  | none => rw [q] at ey; cases ey
  | some z =>
    rw [q] at ey
    cases ey
    exact ⟨rfl, hs m z σ' H' q p⟩
/-- for x, y in zip(whole numbers, whole numbers), as many of either -/
theorem r_zip {ta : TA} {σ : L2.St} {R : It → Hp → Prop} (q : ta σ H fun vs H1 => ∃ a b xs ys, vs = [.ref a, .ref b] ∧ SqL K H1 a xs ∧ SqL K H1 b ys ∧ R (Itz K a b) H1) : iZip K ta σ H R := q
theorem forK_zipI {a b : Addr} {xs ys : List Int} {i j : Nat} {tb : TS} {nx : L2.St → Hp → Prop} {rt : VK} {bk ct : L2.St → Hp → Prop} {σ : L2.St} (H0 : Hp) (h1 : SqL K H0 a (xs.map V.int)) (h2 : SqL K H0 b (ys.map V.int)) (hl : ys.length = xs.length) (Pv : Nat → L2.St → Hp → Prop) (p0 : Pv 0 σ H)
    (hx : ∀ n σ' H', Pv n σ' H' → Ex H0 H') (hm : ∀ m σ' H' H'', Ex H' H'' → Pv m σ' H' → Pv m σ' H'')
    (hs : ∀ n x y σ' H', xs[n]? = some x → ys[n]? = some y → Pv n σ' H' → tb ⟨Pv (n + 1), rt, nx, Pv (n + 1)⟩ ((σ'.set i (some (.int x))).set j (some (.int y))) H')
    (hd : ∀ σ' H', Pv xs.length σ' H' → nx σ' H') : ∃ a' b' xs ys, [V.ref a, V.ref b] = [.ref a', .ref b'] ∧ SqL K H a' xs ∧ SqL K H b' ys ∧ ForK (gPair K i j) tb ⟨nx, rt, bk, ct⟩ σ (Itz K a' b') H := by
  refine ⟨a, b, _, _, rfl, exL (hx _ _ _ p0) h1, exL (hx _ _ _ p0) h2, forK_two (walk_zip (xs := xs.map V.int) (ys := ys.map V.int) (n := xs.length) (by rw [List.length_map, List.length_map]; omega)) Pv p0 (fun m σ' H' _ p => ⟨exL (hx _ _ _ p) h1, exL (hx _ _ _ p) h2⟩) hm (fun m x y σ' H' hm' ex ey p => ?_) hd⟩
  rw [List.getElem?_map] at ex ey
  cases q1 : xs[m]? with
  | none => rw [q1] at ex; cases ex
  | some u =>
    cases q2 : ys[m]? with
    | none => rw [q2] at ey; cases ey
    | some v =>
      rw [q1] at ex
      rw [q2] at ey
      cases ex
      cases ey
      exact ⟨rfl, hs m u v σ' H' q1 q2 p⟩
/-- for k, (a, b) in enumerate(a ring) -/
theorem forK_enumRing {a : Addr} {r : Ring} {i j l : Nat} {tb : TS} {nx : L2.St → Hp → Prop} {rt : VK} {bk ct : L2.St → Hp → Prop} {σ : L2.St} (H0 : Hp) (h0 : RingAt K H0 a r) (Pv : Nat → L2.St → Hp → Prop) (p0 : Pv 0 σ H)
    (hx : ∀ n σ' H', Pv n σ' H' → Ex H0 H') (hm : ∀ m σ' H' H'', Ex H' H'' → Pv m σ' H' → Pv m σ' H'')
    (hs : ∀ n k m σ' H', r[n]? = some (k, m) → Pv n σ' H' → tb ⟨Pv (n + 1), rt, nx, Pv (n + 1)⟩ (((σ'.set i (some (.int (n : Int)))).set j (some (.str (kS k)))).set l (some (.int m))) H')
    (hd : ∀ σ' H', Pv r.length σ' H' → nx σ' H') : ∃ a' xs, [V.ref a] = [.ref a'] ∧ SqL K H a' xs ∧ ForK (gTup K 2 (gCons (gName i) (gCons (gPair K j l) gNil))) tb ⟨nx, rt, bk, ct⟩ σ (Ite K a') H := by
  obtain ⟨vs, h1, h2, h3⟩ := h0
  rw [List.length_map] at h2
  refine r_enumb (exL (hx _ _ _ p0) (.of h1)) (forK_two (walk_enum (xs := vs)) Pv p0 (fun m σ' H' _ p => exL (hx _ _ _ p) (.of h1)) hm (fun m x y σ' H' hm' ex ey p => ?_) (fun σ' H' p => hd σ' H' (h2 ▸ p)))
  cases ex
  have hr : m < r.length := h2 ▸ hm'
  obtain ⟨q, z1, z2⟩ := h3 m (prV r[m]) (by rw [List.getElem?_map, List.getElem?_eq_getElem hr]; rfl)
  have e : y = .ref q := Option.some.inj (ey.symm.trans z1)
  subst e
  exact g_pair (.of (hx _ _ _ p _ _ z2)) ⟨rfl, hs m _ _ σ' H' (List.getElem?_eq_getElem hr) p⟩
/-- for x in a tuple of whole numbers, in a list of them -/
theorem forK_tupI {a : Addr} {zs : List Int} {j : Nat} {tb : TS} {nx : L2.St → Hp → Prop} {rt : VK} {bk ct : L2.St → Hp → Prop} {σ : L2.St} (H0 : Hp) (h0 : SqT K H0 a (zs.map V.int)) (Pv : Nat → L2.St → Hp → Prop) (p0 : Pv 0 σ H)
    (hx : ∀ n σ' H', Pv n σ' H' → Ex H0 H')
    (hs : ∀ n z σ' H', zs[n]? = some z → Pv n σ' H' → tb ⟨Pv (n + 1), rt, nx, Pv (n + 1)⟩ (σ'.set j (some (.int z))) H')
    (hd : ∀ σ' H', Pv zs.length σ' H' → nx σ' H') : ∃ a', V.ref a = .ref a' ∧ (∃ xs, SqT K H a' xs) ∧ ForK (gName j) tb ⟨nx, rt, bk, ct⟩ σ (Itt K a') H := by
  refine ⟨a, rfl, ⟨_, exU (hx _ _ _ p0) h0⟩, for_it (walk_tup (xs := zs.map V.int)) Pv p0 (fun n σ' H' _ p => exU (hx _ _ _ p) h0) (fun n x σ' H' H'' hn p y => ?_) (fun σ' H' p => hd σ' H' (by rw [List.length_map] at p; exact p))⟩
  obtain ⟨rfl, hy⟩ := y
  rw [List.getElem?_map] at hy
  cases e : zs[n]? with
  | none => rw [e] at hy; cases hy
  | some z =>
    rw [e] at hy
    cases hy
    exact hs n z σ' _ e p
theorem forK_listI {a : Addr} {zs : List Int} {j : Nat} {tb : TS} {nx : L2.St → Hp → Prop} {rt : VK} {bk ct : L2.St → Hp → Prop} {σ : L2.St} (H0 : Hp) (h0 : SqL K H0 a (zs.map V.int)) (Pv : Nat → L2.St → Hp → Prop) (p0 : Pv 0 σ H)
    (hx : ∀ n σ' H', Pv n σ' H' → Ex H0 H')
    (hs : ∀ n z σ' H', zs[n]? = some z → Pv n σ' H' → tb ⟨Pv (n + 1), rt, nx, Pv (n + 1)⟩ (σ'.set j (some (.int z))) H')
    (hd : ∀ σ' H', Pv zs.length σ' H' → nx σ' H') : ∃ a', V.ref a = .ref a' ∧ (∃ xs, SqL K H a' xs) ∧ ForK (gName j) tb ⟨nx, rt, bk, ct⟩ σ (Itl K a') H := by
  refine ⟨a, rfl, ⟨_, exL (hx _ _ _ p0) h0⟩, for_it (walk_list (xs := zs.map V.int)) Pv p0 (fun n σ' H' _ p => exL (hx _ _ _ p) h0) (fun n x σ' H' H'' hn p y => ?_) (fun σ' H' p => hd σ' H' (by rw [List.length_map] at p; exact p))⟩
  obtain ⟨rfl, hy⟩ := y
  rw [List.getElem?_map] at hy
  cases e : zs[n]? with
  | none => rw [e] at hy; cases hy
  | some z =>
    rw [e] at hy
    cases hy
    exact hs n z σ' _ e p
/-! ### pairs of whole numbers as data -/
def prD (a b : Int) : PyData := .tuple [.int a, .int b]
theorem prD_shaped (a b : Int) : SeqAt.shaped (prD a b) = true := by
  unfold SeqAt.shaped prD
  rw [PyData.canLay0, PyData.canLayAll0, PyData.canLay0, PyData.canLayAll0, PyData.canLay0, PyData.canLayAll0, PyData.depth, PyData.depthAll, PyData.depth, PyData.depthAll, PyData.depth, PyData.depthAll]
  rfl
theorem prD_eqv (a b c d : Int) : PyData.eqv (prD a b) (prD c d) = decide (a = c ∧ b = d) := by
  unfold prD
  rw [PyData.eqv, PyData.eqvAll, PyData.eqv, PyData.eqvAll, PyData.eqv, PyData.eqvAll, Bool.and_true]
  by_cases h1 : a = c <;> by_cases h2 : b = d <;> simp [h1, h2]
theorem dp_pr {p : Addr} {a b : Int} (h : H p = some (.tup [.int a, .int b])) : Dp K H (.ref p) (prD a b) := .tup (.of h) (.cons (.int _) (.cons (.int _) .nil))
/-! ### rings that grow -/
theorem RingAt.nil {q : Addr} (h : H q = some (.lst [])) : RingAt K H q [] := ⟨[], h, rfl, fun i x hx => by simp at hx⟩
theorem RingAt.snoc {q p : Addr} {r : Ring} {vs : List V} {k : Bool} {m : Int} (h : RingAt K H q r) (hv : H q = some (.lst vs)) (hp : H p = some (.tup [.str (kS k), .int m])) : RingAt K (upd H q (.lst (vs ++ [.ref p]))) q (r ++ [(k, m)]) := by
  obtain ⟨ws, h1, h2, h3⟩ := h
  rw [h1] at hv
  cases hv
  have ne : ∀ {t : Addr} {xs : List V}, H t = some (.tup xs) → t ≠ q := fun ht => ne_of ht h1 (by intro z; cases z)
  rw [List.length_map] at h2
  refine ⟨_, upd_same, by simp [h2], fun i x hx => ?_⟩
  rw [List.map_append] at hx
  by_cases hi : i < r.length
  · rw [List.getElem?_append_left (by rw [List.length_map]; exact hi)] at hx
    obtain ⟨t, z1, z2⟩ := h3 i x hx
    exact ⟨t, by rw [List.getElem?_append_left (by omega)]; exact z1, by rw [upd_ne (ne z2)]; exact z2⟩
  · have e : i = r.length := by
      have := (List.getElem?_eq_some_iff.mp hx).1
      simp at this
      omega
    subst e
    have ex : x = prV (k, m) := by
      rw [List.getElem?_append_right (by simp)] at hx
      simpa using hx.symm
    subst ex
    refine ⟨p, ?_, by rw [upd_ne (ne hp)]; exact hp⟩
    rw [List.getElem?_append_right (by omega)]
    simp [h2]
theorem RingAt.one {q p : Addr} {k : Bool} {m : Int} (h : H q = some (.lst [.ref p])) (hp : H p = some (.tup [.str (kS k), .int m])) : RingAt K H q [(k, m)] :=
  ⟨_, h, rfl, fun i x hx => by
    cases i with
    | zero =>
      have ex : prV (k, m) = x := Option.some.inj hx
      subst ex
      exact ⟨p, rfl, hp⟩
    | succ i => simp at hx⟩
theorem RingAt.two {q p p' : Addr} {k k' : Bool} {m m' : Int} (h : H q = some (.lst [.ref p, .ref p'])) (hp : H p = some (.tup [.str (kS k), .int m])) (hp' : H p' = some (.tup [.str (kS k'), .int m'])) : RingAt K H q [(k, m), (k', m')] :=
  ⟨_, h, rfl, fun i x hx => by
    cases i with
    | zero =>
      have ex : prV (k, m) = x := Option.some.inj hx
      subst ex
      exact ⟨p, rfl, hp⟩
    | succ i =>
      cases i with
      | zero =>
        have ex : prV (k', m') = x := Option.some.inj hx
        subst ex
        exact ⟨p', rfl, hp'⟩
      | succ i => simp at hx⟩
theorem RingAt.cat {q p l : Addr} {r s : Ring} {vs us : List V} (hr : RingAt K H q r) (hs : RingAt K H p s) (hq : H q = some (.lst vs)) (hp : H p = some (.lst us)) (hl : H l = some (.lst (vs ++ us))) : RingAt K H l (r ++ s) := by
  obtain ⟨vs', a1, a2, a3⟩ := hr
  obtain ⟨us', b1, b2, b3⟩ := hs
  rw [hq] at a1
  rw [hp] at b1
  cases a1
  cases b1
  rw [List.length_map] at a2 b2
  refine ⟨_, hl, by simp [a2, b2], fun i x hx => ?_⟩
  rw [List.map_append] at hx
  by_cases hi : i < r.length
  · rw [List.getElem?_append_left (by rw [List.length_map]; exact hi)] at hx
    obtain ⟨t, z1, z2⟩ := a3 i x hx
    exact ⟨t, by rw [List.getElem?_append_left (by omega)]; exact z1, z2⟩
  · rw [List.getElem?_append_right (by rw [List.length_map]; omega), List.length_map] at hx
    obtain ⟨t, z1, z2⟩ := b3 _ x hx
    exact ⟨t, by rw [List.getElem?_append_right (by omega), a2]; exact z1, z2⟩
theorem RingAt.take {q l : Addr} {r : Ring} {vs : List V} {k : Nat} (hr : RingAt K H q r) (hq : H q = some (.lst vs)) (hl : H l = some (.lst (vs.take k))) : RingAt K H l (r.take k) := by
  obtain ⟨vs', a1, a2, a3⟩ := hr
  rw [hq] at a1
  cases a1
  rw [List.length_map] at a2
  refine ⟨_, hl, by simp [a2], fun i x hx => ?_⟩
  rw [List.map_take, List.getElem?_take] at hx
  split at hx
  · obtain ⟨t, z1, z2⟩ := a3 i x hx
    exact ⟨t, by rw [List.getElem?_take, if_pos (by assumption)]; exact z1, z2⟩
  · cases hx
theorem RingAt.drop {q l : Addr} {r : Ring} {vs : List V} {k : Nat} (hr : RingAt K H q r) (hq : H q = some (.lst vs)) (hl : H l = some (.lst (vs.drop k))) : RingAt K H l (r.drop k) := by
  obtain ⟨vs', a1, a2, a3⟩ := hr
  rw [hq] at a1
  cases a1
  rw [List.length_map] at a2
  refine ⟨_, hl, by simp [a2], fun i x hx => ?_⟩
  rw [List.map_drop, List.getElem?_drop] at hx
  obtain ⟨t, z1, z2⟩ := a3 _ x hx
  exact ⟨t, by rw [List.getElem?_drop]; exact z1, z2⟩
theorem RingAt.copy {q l : Addr} {r : Ring} {vs : List V} (hr : RingAt K H q r) (hq : H q = some (.lst vs)) (hl : H l = some (.lst vs)) : RingAt K H l r := by
  obtain ⟨vs', a1, a2, a3⟩ := hr
  rw [hq] at a1
  cases a1
  exact ⟨_, hl, a2, a3⟩
theorem RingAt.lst {q : Addr} {r : Ring} (h : RingAt K H q r) : ∃ vs, H q = some (.lst vs) ∧ vs.length = r.length := by
  obtain ⟨vs, h1, h2, _⟩ := h
  exact ⟨vs, h1, by rw [h2, List.length_map]⟩
theorem dp_nil {p : Addr} (h : H p = some (.lst [])) : Dp K H (.ref p) (rdD []) := Dp.lst (.of h) .nil
/-! ### letters -/
theorem ab_of {i : Int} (h0 : 0 ≤ i) (h1 : i < 2) : ∃ c : Nat, atI (("ab" : Str)).cps.toList i = some c ∧ (⟨#[c]⟩ : Str) = kS (decide (i = 0)) := by
  have hi : i = 0 ∨ i = 1 := by omega
  rcases hi with rfl | rfl
  · exact ⟨97, by decide +kernel, by decide +kernel⟩
  · exact ⟨98, by decide +kernel, by decide +kernel⟩
theorem r_ab {i : Int} {Q : VK} (h0 : 0 ≤ i) (h1 : i < 2) (q : Q (.str (kS (decide (i = 0)))) H) : rIxS (.str ("ab" : Str)) (.int i) H Q := by
  obtain ⟨c, e1, e2⟩ := ab_of h0 h1
  exact r_ixS (by decide +kernel) e1 (by rw [e2]; exact q)
theorem aab_of {i : Int} (h0 : 0 ≤ i) (h1 : i < 3) : ∃ c : Nat, atI (("aab" : Str)).cps.toList i = some c ∧ (⟨#[c]⟩ : Str) = kS (decide (i < 2)) := by
  have hi : i = 0 ∨ i = 1 ∨ i = 2 := by omega
  rcases hi with rfl | rfl | rfl
  · exact ⟨97, by decide +kernel, by decide +kernel⟩
  · exact ⟨97, by decide +kernel, by decide +kernel⟩
  · exact ⟨98, by decide +kernel, by decide +kernel⟩
theorem r_aab {i : Int} {Q : VK} (h0 : 0 ≤ i) (h1 : i < 3) (q : Q (.str (kS (decide (i < 2)))) H) : rIxS (.str ("aab" : Str)) (.int i) H Q := by
  obtain ⟨c, e1, e2⟩ := aab_of h0 h1
  exact r_ixS (by decide +kernel) e1 (by rw [e2]; exact q)
theorem cut_to (xs : List V) (k : Nat) : cutV xs none (some (k : Int)) = xs.take k := by
  unfold cutV
  rw [show HT.sIx xs.length xs.length (some (k : Int)) = min k xs.length from HT.sIx_nat _ _ _, HT.sIx_none, List.drop_zero, Nat.sub_zero]
  by_cases h : k ≤ xs.length
  · rw [Nat.min_eq_left h]
  · rw [Nat.min_eq_right (by omega), List.take_length, List.take_of_length_le (by omega)]
theorem cut_from (xs : List V) (k : Nat) : cutV xs (some (k : Int)) none = xs.drop k := by
  unfold cutV
  rw [show HT.sIx xs.length 0 (some (k : Int)) = min k xs.length from HT.sIx_nat _ _ _, HT.sIx_none]
  by_cases h : k ≤ xs.length
  · rw [Nat.min_eq_left h]
    exact List.take_of_length_le (by rw [List.length_drop]; exact Nat.le_refl _)
  · rw [Nat.min_eq_right (by omega), Nat.sub_self, List.take_zero, List.drop_of_length_le (by omega)]
end
end Rb
/-! Ring beads: the mathematics of stretches, no program in sight. -/
namespace Rb
open PySem
/-- all beads; those of the kind a -/
def size : Ring → Int
  | [] => 0
  | x :: r => x.2 + size r
def mine : Ring → Int
  | [] => 0
  | x :: r => (if x.1 then x.2 else 0) + mine r
theorem size_app (r s : Ring) : size (r ++ s) = size r + size s := by
  induction r with
  | nil => simp [size]
  | cons x r ih => simp only [List.cons_append, size, ih]; omega
theorem mine_app (r s : Ring) : mine (r ++ s) = mine r + mine s := by
  induction r with
  | nil => simp [mine]
  | cons x r ih => simp only [List.cons_append, mine, ih]; omega
theorem size_take {r : Ring} {j : Nat} {x : Bool × Int} (h : r[j]? = some x) : size (r.take (j + 1)) = size (r.take j) + x.2 := by
  rw [List.take_add_one, h, size_app]
  simp [size]
theorem mine_take {r : Ring} {j : Nat} {x : Bool × Int} (h : r[j]? = some x) : mine (r.take (j + 1)) = mine (r.take j) + (if x.1 then x.2 else 0) := by
  rw [List.take_add_one, h, mine_app]
  simp [mine]
theorem size_sum (r : Ring) : (r.map (·.2)).sum = size r := by
  induction r with
  | nil => rfl
  | cons x r ih => rw [List.map_cons, List.sum_cons, ih]; rfl
/-- a ring: few stretches, none empty, none beyond some bound -/
structure Ok (r : Ring) : Prop where
  ne : r ≠ []
  few : r.length ≤ 2000
  pos : ∀ x ∈ r, 1 ≤ x.2
  lim : ∀ x ∈ r, x.2 ≤ 1000000000000000000000000000000000000000000000
theorem Ok.len {r : Ring} (o : Ok r) : 0 < r.length := List.length_pos_iff.mpr o.ne
theorem size_lim {M : Int} (h0 : 0 ≤ M) : ∀ r : Ring, (∀ x ∈ r, x.2 ≤ M) → size r ≤ r.length * M
  | [], _ => by simp [size]
  | x :: r, h => by
    have ih := size_lim h0 r fun y hy => h y (List.mem_cons_of_mem _ hy)
    have hx := h x List.mem_cons_self
    have e : ((x :: r).length : Int) * M = r.length * M + M := by
      rw [List.length_cons, Int.natCast_add, Int.add_mul]
      simp
    rw [e]
    simp only [size]
    omega
theorem size_len : ∀ r : Ring, (∀ x ∈ r, 1 ≤ x.2) → (r.length : Int) ≤ size r
  | [], _ => by simp [size]
  | x :: r, h => by
    have ih := size_len r fun y hy => h y (List.mem_cons_of_mem _ hy)
    have hx := h x List.mem_cons_self
    simp only [size, List.length_cons]
    omega
theorem mine_le : ∀ r : Ring, (∀ x ∈ r, 1 ≤ x.2) → 0 ≤ mine r ∧ mine r ≤ size r
  | [], _ => by simp [size, mine]
  | x :: r, h => by
    have ih := mine_le r fun y hy => h y (List.mem_cons_of_mem _ hy)
    have hx := h x List.mem_cons_self
    simp only [size, mine]
    split <;> omega
theorem pos_take {r : Ring} (h : ∀ x ∈ r, 1 ≤ x.2) (j : Nat) : ∀ x ∈ r.take j, 1 ≤ x.2 := fun x hx => h x (List.mem_of_mem_take hx)
theorem Ok.size_pos {r : Ring} (o : Ok r) : 1 ≤ size r := by
  have h1 := size_len r o.pos
  have h2 := o.len
  omega
theorem Ok.size_lt {r : Ring} (o : Ok r) : size r ≤ 2000000000000000000000000000000000000000000000000 := by
  have h1 := size_lim (by decide) r o.lim
  have h2 := o.few
  omega
/-- for the begin and each stretch's end its place; how many of the kind a lie ahead -/
def ends (r : Ring) : List Int := (List.range (r.length + 1)).map fun j => size (r.take j)
def sums (r : Ring) : List Int := (List.range (r.length + 1)).map fun j => mine (r.take j)
theorem ends_len (r : Ring) : (ends r).length = r.length + 1 := by simp [ends]
theorem sums_len (r : Ring) : (sums r).length = r.length + 1 := by simp [sums]
theorem ends_at {r : Ring} {j : Nat} (h : j ≤ r.length) : (ends r)[j]? = some (size (r.take j)) := by
  unfold ends
  rw [List.getElem?_map, List.getElem?_range (by omega)]
  rfl
theorem sums_at {r : Ring} {j : Nat} (h : j ≤ r.length) : (sums r)[j]? = some (mine (r.take j)) := by
  unfold sums
  rw [List.getElem?_map, List.getElem?_range (by omega)]
  rfl
theorem ends_snoc {r : Ring} {n : Nat} {x : Bool × Int} (h : r[n]? = some x) : ends (r.take (n + 1)) = ends (r.take n) ++ [size (r.take n) + x.2] := by
  have hn : n < r.length := (List.getElem?_eq_some_iff.mp h).1
  unfold ends
  rw [List.length_take, List.length_take, Nat.min_eq_left (by omega), Nat.min_eq_left (by omega), List.range_succ (n := n + 1), List.map_append]
  have e : (List.range (n + 1)).map (fun j => size ((r.take (n + 1)).take j)) = (List.range (n + 1)).map (fun j => size ((r.take n).take j)) := by
    refine List.map_congr_left fun j hj => ?_
    rw [List.mem_range] at hj
    rw [List.take_take, List.take_take, Nat.min_eq_left (by omega), Nat.min_eq_left (by omega)]
  rw [e]
  simp only [List.map_cons, List.map_nil, List.take_take, Nat.min_self]
  rw [size_take h]
theorem sums_snoc {r : Ring} {n : Nat} {x : Bool × Int} (h : r[n]? = some x) : sums (r.take (n + 1)) = sums (r.take n) ++ [mine (r.take n) + (if x.1 then x.2 else 0)] := by
  have hn : n < r.length := (List.getElem?_eq_some_iff.mp h).1
  unfold sums
  rw [List.length_take, List.length_take, Nat.min_eq_left (by omega), Nat.min_eq_left (by omega), List.range_succ (n := n + 1), List.map_append]
  have e : (List.range (n + 1)).map (fun j => mine ((r.take (n + 1)).take j)) = (List.range (n + 1)).map (fun j => mine ((r.take n).take j)) := by
    refine List.map_congr_left fun j hj => ?_
    rw [List.mem_range] at hj
    rw [List.take_take, List.take_take, Nat.min_eq_left (by omega), Nat.min_eq_left (by omega)]
  rw [e]
  simp only [List.map_cons, List.map_nil, List.take_take, Nat.min_self]
  rw [mine_take h]
/-- the last of each -/
theorem ends_last (r : Ring) : ends r = (ends r).dropLast ++ [size r] := by
  have h : ends r ≠ [] := by
    intro h
    have := ends_len r
    rw [h] at this
    simp at this
  have e := List.dropLast_concat_getLast h
  have l : (ends r).getLast h = size r := by
    have q := ends_at (r := r) (j := r.length) (Nat.le_refl _)
    rw [List.take_length] at q
    rw [List.getLast_eq_getElem]
    have z := (List.getElem?_eq_some_iff.mp q).2
    simp only [ends_len, Nat.add_sub_cancel]
    exact z
  rw [l] at e
  exact e.symm
theorem sums_last (r : Ring) : sums r = (sums r).dropLast ++ [mine r] := by
  have h : sums r ≠ [] := by
    intro h
    have := sums_len r
    rw [h] at this
    simp at this
  have e := List.dropLast_concat_getLast h
  have l : (sums r).getLast h = mine r := by
    have q := sums_at (r := r) (j := r.length) (Nat.le_refl _)
    rw [List.take_length] at q
    rw [List.getLast_eq_getElem]
    have z := (List.getElem?_eq_some_iff.mp q).2
    simp only [sums_len, Nat.add_sub_cancel]
    exact z
  rw [l] at e
  exact e.symm
theorem ends_last_at (r : Ring) : L2.atI ((ends r).map L2.V.int) (-1) = some (.int (size r)) := by
  rw [ends_last, List.map_append]
  exact L2.atI_last _ _
theorem sums_last_at (r : Ring) : L2.atI ((sums r).map L2.V.int) (-1) = some (.int (mine r)) := by
  rw [sums_last, List.map_append]
  exact L2.atI_last _ _
theorem ends_ix {r : Ring} {j : Nat} (h : j ≤ r.length) : L2.atI ((ends r).map L2.V.int) (j : Int) = some (.int (size (r.take j))) :=
  L2.atI_nat (by rw [List.getElem?_map, ends_at h]; rfl)
theorem sums_ix {r : Ring} {j : Nat} (h : j ≤ r.length) : L2.atI ((sums r).map L2.V.int) (j : Int) = some (.int (mine (r.take j))) :=
  L2.atI_nat (by rw [List.getElem?_map, sums_at h]; rfl)
/-! ### beads of the kind a ahead of a place -/
def ahead : Ring → Int → Int
  | [], _ => 0
  | x :: r, p => if p ≤ x.2 then (if x.1 then p else 0) else (if x.1 then x.2 else 0) + ahead r (p - x.2)
theorem ahead_zero {r : Ring} (h : ∀ x ∈ r, 1 ≤ x.2) : ahead r 0 = 0 := by
  cases r with
  | nil => rfl
  | cons x r =>
    have hx := h x List.mem_cons_self
    simp only [ahead]
    rw [if_pos (by omega)]
    split <;> rfl
/-- beyond the end -/
theorem ahead_all : ∀ {r : Ring} {p : Int}, (∀ x ∈ r, 1 ≤ x.2) → size r ≤ p → ahead r p = mine r
  | [], _, _, _ => rfl
  | x :: r, p, h, hp => by
    have hx := h x List.mem_cons_self
    have hr : ∀ y ∈ r, 1 ≤ y.2 := fun y hy => h y (List.mem_cons_of_mem _ hy)
    simp only [size] at hp
    have hl := size_len r hr
    simp only [ahead, mine]
    by_cases hc : p ≤ x.2
    · rw [if_pos hc]
      have h0 : r = [] := by
        cases r with
        | nil => rfl
        | cons y s =>
          simp only [List.length_cons] at hl
          omega
      subst h0
      simp only [size] at hp
      simp only [mine]
      split <;> omega
    · rw [if_neg hc, ahead_all hr (by omega)]
/-- at a stretch's begin -/
theorem ahead_split : ∀ (r s : Ring) (p : Int), (∀ x ∈ r, 1 ≤ x.2) → 0 ≤ p → (∀ x ∈ s, 1 ≤ x.2) → ahead (r ++ s) (size r + p) = mine r + ahead s p
  | [], s, p, _, _, _ => by simp [size, mine]
  | x :: r, s, p, h, hp, hs => by
    have hx := h x List.mem_cons_self
    have hr : ∀ y ∈ r, 1 ≤ y.2 := fun y hy => h y (List.mem_cons_of_mem _ hy)
    have hl := size_len r hr
    have ih := ahead_split r s p hr hp hs
    simp only [List.cons_append, ahead, size, mine]
    by_cases hc : x.2 + size r + p ≤ x.2
    · have h0 : r = [] := by
        cases r with
        | nil => rfl
        | cons y t =>
          simp only [List.length_cons] at hl
          omega
      subst h0
      have e0 : size [] = 0 := rfl
      have hp0 : p = 0 := by omega
      subst hp0
      rw [if_pos hc, ahead_zero hs, e0]
      simp only [mine]
      split <;> omega
    · rw [if_neg hc, show x.2 + size r + p - x.2 = size r + p by omega, ih]
      omega
/-- within a stretch -/
theorem ahead_at {r : Ring} {j : Nat} {x : Bool × Int} {p : Int} (h : ∀ x ∈ r, 1 ≤ x.2) (hj : r[j]? = some x) (h0 : size (r.take j) ≤ p) (h1 : p ≤ size (r.take j) + x.2) :
    ahead r p = mine (r.take j) + (if x.1 then p - size (r.take j) else 0) := by
  have hn := (List.getElem?_eq_some_iff.mp hj).1
  have e : r = r.take j ++ x :: r.drop (j + 1) := by
    refine (List.take_append_drop j r).symm.trans ?_
    rw [List.drop_eq_getElem_cons hn, (List.getElem?_eq_some_iff.mp hj).2]
  have k := ahead_split (r.take j) (x :: r.drop (j + 1)) (p - size (r.take j)) (pos_take h j) (by omega) (fun y hy => h y (by rw [e]; exact List.mem_append_right _ hy))
  rw [← e, show size (r.take j) + (p - size (r.take j)) = p by omega] at k
  rw [k]
  simp only [ahead]
  rw [if_pos (by omega)]
/-- the periodic count, and how many among so many -/
def upTo (r : Ring) (n : Int) : Int := n / size r * mine r + ahead r (n % size r)
def among (r : Ring) (p n : Int) : Int := upTo r (p + n) - upTo r p
theorem upTo_in {r : Ring} {p : Int} (h0 : 0 ≤ p) (h1 : p < size r) : upTo r p = ahead r p := by
  unfold upTo
  rw [Int.ediv_eq_zero_of_lt h0 h1, Int.emod_eq_of_lt h0 h1]
  omega
theorem among_in {r : Ring} {p n : Int} (h0 : 0 ≤ p) (h1 : p < size r) : among r p n = (p + n) / size r * mine r + ahead r ((p + n) % size r) - ahead r p := by
  unfold among
  rw [upTo_in h0 h1]
  rfl
theorem ahead_range : ∀ {r : Ring} {p : Int}, (∀ x ∈ r, 1 ≤ x.2) → 0 ≤ p → 0 ≤ ahead r p ∧ ahead r p ≤ mine r
  | [], _, _, _ => by simp [ahead, mine]
  | x :: r, p, h, hp => by
    have hx := h x List.mem_cons_self
    have hr : ∀ y ∈ r, 1 ≤ y.2 := fun y hy => h y (List.mem_cons_of_mem _ hy)
    have hm := mine_le r hr
    simp only [ahead, mine]
    by_cases hc : p ≤ x.2
    · rw [if_pos hc]
      split <;> omega
    · rw [if_neg hc]
      have ih := ahead_range (r := r) (p := p - x.2) hr (by omega)
      split <;> omega
/-! ### the law's draws -/
def cellM (ns : List Int) (k : Nat) : Int := ns.getD k 0
def primes : List Int := [1000003, 1000033, 1000037, 1000039, 1000081, 1000099, 1000117, 1000121, 1000133, 1000151, 1000159, 1000171, 1000183, 1000187, 1000193, 1000199]
def primeM (i : Int) : Int := primes.getD i.toNat 1
theorem prime_ix {i : Int} (h0 : 0 ≤ i) (h1 : i < 16) : L2.atI (primes.map L2.V.int) i = some (.int (primeM i)) := by
  obtain ⟨n, rfl⟩ := Int.eq_ofNat_of_zero_le h0
  have hn : n < 16 := by omega
  refine L2.atI_nat ?_
  unfold primeM
  rw [List.getElem?_map, Int.toNat_natCast, List.getD_eq_getElem?_getD, List.getElem?_eq_getElem (show n < primes.length from hn)]
  rfl
theorem prime_pos {i : Int} (h0 : 0 ≤ i) (h1 : i < 16) : 0 < primeM i := by
  obtain ⟨n, rfl⟩ := Int.eq_ofNat_of_zero_le h0
  have hn : n < 16 := by omega
  have h : ∀ m : Fin 16, 0 < primeM ((m.val : Nat) : Int) := by decide
  exact h ⟨n, hn⟩
def drawM (cell k many : Int) : Int := (cell * 48271 + k * 69621) % primeM (k % 16) % many
theorem drawM_range {cell k many : Int} (h : 0 < many) : 0 ≤ drawM cell k many ∧ drawM cell k many < many := ⟨Int.emod_nonneg _ (by omega), Int.emod_lt_of_pos _ h⟩
def numM (cell k lim : Int) : Int := if 1000000000000000000 ≤ cell then (cell - 1000000000000000000) % 10000000000000000000000000000000000000000 else drawM ((cell + 977 * k) * (cell + 31 * k + 5)) (k % 9 + 1) lim
theorem numM_range {cell k lim : Int} (h : 0 < lim) (h2 : lim ≤ 10000000000000000000000000000000000000000) : 0 ≤ numM cell k lim ∧ numM cell k lim < 10000000000000000000000000000000000000000 := by
  unfold numM
  split
  · exact ⟨Int.emod_nonneg _ (by decide), Int.emod_lt_of_pos _ (by decide)⟩
  · have := drawM_range (cell := (cell + 977 * k) * (cell + 31 * k + 5)) (k := k % 9 + 1) h
    omega
/-- a law's ring -/
def limM (ns : List Int) : Int := ([2, 4, 40, 400000] : List Int).getD (drawM (cellM ns 0) 7 4).toNat 2
def slantM (ns : List Int) : Int := drawM (cellM ns 1) 6 4
def strM (lim slant : Int) (k : Nat) (cell : Int) : Bool × Int :=
  ((if slant < 2 then decide (numM cell k (2 * lim) % 2 = 0) else decide ((k : Int) % 2 = 0)),
    1 + numM cell k (2 * lim) / 2 * (if slant = 3 ∧ (if slant < 2 then decide (numM cell k (2 * lim) % 2 = 0) else decide ((k : Int) % 2 = 0)) = true then 3 else 1))
def mapK {α : Type} (f : Nat → Int → α) (ns : List Int) : List α := (List.range ns.length).map fun k => f k (cellM ns k)
theorem mapK_len {α : Type} (f : Nat → Int → α) (ns : List Int) : (mapK f ns).length = ns.length := by simp [mapK]
theorem mapK_take {α : Type} {f : Nat → Int → α} {ns : List Int} {k : Nat} {z : Int} (h : ns[k]? = some z) : (mapK f ns).take (k + 1) = (mapK f ns).take k ++ [f k z] := by
  have hk := (List.getElem?_eq_some_iff.mp h).1
  rw [List.take_add_one]
  congr 1
  unfold mapK
  rw [List.getElem?_map, List.getElem?_range hk]
  show [f k (cellM ns k)] = _
  unfold cellM
  rw [List.getD_eq_getElem?_getD, h]
  rfl
theorem mapK_mem {α : Type} {f : Nat → Int → α} {ns : List Int} {x : α} (h : x ∈ mapK f ns) : ∃ k z, k < ns.length ∧ x = f k z := by
  obtain ⟨k, hk, rfl⟩ := List.mem_map.mp h
  exact ⟨k, _, List.mem_range.mp hk, rfl⟩
def orOne (x : Bool × Int) (l : Ring) : Ring := if l = [] then [x] else l
def ringM (ns : List Int) : Ring := orOne (true, 1) (mapK (strM (limM ns) (slantM ns)) ns)
/-- a small one -/
def smM (by_ : Int) (k : Nat) (cell : Int) : Bool × Int := (decide (numM cell (k + by_) 900000 % 3 < 2), 1 + numM cell (k + by_) 900000 / 3 % 3)
def smallM (ns : List Int) (by_ : Int) : Ring := orOne (true, 2) (mapK (smM by_) (ns.take 10))
theorem limM_range (ns : List Int) : 2 ≤ limM ns ∧ limM ns ≤ 400000 := by
  have h := drawM_range (cell := cellM ns 0) (k := 7) (many := 4) (by decide)
  unfold limM
  generalize drawM (cellM ns 0) 7 4 = d at h
  obtain ⟨n, rfl⟩ := Int.eq_ofNat_of_zero_le h.1
  have hn : n < 4 := by omega
  have hh : ∀ m : Fin 4, 2 ≤ ([2, 4, 40, 400000] : List Int).getD ((m.val : Nat) : Int).toNat 2 ∧ ([2, 4, 40, 400000] : List Int).getD ((m.val : Nat) : Int).toNat 2 ≤ 400000 := by decide
  exact hh ⟨n, hn⟩
theorem lim_ix (ns : List Int) : L2.atI (([2, 4, 40, 400000] : List Int).map L2.V.int) (drawM (cellM ns 0) 7 4) = some (.int (limM ns)) := by
  have h := drawM_range (cell := cellM ns 0) (k := 7) (many := 4) (by decide)
  unfold limM
  generalize drawM (cellM ns 0) 7 4 = d at h
  obtain ⟨n, rfl⟩ := Int.eq_ofNat_of_zero_le h.1
  have hn : n < 4 := by omega
  refine L2.atI_nat ?_
  rw [List.getElem?_map, Int.toNat_natCast, List.getD_eq_getElem?_getD, List.getElem?_eq_getElem (show n < ([2, 4, 40, 400000] : List Int).length from hn)]
  rfl
theorem strM_range {lim slant : Int} (h : 2 ≤ lim) (h2 : lim ≤ 400000) (k : Nat) (cell : Int) : 1 ≤ (strM lim slant k cell).2 ∧ (strM lim slant k cell).2 ≤ 1000000000000000000000000000000000000000000000 := by
  have hn := numM_range (cell := cell) (k := (k : Int)) (lim := 2 * lim) (by omega) (by omega)
  have key : ∀ (q : Int) (c : Prop) [Decidable c], 0 ≤ q → q ≤ 10000000000000000000000000000000000000000 → 1 ≤ 1 + q * (if c then 3 else 1) ∧ 1 + q * (if c then 3 else 1) ≤ 1000000000000000000000000000000000000000000000 := by
    intro q c _ h0 h1
    split <;> omega
  unfold strM
  exact key _ _ (by omega) (by omega)
theorem smM_range (by_ : Int) (k : Nat) (cell : Int) : 1 ≤ (smM by_ k cell).2 ∧ (smM by_ k cell).2 ≤ 3 := by
  unfold smM
  dsimp only
  omega
theorem Ok.orOne {x : Bool × Int} {l : Ring} (hx : 1 ≤ x.2 ∧ x.2 ≤ 1000000000000000000000000000000000000000000000) (few : l.length ≤ 2000) (h : ∀ y ∈ l, 1 ≤ y.2 ∧ y.2 ≤ 1000000000000000000000000000000000000000000000) : Ok (orOne x l) := by
  unfold Rb.orOne
  split
  · refine ⟨by simp, by simp, ?_, ?_⟩
    · intro y hy; simp at hy; subst hy; exact hx.1
    · intro y hy; simp at hy; subst hy; exact hx.2
  · exact ⟨by assumption, few, fun y hy => (h y hy).1, fun y hy => (h y hy).2⟩
theorem ringM_ok {ns : List Int} (h : ns.length ≤ 63) : Ok (ringM ns) := by
  refine Ok.orOne (by decide) (by rw [mapK_len]; omega) fun y hy => ?_
  obtain ⟨k, z, _, rfl⟩ := mapK_mem hy
  exact strM_range (limM_range ns).1 (limM_range ns).2 k z
theorem smallM_ok (ns : List Int) (by_ : Int) : Ok (smallM ns by_) := by
  refine Ok.orOne (by decide) (by rw [mapK_len, List.length_take]; omega) fun y hy => ?_
  obtain ⟨k, z, _, rfl⟩ := mapK_mem hy
  have := smM_range by_ k z
  omega
theorem ringM_len {ns : List Int} (h : ns.length ≤ 63) : (ringM ns).length ≤ 63 := by
  unfold ringM orOne
  split
  · simp
  · rw [mapK_len]; exact h
theorem smallM_len (ns : List Int) (by_ : Int) : (smallM ns by_).length ≤ 10 := by
  unfold smallM orOne
  split
  · simp
  · rw [mapK_len, List.length_take]; omega
theorem smallM_three (ns : List Int) (by_ : Int) : ∀ x ∈ smallM ns by_, x.2 ≤ 3 := by
  unfold smallM orOne
  split
  · intro x hx; simp at hx; subst hx; decide
  · intro x hx
    obtain ⟨k, z, _, rfl⟩ := mapK_mem hx
    exact (smM_range by_ k z).2
/-! ### how many bits -/
open Builtin.Int in
theorem lt_of_bits {n : Int} {a : Nat} (h : intBits n ≤ a) : n.natAbs < 2 ^ a := by
  unfold intBits at h
  split at h
  · have e : n = 0 := by simpa using ‹(n == 0) = true›
    subst e
    exact Nat.pow_pos (by decide)
  · have h0 : n.natAbs ≠ 0 := by
      intro e
      have : n = 0 := by omega
      simp [this] at *
    have := (Nat.log2_lt h0).mp (show n.natAbs.log2 < a by omega)
    exact this
open Builtin.Int in
theorem bits_add {i j : Int} {a : Nat} (hi : intBits i ≤ a) (hj : intBits j ≤ a) : intBits (i + j) ≤ a + 1 := by
  have h1 := lt_of_bits hi
  have h2 := lt_of_bits hj
  refine PyProof.Rows.intBits_le ?_
  rw [Nat.pow_succ]
  have := Int.natAbs_add_le i j
  omega
open Builtin.Int in
theorem bits_mul {i j : Int} {a b : Nat} (hi : intBits i ≤ a) (hj : intBits j ≤ b) : intBits (i * j) ≤ a + b := by
  have h1 := lt_of_bits hi
  have h2 := lt_of_bits hj
  refine PyProof.Rows.intBits_le ?_
  rw [Int.natAbs_mul, Nat.pow_add]
  exact Nat.mul_lt_mul'' h1 h2
open Builtin.Int in
theorem bits_small {i : Int} {a : Nat} (h : i.natAbs < 2 ^ a) : intBits i ≤ a := PyProof.Rows.intBits_le h
open Builtin.Int in
/-- numbers below sixty figures have few bits -/
theorem bits_60 {i : Int} (h : -1000000000000000000000000000000000000000000000000000000000000 ≤ i ∧ i ≤ 1000000000000000000000000000000000000000000000000000000000000) : intBits i ≤ 200 := by
  refine bits_small ?_
  have e : (2 : Nat) ^ 200 = 1606938044258990275541962092341162602522202993782792835301376 := by decide
  rw [e]
  omega
theorem mulx_60 {i j : Int} (h : -1000000000000000000000000000000000000000000000000000000000000 ≤ i ∧ i ≤ 1000000000000000000000000000000000000000000000000000000000000) (h2 : -1000000000000000000000000000000000000000000000000000000000000 ≤ j ∧ j ≤ 1000000000000000000000000000000000000000000000000000000000000) : L2.CMulX i j := by
  have h1 := bits_60 h
  have h3 := bits_60 h2
  unfold L2.CMulX
  omega
theorem divw_60 {i j : Int} (h : 0 < j) (h2 : j ≤ 1000000000000000000000000000000000000000000000000000000000000) : L2.CDivW i j := by
  refine L2.wide_div (b := 200) h ?_ (by decide) (by decide)
  have e : (2 : Nat) ^ 200 = 1606938044258990275541962092341162602522202993782792835301376 := by decide
  rw [e]
  omega
theorem cell_bits {ns : List Int} (h : ∀ z ∈ ns, Builtin.Int.intBits z ≤ 1048576) (k : Nat) : Builtin.Int.intBits (cellM ns k) ≤ 1048576 := by
  unfold cellM
  rw [List.getD_eq_getElem?_getD]
  cases e : ns[k]? with
  | none => decide
  | some z => exact h z (List.mem_of_getElem? e)
/-! ### tables as objects -/
open L2
/-- the table of a ring: two lists of whole numbers -/
def TabAt (K : PySem.W.Frag) (H : Hp) (t : Addr) (r : Ring) : Prop :=
  ∃ e s : Addr, SqT K H t [.ref e, .ref s] ∧ SqL K H e ((ends r).map V.int) ∧ SqL K H s ((sums r).map V.int)
theorem TabAt.ex {K : PySem.W.Frag} {H H' : Hp} {t : Addr} {r : Ring} (e : Ex H H') (h : TabAt K H t r) : TabAt K H' t r := by
  obtain ⟨a, b, h1, h2, h3⟩ := h
  exact ⟨a, b, exU e h1, exL e h2, exL e h3⟩
end Rb
/-! Ring beads: the beads one by one, as a text. -/
namespace Rb
open PySem PySem.Spec PyProof.Rows L2
def cd (b : Bool) : Nat := if b then 97 else 98
theorem cd_inj {a b : Bool} (h : cd a = cd b) : a = b := by
  cases a <;> cases b <;> first | rfl | (exact absurd h (by decide))
def txt (l : List Bool) : Str := SX.S (l.map cd)
theorem kS_txt (k : Bool) : kS k = txt [k] := by cases k <;> decide +kernel
theorem txt_len (l : List Bool) : (txt l).length = l.length := by
  unfold txt
  rw [SX.S_len, List.length_map]
theorem txt_app (l m : List Bool) : txt l ++ txt m = txt (l ++ m) := by
  unfold txt
  rw [SX.S_cat, List.map_append]
theorem txt_inj {l m : List Bool} (h : txt l = txt m) : l = m := by
  have e := SX.S_inj h
  exact (List.map_inj_right fun a b h => cd_inj h).mp e
theorem joinL_nil : ∀ ls : List (List Nat), TL.joinL [] ls = ls.flatten
  | [] => rfl
  | [p] => by simp [TL.joinL]
  | p :: q :: r => by
    rw [TL.joinL, joinL_nil (q :: r)]
    simp
theorem txt_join (ls : List (List Bool)) : Txt.join (SX.S []) (ls.map txt) = txt ls.flatten := by
  have e : ls.map txt = (ls.map fun l => l.map cd).map SX.S := by rw [List.map_map]; rfl
  rw [e, SX.join_S, joinL_nil]
  unfold txt
  rw [List.map_flatten]
theorem empty_S : ("" : Str) = SX.S [] := by decide +kernel
/-- the beads one by one -/
def row (r : Ring) : List Bool := (r.map fun x => List.replicate x.2.toNat x.1).flatten
theorem row_len : ∀ {r : Ring}, (∀ x ∈ r, 1 ≤ x.2) → ((row r).length : Int) = size r
  | [], _ => rfl
  | x :: r, h => by
    have hx := h x List.mem_cons_self
    have ih := row_len (r := r) fun y hy => h y (List.mem_cons_of_mem _ hy)
    unfold row at ih ⊢
    rw [List.map_cons, List.flatten_cons, List.length_append, List.length_replicate]
    simp only [size]
    omega
/-- a letter some times -/
def rRepS : R2 := fun x y H Q => ∃ k n, x = .str (kS k) ∧ y = .int n ∧ 1 ≤ n ∧ n ≤ 1000 ∧ Q (.str (txt (List.replicate n.toNat k))) H
theorem rep_fold (k : Bool) : ∀ (n : Nat) (acc : Array Nat), (List.replicate n (kS k).cps).foldl (· ++ ·) acc = acc ++ ((List.replicate n k).map cd).toArray
  | 0, acc => by simp
  | n + 1, acc => by
    rw [List.replicate_succ, List.foldl_cons, rep_fold k n]
    have e : (kS k).cps = #[cd k] := by cases k <;> decide +kernel
    rw [e, List.replicate_succ, List.map_cons]
    refine Array.toList_inj.mp ?_
    simp
theorem op_rep_str {X : Cx} : OpR X (binaryOp .Mult) rRepS := by
  intro pins s σ H x y v u Q I rx ry h
  obtain ⟨k, n, rfl, rfl, h1, h2, q⟩ := h
  obtain ⟨t, rfl⟩ := rx
  obtain ⟨t', rfl⟩ := ry
  have l1 : (kS k).length = 1 := by cases k <;> decide +kernel
  have pw : (2 : Int) ^ 63 = 9223372036854775808 := by decide
  refine PySem.P.mul_str (by rw [decide_eq_false (by omega), decide_eq_false (by omega)]; rfl) (fun _ _ => ?_) (fun _ _ => ?_) ?_
  · rw [l1, pw]
    have : 1 ≤ (9223372036854775808 - 1) / n := by
      rw [Int.le_ediv_iff_mul_le (by omega)]
      omega
    omega
  · rw [l1, Nat.one_mul]
    have : ¬ n.toNat > sizeLine := by rw [sizeLine_eq]; omega
    exact decide_eq_false this
  · rw [if_neg (by omega)]
    by_cases hn : n = 1
    · subst hn
      rw [if_pos (by simp)]
      refine ⟨.str (kS k), H, I, ⟨t, rfl⟩, ?_⟩
      have e : txt (List.replicate (1 : Int).toNat k) = kS k := (kS_txt k).symm
      rw [e] at q
      exact q
    · rw [if_neg (by simp [l1, hn])]
      have e : (⟨(List.replicate n.toNat (kS k).cps).foldl (· ++ ·) #[]⟩ : Str) = txt (List.replicate n.toNat k) := by
        rw [rep_fold]
        simp [txt, SX.S]
      rw [e]
      refine ⟨?_, .str (txt (List.replicate n.toNat k)), H, I.tok _, ⟨_, rfl⟩, q⟩
      rw [txt_len, List.length_replicate, sizeLine_eq]
      omega
theorem r_repS {k : Bool} {n : Int} {H : Hp} {Q : VK} (h1 : 1 ≤ n) (h2 : n ≤ 1000) (q : Q (.str (txt (List.replicate n.toNat k))) H) : rRepS (.str (kS k)) (.int n) H Q := ⟨k, n, rfl, rfl, h1, h2, q⟩
def rJoin (K : PySem.W.Frag) : V → List V → Hp → VK → Prop := fun x xs H Q => ∃ a p, ∃ ys : List Str, x = .str a ∧ xs = [.ref p] ∧ (SqL K H p (ys.map V.str) ∨ SqT K H p (ys.map V.str)) ∧
      (ys.map (·.length)).sum + ys.length * a.length ≤ 16777216 ∧ Q (.str (Txt.join a ys)) H
theorem pe_joinR {X : Cx} {o e : Expr} {to te : TE} {apos pos : Pos} (ho : PE X o to) (he : PE X e te) (hs : starEach [e] X.env = [(false, eval e X.env)] := by rfl) (hbase : attributeBase o "join" X.env (eval o X.env) = eval o X.env := by rfl) (hline : (apos.endLine == pos.line) = true := by rfl) :
    PE X (.Call (.Attribute o "join" apos) [e] [] pos) (tM1 (rJoin X.K) to te) := pe_join ho he hs hbase hline
theorem r_M1 {r : V → List V → Hp → VK → Prop} {to te : TE} {σ : L2.St} {H : Hp} {Q : VK} (q : to σ H fun x H1 => (∃ a, x = .str a) ∧ te σ H1 fun y H2 => r x [y] H2 Q) : tM1 r to te σ H Q := q
theorem r_isS {x : Str} {P : Prop} (q : P) : (∃ a, V.str x = .str a) ∧ P := ⟨⟨x, rfl⟩, q⟩
theorem r_join {K : PySem.W.Frag} {p : Addr} {ls : List (List Bool)} {H : Hp} {Q : VK} (h : SqL K H p ((ls.map txt).map V.str)) (n : (ls.map (·.length)).sum ≤ 16777216) (q : Q (.str (txt ls.flatten)) H) : rJoin K (.str ("" : Str)) [.ref p] H Q := by
  refine ⟨"", p, ls.map txt, rfl, rfl, .inl h, ?_, ?_⟩
  · rw [empty_S, SX.S_len, List.length_nil, Nat.mul_zero, List.map_map]
    have e : ((fun x : Str => x.length) ∘ txt) = fun l => l.length := funext fun l => txt_len l
    rw [e]
    exact n
  · rw [empty_S, txt_join]
    exact q
theorem ones_sum : ∀ l : List Bool, ((l.map fun b => [b]).map (·.length)).sum = l.length
  | [] => rfl
  | b :: l => by
    rw [List.map_cons, List.map_cons, List.sum_cons, ones_sum l, List.length_cons]
    show 1 + l.length = l.length + 1
    omega
theorem ones_flat : ∀ l : List Bool, (l.map fun b => [b]).flatten = l
  | [] => rfl
  | b :: l => by rw [List.map_cons, List.flatten_cons, ones_flat l]; rfl
/-! ### counts by the beads -/
theorem row_cons (x : Bool × Int) (r : Ring) : row (x :: r) = List.replicate x.2.toNat x.1 ++ row r := rfl
theorem row_app (r s : Ring) : row (r ++ s) = row r ++ row s := by
  unfold row
  rw [List.map_append, List.flatten_append]
theorem ahead_row : ∀ {r : Ring} {p : Int}, (∀ x ∈ r, 1 ≤ x.2) → 0 ≤ p → ahead r p = (((row r).take p.toNat).count true : Int)
  | [], p, _, _ => by simp [ahead, row]
  | x :: r, p, h, hp => by
    have hx := h x List.mem_cons_self
    have hr : ∀ y ∈ r, 1 ≤ y.2 := fun y hy => h y (List.mem_cons_of_mem _ hy)
    rw [row_cons]
    simp only [ahead]
    by_cases hc : p ≤ x.2
    · rw [if_pos hc, List.take_append_of_le_length (by rw [List.length_replicate]; omega), List.take_replicate, Nat.min_eq_left (by omega), List.count_replicate]
      cases x.1
      · simp
      · simp; omega
    · have e : p.toNat = x.2.toNat + (p - x.2).toNat := by omega
      rw [if_neg hc, ahead_row hr (by omega), e, List.take_append, List.length_replicate, Nat.add_sub_cancel_left, List.count_append, List.take_replicate, Nat.min_eq_right (by omega), List.count_replicate]
      cases x.1
      · simp
      · simp; omega
theorem mine_row : ∀ {r : Ring}, (∀ x ∈ r, 1 ≤ x.2) → mine r = ((row r).count true : Int)
  | [], _ => rfl
  | x :: r, h => by
    have hx := h x List.mem_cons_self
    have ih := mine_row (r := r) fun y hy => h y (List.mem_cons_of_mem _ hy)
    rw [row_cons, List.count_append, List.count_replicate]
    simp only [mine, ih]
    cases x.1
    · simp
    · simp; omega
/-- the same beads: the same counts -/
theorem among_row {r s : Ring} (hr : ∀ x ∈ r, 1 ≤ x.2) (hs : ∀ x ∈ s, 1 ≤ x.2) (e : row r = row s) (p n : Int) (h : 0 < size s) : among r p n = among s p n := by
  have e1 : size r = size s := by rw [← row_len hr, ← row_len hs, e]
  have e2 : mine r = mine s := by rw [mine_row hr, mine_row hs, e]
  have e3 : ∀ q, 0 ≤ q → ahead r q = ahead s q := fun q hq => by rw [ahead_row hr hq, ahead_row hs hq, e]
  unfold among upTo
  rw [e1, e2, e3 _ (Int.emod_nonneg _ (by omega)), e3 _ (Int.emod_nonneg _ (by omega))]
theorem size_row {r s : Ring} (hr : ∀ x ∈ r, 1 ≤ x.2) (hs : ∀ x ∈ s, 1 ≤ x.2) (e : row r = row s) : size r = size s := by rw [← row_len hr, ← row_len hs, e]
/-! ### one bead -/
theorem ahead_size {r : Ring} (h : ∀ x ∈ r, 1 ≤ x.2) : ahead r (size r) = mine r := ahead_all h (Int.le_refl _)
theorem among_one {r : Ring} {p : Int} (h : ∀ x ∈ r, 1 ≤ x.2) (h0 : 0 ≤ p) (h1 : p < size r) : among r p 1 = ahead r (p + 1) - ahead r p := by
  rw [among_in h0 h1]
  by_cases hc : p + 1 < size r
  · rw [Int.ediv_eq_zero_of_lt (by omega) hc, Int.emod_eq_of_lt (by omega) hc]
    omega
  · have e : p + 1 = size r := by omega
    rw [e, Int.ediv_self (by omega), Int.emod_self, ahead_zero h, ahead_size h]
    omega
theorem among_at {r : Ring} {j : Nat} {x : Bool × Int} {p : Int} (h : ∀ x ∈ r, 1 ≤ x.2) (hj : r[j]? = some x) (h0 : size (r.take j) ≤ p) (h1 : p < size (r.take j) + x.2) (h2 : 0 ≤ p) (h3 : p < size r) :
    decide (among r p 1 = 1) = x.1 := by
  rw [among_one h h2 h3, ahead_at h hj h0 (by omega), ahead_at h hj (p := p + 1) (by omega) (by omega)]
  cases x.1
  · simp
  · simp; omega
theorem among_bead {r : Ring} {i : Nat} (h : ∀ x ∈ r, 1 ≤ x.2) (hi : i < (row r).length) : decide (among r i 1 = 1) = (row r)[i] := by
  have hl := row_len h
  rw [among_one h (by omega) (by omega), ahead_row h (by omega), ahead_row h (by omega), show ((i : Int) + 1).toNat = i + 1 by omega, Int.toNat_natCast, List.take_add_one, List.getElem?_eq_getElem hi, List.count_append]
  generalize (row r)[i] = b
  cases b
  · simp
  · simp; omega
theorem row_by_kinds {r : Ring} (h : ∀ x ∈ r, 1 ≤ x.2) : (List.range (row r).length).map (fun i : Nat => decide (among r i 1 = 1)) = row r := by
  refine List.ext_getElem (by simp) fun i h1 h2 => ?_
  rw [List.getElem_map, List.getElem_range]
  exact among_bead h h2
/-! ### the ring begun elsewhere -/
theorem upTo_round {r : Ring} (h : 0 < size r) (n c : Int) : upTo r (n + size r * c) = upTo r n + c * mine r := by
  unfold upTo
  rw [Int.add_mul_ediv_left _ _ (by omega), Int.add_mul_emod_self_left, Int.add_mul]
  omega
theorem ahead_left {r s : Ring} {p : Int} (hr : ∀ x ∈ r, 1 ≤ x.2) (hs : ∀ x ∈ s, 1 ≤ x.2) (h0 : 0 ≤ p) (h1 : p ≤ size r) : ahead (r ++ s) p = ahead r p := by
  have hrs : ∀ x ∈ r ++ s, 1 ≤ x.2 := fun x hx => (List.mem_append.mp hx).elim (hr x) (hs x)
  have hl := row_len hr
  rw [ahead_row hrs h0, ahead_row hr h0, row_app, List.take_append_of_le_length (by omega)]
theorem upTo_turned {x y : Ring} (hx : ∀ z ∈ x, 1 ≤ z.2) (hy : ∀ z ∈ y, 1 ≤ z.2) (ny : 0 < size y) (q : Int) : upTo (y ++ x) q = upTo (x ++ y) (q + size x) - mine x := by
  have sx := size_len x hx
  have e1 := size_app x y
  have e2 := size_app y x
  have m1 := mine_app x y
  have m2 := mine_app y x
  have hxy : ∀ z ∈ x ++ y, 1 ≤ z.2 := fun z hz => (List.mem_append.mp hz).elim (hx z) (hy z)
  have hyx : ∀ z ∈ y ++ x, 1 ≤ z.2 := fun z hz => (List.mem_append.mp hz).elim (hy z) (hx z)
  have wp : 0 < size (y ++ x) := by omega
  have we : size (y ++ x) = size (x ++ y) := by omega
  have me : mine (y ++ x) = mine (x ++ y) := by omega
  have d := Int.emod_add_mul_ediv q (size (y ++ x))
  have r0 := Int.emod_nonneg q (show size (y ++ x) ≠ 0 by omega)
  have r1 := Int.emod_lt_of_pos q wp
  generalize q % size (y ++ x) = q0 at d r0 r1
  generalize q / size (y ++ x) = j at d
  subst d
  rw [upTo_round wp, show q0 + size (y ++ x) * j + size x = (q0 + size x) + size (x ++ y) * j by rw [we]; omega, upTo_round (by omega), me, upTo_in r0 r1]
  have key : ahead (y ++ x) q0 = upTo (x ++ y) (q0 + size x) - mine x := by
    by_cases hc : q0 < size y
    · rw [ahead_left hy hx r0 (by omega), upTo_in (by omega) (by omega), show q0 + size x = size x + q0 by omega, ahead_split x y q0 hx r0 hy]
      omega
    · have e : q0 + size x = (q0 - size y) + size (x ++ y) * 1 := by omega
      rw [e, upTo_round (by omega), upTo_in (by omega) (by omega), ahead_left hx hy (by omega) (by omega)]
      have z := ahead_split y x (q0 - size y) hy (by omega) hx
      rw [show size y + (q0 - size y) = q0 by omega] at z
      omega
  omega
theorem among_turned {x y : Ring} (hx : ∀ z ∈ x, 1 ≤ z.2) (hy : ∀ z ∈ y, 1 ≤ z.2) (ny : 0 < size y) (p n : Int) : among (y ++ x) ((p - size x) % size (x ++ y)) n = among (x ++ y) p n := by
  have sx := size_len x hx
  have e1 := size_app x y
  have wp : 0 < size (x ++ y) := by omega
  have d := Int.emod_add_mul_ediv (p - size x) (size (x ++ y))
  generalize (p - size x) % size (x ++ y) = q at d
  generalize (p - size x) / size (x ++ y) = c at d
  unfold among
  rw [upTo_turned hx hy ny, upTo_turned hx hy ny]
  have f1 : p = (q + size x) + size (x ++ y) * c := by omega
  have f2 : p + n = (q + n + size x) + size (x ++ y) * c := by omega
  rw [f2, upTo_round wp, f1, upTo_round wp]
  omega
/-- in parts -/
theorem among_parts (r : Ring) (p n m : Int) (h : 0 < size r) : among r p (n + m) = among r p n + among r ((p + n) % size r) m := by
  have d := Int.emod_add_mul_ediv (p + n) (size r)
  generalize (p + n) % size r = q at d
  generalize (p + n) / size r = c at d
  unfold among
  have e1 : p + (n + m) = (q + m) + size r * c := by omega
  have e2 : p + n = q + size r * c := by omega
  rw [e1, upTo_round h, e2, upTo_round h]
  omega
/-! ### stretches cut in two -/
def firstM (cell : Int) (k : Nat) (m : Int) : Int := (cell + 31 * k) * (k + 3) % m
def pieceM (cell : Int) (k : Nat) (x : Bool × Int) : Ring := if 0 < firstM cell k x.2 ∧ 0 < (cell + k) % 3 then [(x.1, firstM cell k x.2), (x.1, x.2 - firstM cell k x.2)] else [x]
def cutM (cell : Int) : Nat → Ring → Ring
  | _, [] => []
  | k, x :: r => pieceM cell k x ++ cutM cell (k + 1) r
theorem cutM_app (cell : Int) : ∀ (k : Nat) (r s : Ring), cutM cell k (r ++ s) = cutM cell k r ++ cutM cell (k + r.length) s
  | k, [], s => by simp [cutM]
  | k, x :: r, s => by
    rw [List.cons_append, cutM, cutM, cutM_app cell (k + 1) r s, List.append_assoc, List.length_cons, show k + 1 + r.length = k + (r.length + 1) by omega]
theorem cutM_snoc {cell : Int} {r : Ring} {n : Nat} {x : Bool × Int} (h : r[n]? = some x) : cutM cell 0 (r.take (n + 1)) = cutM cell 0 (r.take n) ++ pieceM cell n x := by
  have hn := (List.getElem?_eq_some_iff.mp h).1
  rw [List.take_add_one, h, cutM_app, List.length_take, Nat.min_eq_left (by omega), Nat.zero_add]
  simp [cutM]
theorem pieceM_row {cell : Int} {k : Nat} {x : Bool × Int} (h : 1 ≤ x.2) : row (pieceM cell k x) = List.replicate x.2.toNat x.1 ∧ (∀ y ∈ pieceM cell k x, 1 ≤ y.2 ∧ y.2 ≤ x.2) ∧ (pieceM cell k x).length ≤ 2 ∧ 1 ≤ (pieceM cell k x).length := by
  have f1 : firstM cell k x.2 < x.2 := Int.emod_lt_of_pos _ (by omega)
  unfold pieceM
  split
  · rename_i hc
    refine ⟨?_, ?_, by simp, by simp⟩
    · simp only [row, List.map_cons, List.map_nil, List.flatten_cons, List.flatten_nil, List.append_nil]
      rw [List.replicate_append_replicate]
      congr 1
      omega
    · intro y hy
      simp only [List.mem_cons, List.not_mem_nil, or_false] at hy
      rcases hy with rfl | rfl <;> dsimp only <;> omega
  · refine ⟨by simp [row], ?_, by simp, by simp⟩
    intro y hy
    simp only [List.mem_cons, List.not_mem_nil, or_false] at hy
    subst hy
    omega
theorem cutM_row {cell : Int} : ∀ {k : Nat} {r : Ring}, (∀ x ∈ r, 1 ≤ x.2) → row (cutM cell k r) = row r ∧ (∀ y ∈ cutM cell k r, 1 ≤ y.2 ∧ ∃ x ∈ r, y.2 ≤ x.2) ∧ (cutM cell k r).length ≤ 2 * r.length ∧ r.length ≤ (cutM cell k r).length
  | k, [], _ => ⟨rfl, fun y hy => by simp [cutM] at hy, by simp [cutM], by simp [cutM]⟩
  | k, x :: r, h => by
    have hx := h x List.mem_cons_self
    obtain ⟨a1, a2, a3, a4⟩ := cutM_row (cell := cell) (k := k + 1) (r := r) fun y hy => h y (List.mem_cons_of_mem _ hy)
    obtain ⟨b1, b2, b3, b4⟩ := pieceM_row (cell := cell) (k := k) hx
    rw [cutM]
    refine ⟨by rw [row_app, a1, b1, row_cons], fun y hy => ?_, by rw [List.length_append, List.length_cons]; omega, by rw [List.length_append, List.length_cons]; omega⟩
    rcases List.mem_append.mp hy with hy | hy
    · exact ⟨(b2 y hy).1, x, List.mem_cons_self, (b2 y hy).2⟩
    · obtain ⟨c1, z, c2, c3⟩ := a2 y hy
      exact ⟨c1, z, List.mem_cons_of_mem _ c2, c3⟩
theorem cutM_ok {cell : Int} {r : Ring} (ok : Ok r) (h : r.length ≤ 1000) : Ok (cutM cell 0 r) := by
  obtain ⟨a1, a2, a3, a4⟩ := cutM_row (cell := cell) (k := 0) ok.pos
  have := ok.len
  refine ⟨fun e => ?_, by omega, fun x hx => (a2 x hx).1, fun x hx => ?_⟩
  · rw [e, List.length_nil] at a4
    omega
  · obtain ⟨_, z, hz, hl⟩ := a2 x hx
    have := ok.lim z hz
    omega
end Rb
/-! Ring beads: a dict of whole numbers as a set of places; its keys in order, however many. -/
namespace Rb
open PySem PySem.Spec PyProof.Rows L2
/-- sorted(d), keys that are whole numbers, any many -/
def rSortedK : List V → Hp → VK → Prop := fun us H Q => ∃ (a : Addr) (m : List (Key × V)) (ks : List Int), us = [.ref a] ∧ H a = some (.dK m) ∧ m.map (·.1) = ks.map Sum.inl ∧
  ∀ (out : List Int) (p : Addr), out.Perm ks → out.Pairwise (· ≤ ·) → H p = none → Q (.ref p) (upd H p (.lst (out.map V.int)))
/-- what a walk of the keys collects are these numbers -/
theorem keys_ints {vs : List (Key × Value)} {ks : List Int} (e : vs.map (·.1) = ks.map Sum.inl) {got : List Value} (hl : got.length = ks.length)
    (h : ∀ (j : Nat) (v : Value), got[j]? = some v → ∃ (k : Key) (x : Value), vs[j]? = some (k, x) ∧ keyIs k v = true) : IntsAre got ks := by
  refine ints_each hl fun j v hv => ?_
  obtain ⟨k, x, h1, h2⟩ := h j v hv
  have h3 : (ks.map (Sum.inl : Int → Key))[j]? = some k := by rw [← e, List.getElem?_map, h1]; rfl
  rw [List.getElem?_map] at h3
  cases q : ks[j]? with
  | none =>
    rw [q] at h3
    cases h3
  | some n =>
    rw [q] at h3
    have ek : k = Sum.inl n := (Option.some.inj h3).symm
    rw [ek] at h2
    obtain ⟨t, ev⟩ := Value.isInt_shape (k := n) (v := v) h2
    exact ⟨n, t, rfl, ev⟩
theorem cr_sortedK {X : Cx} (calm : X.calm = true) : CallR X (.builtin "sorted") rSortedK := by
  intro pins s σ H us ws Q I rel ⟨a, m, ks, eu, ha, hk, q⟩
  subst eu
  obtain ⟨w1, ew, rw1⟩ := vals1 rel
  subst ew
  cases rw1
  obtain ⟨few, notSys, vs, pairs, dct⟩ := dk_rd I.hok (.inl ha)
  obtain ⟨ep, there⟩ := dct.dictAt
  have ke : vs.map (·.1) = ks.map Sum.inl := pairs.keys.symm.trans hk
  have kl : vs.length = ks.length := by simpa using congrArg List.length ke
  have small : vs.length ≤ sizeLine := by rw [← pairs.length]; exact few
  refine Calls.call_function_entry kind_sorted plain_sorted entry_sorted (args_sorted1 _) ?_
  unfold Builtin.«sorted»
  refine wpAny_bind (m := checkCount "sorted" 1 1 _) (wpAny_pure ?_)
  have src := PySem.W.kdl_dict (prog := X.prog) (w := X.w) (knd := mixKind X.prog X.w) (kvs := vs) (ep := ep) notSys
  refine wpAny_bind (PySem.W.kdu_collect (A := X.A.in1) src (I.ok.hd calm) there small ?_)
  intro h1 tk got kept made
  have gl : got.toList.length = ks.length := by rw [Array.length_toList, made.1, kl]
  have wholes : IntsAre got.toList ks := keys_ints ke gl fun j v e => made.2 j v (by rw [← Array.getElem?_toList]; exact e)
  have I1 : Inv X pins σ H { s with heap := h1, toks := tk } := I.kept kept
  have gz : got.toList.length ≤ sizeLine := by rw [gl, ← kl]; exact small
  refine wpAny_bind (wpAny_newList ?_ gz)
  have new : (h1.push (seqObj "list" got.toList.toArray 0)).get? h1.objs.size = some (seqObj "list" got.toList.toArray 0) := Heap.get?_push_size _ rfl
  have go : ∀ out : List Value, SrtO.Srtd SrtO.ltIv out → SrtO.Stb SrtO.ltIv out got.toList →
      EP X pins σ Q (.ref h1.objs.size) { s with heap := sortedHeap (h1.push (seqObj "list" got.toList.toArray 0)) h1.objs.size got.toList out.toArray, toks := tk } := by
    intro out o1 o2
    obtain ⟨k1, k2, k3⟩ := SrtO.ints_out wholes o1 o2
    obtain ⟨ep2, at2⟩ := sortedHeap_at (vs := got.toList) (out := out.toArray) new
    refine ⟨.ref h1.objs.size, upd H h1.objs.size (.lst ((out.map SrtO.iv).map V.int)), I1.laid (t' := tk) ?_ (Nat.le_refl _) ⟨?_, out, ep2, vals_of_ints k1, at2⟩, rfl, q _ _ k2 k3 (I1.hok.fresh (Nat.le_refl _))⟩
    · intro b u e
      have hb : b < h1.objs.size := Heap.lt_size e
      rw [sortedHeap_old (Nat.ne_of_lt hb) (by rw [size_push']; exact Nat.lt_succ_of_lt hb)]
      exact Heap.get?_push_of_some _ e
    · rw [List.length_map, k2.length_eq, ← gl]
      exact gz
  have sorts := SrtO.list_sort_ord (prog := X.prog) (w := X.w) (s := { s with heap := h1.push (seqObj "list" got.toList.toArray 0), toks := tk }) (E := X.xe) (A := X.A.in1.in1) (R := fun f s' => ∃ v, f = .done (.ret v) ∧ v = .none ∧ EP X pins σ Q (.ref h1.objs.size) s') SrtO.swo_int new gz (fun h2 => SrtO.ints_sortable wholes h2) fun out o1 o2 => ⟨_, rfl, rfl, go out o1 o2⟩
  refine wpAny_bind (wpAny_holding (wpAny_call_entry slot_list_sort ⟨_, new, rfl⟩ entry_list_sort ?_ (args_list_sort _)))
  refine wpAny_mono sorts (fun f s' hf => ?_) fun _ _ x => x
  obtain ⟨v, e1, e2, z⟩ := hf
  exact ⟨v, e1, wpAny_pure ⟨_, rfl, z⟩⟩
/-! ### a dict as the list of its keys -/
def DictAt (H : Hp) (d : Addr) (ks : List Int) : Prop := ∃ m : List (Key × V), H d = some (.dK m) ∧ m.map (·.1) = ks.map Sum.inl
theorem DictAt.ex {H H' : Hp} {d : Addr} {ks : List Int} (e : Ex H H') (h : DictAt H d ks) : DictAt H' d ks := let ⟨m, h1, h2⟩ := h; ⟨m, e _ _ h1, h2⟩
/-- a key put in -/
def putI (ks : List Int) (x : Int) : List Int := if x ∈ ks then ks else ks ++ [x]
theorem putI_mem {ks : List Int} {x y : Int} : y ∈ putI ks x ↔ y ∈ ks ∨ y = x := by
  unfold putI
  split
  · constructor
    · exact Or.inl
    · rintro (h | rfl) <;> assumption
  · simp
theorem putI_nodup {ks : List Int} {x : Int} (h : ks.Nodup) : (putI ks x).Nodup := by
  unfold putI
  split
  · exact h
  · rename_i hx
    rw [List.nodup_append]
    exact ⟨h, by simp, by rintro a ha b hb rfl; simp at hb; subst hb; exact hx ha⟩
theorem putI_len (ks : List Int) (x : Int) : (putI ks x).length ≤ ks.length + 1 := by
  unfold putI
  split
  · omega
  · simp
theorem keys_putK {m : List (Key × V)} {ks : List Int} (h : m.map (·.1) = ks.map Sum.inl) (x : Int) (v : V) : (putK m (Sum.inl x : Key) v).map (·.1) = (putI ks x).map Sum.inl := by
  have hin : (Sum.inl x : Key) ∈ m.map (·.1) ↔ x ∈ ks := by
    rw [h, List.mem_map]
    constructor
    · rintro ⟨y, hy, e⟩
      cases e
      exact hy
    · intro hx
      exact ⟨x, hx, rfl⟩
  cases q : valV m (Sum.inl x : Key) with
  | none =>
    have hx : x ∉ ks := fun hx => valV_not q (hin.mpr hx)
    rw [putK_new _ q, List.map_append, h]
    unfold putI
    rw [if_neg hx, List.map_append]
    rfl
  | some y =>
    have hx : x ∈ ks := hin.mp (valV_in q)
    unfold putI
    rw [if_pos hx, ← h]
    unfold putK
    rw [if_pos (by rw [valV_any, q]; rfl), List.map_map]
    refine List.map_congr_left fun z _ => ?_
    show (if z.1 = (Sum.inl x : Key) then (z.1, v) else z).1 = z.1
    split <;> rfl
theorem r_dput {ty td tv : TE} {nx : L2.St → Hp → Prop} {rt : VK} {bk ct : L2.St → Hp → Prop} {σ : L2.St} {H : Hp} (q : tv σ H fun v H1 => td σ H1 fun x H2 => ty σ H2 fun y H3 => ∃ a H4, x = .ref a ∧ DPut H3 a y v H4 ∧ nx σ H4) : sDPut td ty tv ⟨nx, rt, bk, ct⟩ σ H := q
theorem r_dput2 {d : Addr} {x : Int} {v : V} {H : Hp} {ks : List Int} {P : Hp → Prop} (h : DictAt H d ks) (n : ks.length < 16000000) (q : ∀ o, DictAt (upd H d o) d (putI ks x) → P (upd H d o)) : ∃ a H4, V.ref d = .ref a ∧ DPut H a (.int x) v H4 ∧ P H4 := by
  obtain ⟨m, h1, h2⟩ := h
  have hl : m.length = ks.length := by simpa using congrArg List.length h2
  exact ⟨d, _, rfl, DPut.k (k := Sum.inl x) h1 (by rw [hl, sizeLine_eq]; omega), q _ ⟨_, upd_same, keys_putK h2 x v⟩⟩
theorem r_sortedK {d : Addr} {ks : List Int} {H : Hp} {Q : VK} (h : DictAt H d ks) (q : ∀ (out : List Int) (p : Addr) (H' : Hp), out.Perm ks → out.Pairwise (· ≤ ·) → H p = none → Ex H H' → H' p = some (.lst (out.map V.int)) → Q (.ref p) H') : rSortedK [.ref d] H Q := by
  obtain ⟨m, h1, h2⟩ := h
  exact ⟨d, m, ks, rfl, h1, h2, fun out p a b c => q out p _ a b c (exN c) upd_same⟩
theorem r_dnew {σ : L2.St} {H : Hp} {Q : VK} (q : ∀ p H', H p = none → Ex H H' → DictAt H' p [] → Q (.ref p) H') : tDNewK σ H Q := fun p hp => q p _ hp (exN hp) ⟨[], upd_same, rfl⟩
/-- {0: True} -/
theorem r_disp1 {tk tv : TE} {σ : L2.St} {H : Hp} {Q : VK} {x : Int} {v : V} (hk : ∀ H1 (R : VK), R (.int x) H1 → tk σ H1 R) (hv : ∀ H1 (R : VK), R v H1 → tv σ H1 R) (q : ∀ p H', H p = none → Ex H H' → DictAt H' p [x] → Q (.ref p) H') : tDisp [(tk, tv)] σ H Q := by
  intro p hp
  refine hk _ _ (hv _ _ ?_)
  show upd H p (.dK []) p = some (.dK []) ∧ _
  refine ⟨upd_same, [(Sum.inl x, v)], rfl, by show 1 ≤ 15; decide, ?_⟩
  rw [upd_upd]
  exact q p _ hp (exN hp) ⟨_, upd_same, rfl⟩
end Rb
/-! Ring beads: own classes, their instances, their methods. -/
namespace Rb
open PySem PySem.Spec PyProof.Rows L2
/-- where the module's name x leads -/
def adr (mg : Str → Option Value) (x : Str) : Addr := match mg x with
  | some (.ref a) => a
  | _ => 0
theorem adr_of {mg : Str → Option Value} {x : Str} {C : Addr} (h : mg x = some (.ref C)) : adr mg x = C := by
  unfold adr
  rw [h]
/-- what of a class the top has written -/
structure ClsT (K : PySem.W.Frag) (mg : Str → Option Value) (x : Str) : Prop where
  g : mg x = some (.ref (adr mg x))
  cl : Cls K (adr mg x)
  ha : PySem.W.findIn K (.ref (adr mg x)) "__class__" = some (some (.builtin "object.__class__"))
  hn : PySem.W.specialIn K (.builtin "object.__class__") "__get__" = some (some (.builtin "getset_descriptor.__get__"))
  htk : PySem.W.takesIn K (.builtin "object.__class__") = some true
  hm : PySem.W.mroIn K (adr mg x) (.type "object") = some true
theorem clsT_mk {K : PySem.W.Frag} {h : Heap} {mg : Str → Option Value} {x : Str} {C : Addr} (X : K.In h) (G : h.Ns mainGlobals mg) (a : PySem.W.nsIn K mainGlobals x = some (some (.ref C)))
    (pg : PySem.W.plainGet K C Str.empty = true) (hd : PySem.W.hasDictIn K C = true) (po : PySem.W.plainOver K C = true) (sa : PySem.W.findIn K (.ref C) "__setattr__" = some (some (.builtin "object.__setattr__")))
    (ha : PySem.W.findIn K (.ref C) "__class__" = some (some (.builtin "object.__class__"))) (hn : PySem.W.specialIn K (.builtin "object.__class__") "__get__" = some (some (.builtin "getset_descriptor.__get__")))
    (htk : PySem.W.takesIn K (.builtin "object.__class__") = some true) (hm : PySem.W.mroIn K C (.type "object") = some true) : ClsT K mg x := by
  have g := PySem.W.mg_of X G a
  have e := adr_of g
  exact ⟨by rw [e]; exact g, by rw [e]; exact ⟨pg, hd, po, sa⟩, by rw [e]; exact ha, hn, htk, by rw [e]; exact hm⟩
theorem adr_mk {K : PySem.W.Frag} {h : Heap} {mg : Str → Option Value} {x : Str} {C : Addr} (X : K.In h) (G : h.Ns mainGlobals mg) (a : PySem.W.nsIn K mainGlobals x = some (some (.ref C))) {P : Addr → Prop} (p : P C) : P (adr mg x) := by
  rw [adr_of (PySem.W.mg_of X G a)]
  exact p
/-- __init__ of the class x; a method of it -/
def DfnI (K : PySem.W.Frag) (mg : Str → Option Value) (x qual : Str) (st : Stmt) (ps : List Str) : Prop := ∃ f fd, Fun K "__init__" qual st f fd ∧ Binds K fd ps [] ∧ Mk K (adr mg x) f
def DfnM (K : PySem.W.Frag) (mg : Str → Option Value) (x m qual : Str) (st : Stmt) (ps : List Str) : Prop := ∃ f fd, Fun K m qual st f fd ∧ Binds K fd ps [] ∧ Meth K (adr mg x) m f
theorem dfnI_mk {K : PySem.W.Frag} {h : Heap} {mg : Str → Option Value} {x qual : Str} {st : Stmt} {ps : List Str} (X : K.In h) (G : h.Ns mainGlobals mg) {C f : Addr} {oc : Value} {od an : Option Addr} {osl : Array (Option Value)} {kV doc pm cdv ct : Value}
    (ax : PySem.W.nsIn K mainGlobals x = some (some (.ref C))) (a : PySem.W.findIn K (.ref C) "__init__" = some (some (.ref f))) (i : PySem.W.isFn K (.ref f) = true)
    (l : K.lookup f = some ⟨oc, od, .func (PySem.W.fnOf "__init__" qual (defArgs st) (defBody st) (defScope st) .none kV doc pm an cdv ct), osl⟩) (c : PySem.W.codeIn K cdv qual = true) (k : PySem.W.keepIn K (.ref f) = true) (mk : PySem.W.makesIn K C = true) (kc : PySem.W.keepIn K (.ref C) = true)
    (hb : ∀ (kV doc pm : Value) (an : Option Addr) (cdv ct : Value) (us : List Value), us.length = ps.length → bindArgs (PySem.W.fnOf "__init__" qual (defArgs st) (defBody st) (defScope st) .none kV doc pm an cdv ct) ⟨us, []⟩ = pure (ps.zip us)) : DfnI K mg x qual st ps :=
  ⟨f, _, fun_mk l c k, (fun_mk l c k).binds hb, by rw [adr_of (PySem.W.mg_of X G ax)]; exact ⟨mk, a, i, kc⟩⟩
theorem dfnM_mk {K : PySem.W.Frag} {h : Heap} {mg : Str → Option Value} {x m qual : Str} {st : Stmt} {ps : List Str} (X : K.In h) (G : h.Ns mainGlobals mg) {C f : Addr} {oc : Value} {od an : Option Addr} {osl : Array (Option Value)} {kV doc pm cdv ct : Value}
    (ax : PySem.W.nsIn K mainGlobals x = some (some (.ref C))) (a : PySem.W.findIn K (.ref C) m = some (some (.ref f))) (i : PySem.W.isFn K (.ref f) = true)
    (l : K.lookup f = some ⟨oc, od, .func (PySem.W.fnOf m qual (defArgs st) (defBody st) (defScope st) .none kV doc pm an cdv ct), osl⟩) (c : PySem.W.codeIn K cdv qual = true) (k : PySem.W.keepIn K (.ref f) = true)
    (hb : ∀ (kV doc pm : Value) (an : Option Addr) (cdv ct : Value) (us : List Value), us.length = ps.length → bindArgs (PySem.W.fnOf m qual (defArgs st) (defBody st) (defScope st) .none kV doc pm an cdv ct) ⟨us, []⟩ = pure (ps.zip us)) : DfnM K mg x m qual st ps :=
  ⟨f, _, fun_mk l c k, (fun_mk l c k).binds hb, by rw [adr_of (PySem.W.mg_of X G ax)]; exact ⟨a, i, k⟩⟩
/-- a class that may be made; a method that may be called -/
def Mak (P : Program) (w : World) (K : PySem.W.Frag) (mg : Str → Option Value) (base : Heap) (k : Nat) (x : Str) (sp : Sp) : Prop :=
  ∃ f fd ps, Mk K (adr mg x) f ∧ FnOk P w K mg base CX0 k f fd ps sp ∧ mg x = some (.ref (adr mg x)) ∧ Binds K fd ps []
def Met (P : Program) (w : World) (K : PySem.W.Frag) (mg : Str → Option Value) (base : Heap) (k : Nat) (x m : Str) (sp : Sp) : Prop :=
  ∃ f fd ps, Cls K (adr mg x) ∧ Meth K (adr mg x) m f ∧ FnOk P w K mg base CX0 k f fd ps sp ∧ Binds K fd ps []
section
variable {P : Program} {w : World} {K : PySem.W.Frag} {mg : Str → Option Value} {base : Heap}
theorem mak {x qual : Str} {st : Stmt} {N ps : List Str} {k : Nat} {sp : Sp} (c : ClsT K mg x) (D : DfnI K mg x qual st ps) (S : FnScope N ps (defScope st)) (len : ∀ vs H Q E, sp vs H Q E → vs.length = ps.length)
    (hbody : ∀ (f : Addr) (cdv : Value) (A : Around) (outer : List Env) (s : Shared) (H : Hp) (vs : List V) (Q : VK) (E : XK), Room k (A.deeper (envOfC qual (defScope st) s.heap.objs.size f cdv)) → sp vs H Q E →
      ∃ t, PSs (cxOf CX0 P w K mg base N qual (defScope st) f cdv A outer s H E).nox (defBody st) t ∧ t { nx := fun _ H' => Q .non H', rt := Q } (start N vs) H) : Mak P w K mg base (k + 1) x sp := by
  obtain ⟨f, fd, F, b, M⟩ := D
  exact ⟨f, fd, ps, M, F.ok S len fun cdv A outer s H vs Q E hr h => hbody f cdv A outer s H vs Q E hr h, c.g, b⟩
theorem met {x m qual : Str} {st : Stmt} {N ps : List Str} {k : Nat} {sp : Sp} (c : ClsT K mg x) (D : DfnM K mg x m qual st ps) (S : FnScope N ps (defScope st)) (len : ∀ vs H Q E, sp vs H Q E → vs.length = ps.length)
    (hbody : ∀ (f : Addr) (cdv : Value) (A : Around) (outer : List Env) (s : Shared) (H : Hp) (vs : List V) (Q : VK) (E : XK), Room k (A.deeper (envOfC qual (defScope st) s.heap.objs.size f cdv)) → sp vs H Q E →
      ∃ t, PSs (cxOf CX0 P w K mg base N qual (defScope st) f cdv A outer s H E).nox (defBody st) t ∧ t { nx := fun _ H' => Q .non H', rt := Q } (start N vs) H) : Met P w K mg base (k + 1) x m sp := by
  obtain ⟨f, fd, F, b, M⟩ := D
  exact ⟨f, fd, ps, c.cl, M, F.ok S len fun cdv A outer s H vs Q E hr h => hbody f cdv A outer s H vs Q E hr h, b⟩
end
section
variable {X : Cx} {k j : Nat} {x m : Str} {sp : Sp} {p pos apos : Pos} {e o : Expr} {es : List Expr} {ta : TE} {t : TA}
theorem pe_mk (c : Mak X.prog X.w X.K X.mg X.base k x sp) (hr : Room j X.A) (hk : k + 1 ≤ j) (hg : Gl X x) (ha : PA X (e :: es) t)
    (hdb : (x == ("__debug__" : Str)) = false := by decide) (he : starEach (e :: es) X.env = (false, eval e X.env) :: starEach es X.env := by rfl) (hpl : (backTo pos (starEach es X.env)).any (·.1) = false := by rfl) :
    PE X (.Call (.Name x p) (e :: es) [] pos) (tMake (adr X.mg x) sp [] E0 t) := by
  obtain ⟨f, fd, ps, M, F, hm, b⟩ := c
  exact pe_make M F (hr.mono hk) hg hm b .nil pass0 ha hdb he hpl
theorem pe_mt {pl : Sem Bool} (c : Met X.prog X.w X.K X.mg X.base k x m sp) (hr : Room j X.A) (hk : k ≤ j) (he : PE X o ta) (ha : PA X (e :: es) t)
    (hst : starEach (e :: es) X.env = (false, eval e X.env) :: starEach es X.env := by rfl) (hpl : (backTo pos (starEach es X.env)).any (·.1) = false := by rfl)
    (ht : eval (.Call (.Attribute o m apos) (e :: es) [] pos) X.env = (do
      let ov ← eval o X.env
      standAt apos.atName
      let (f, first) ← holding [ov] (getMethod ov m pl)
      callWith pos f first (backTo pos (starEach (e :: es) X.env)) (backToKw pos (keywordEach [] X.env))) := by rfl) :
    PE X (.Call (.Attribute o m apos) (e :: es) [] pos) (tMeth (adr X.mg x) m sp [] E0 ta t) := by
  obtain ⟨f, fd, ps, hc, hm, F, b⟩ := c
  exact pe_meth (pl := pl) he hc hm F (hr.mono hk) b .nil pass0 ha hst hpl ht
end
/-! ### readings -/
section
variable {K : PySem.W.Frag} {σ : L2.St} {H : Hp} {Q : VK} {C : Addr}
/-- a new instance is wanted -/
def MkI (C : Addr) (sp : Sp) (vs : List V) (H : Hp) (Q : VK) : Prop := ∀ x dx, H x = none → H dx = none → dx ≠ x → sp (.ref x :: (vs ++ [])) (upd (upd H dx (.own x)) x (.ins C dx [])) (fun v H2 => v = .non ∧ Q (.ref x) H2) E0
theorem r_make {sp : Sp} {t : TA} (q : t σ H fun vs H1 => MkI C sp vs H1 Q) : tMake C sp [] E0 t σ H Q := q
theorem r_meth {m : Str} {sp : Sp} {ta : TE} {t : TA} (q : ta σ H fun x H1 => ∃ a dx fs, x = .ref a ∧ H1 a = some (.ins C dx fs) ∧ fs.lookup m = none ∧ t σ H1 fun vs H2 => sp (x :: (vs ++ [])) H2 Q E0) : tMeth C m sp [] E0 ta t σ H Q := q
/-- a field is wanted -/
def FldK (K : PySem.W.Frag) (f : Str) (x : V) (H : Hp) (Q : VK) : Prop := ∃ a C dx fs v, x = .ref a ∧ H a = some (.ins C dx fs) ∧ Cls K C ∧ NoAttr K C f ∧ fs.lookup f = some v ∧ Q v H
theorem r_fld {ta : TE} {f : Str} (q : ta σ H fun x H1 => FldK K f x H1 Q) : tFld K ta f σ H Q := q
/-- an instance of the class at C with these fields -/
def InsAt (C : Addr) (H : Hp) (x : Addr) (fs : List (Str × V)) : Prop := ∃ dx, H x = some (.ins C dx fs)
theorem InsAt.ex {H' : Hp} {x : Addr} {fs : List (Str × V)} (e : Ex H H') (h : InsAt C H x fs) : InsAt C H' x fs := let ⟨dx, z⟩ := h; ⟨dx, e _ _ z⟩
theorem r_fldb {x : Addr} {f : Str} {fs : List (Str × V)} {v : V} (h : InsAt C H x fs) (c : Cls K C) (n : NoAttr K C f) (l : fs.lookup f = some v) (q : Q v H) : FldK K f (.ref x) H Q := by
  obtain ⟨dx, z⟩ := h
  exact ⟨x, C, dx, fs, v, rfl, z, c, n, l, q⟩
theorem r_methb {x : Addr} {m : Str} {fs : List (Str × V)} {P : Prop} (h : InsAt C H x fs) (l : fs.lookup m = none) (q : P) : ∃ a dx fs, V.ref x = .ref a ∧ H a = some (.ins C dx fs) ∧ fs.lookup m = none ∧ P := by
  obtain ⟨dx, z⟩ := h
  exact ⟨x, dx, fs, rfl, z, l, q⟩
theorem r_sfld {ta tv : TE} {f : Str} {nx : L2.St → Hp → Prop} {rt : VK} {bk ct : L2.St → Hp → Prop} (q : tv σ H fun y H1 => ta σ H1 fun x H2 => ∃ a C dx fs, x = .ref a ∧ H2 a = some (.ins C dx fs) ∧ Cls K C ∧ NoAttr K C f ∧ fs.length < 1000 ∧ nx σ (upd H2 a (.ins C dx (putF f y fs)))) : sFld K ta tv f ⟨nx, rt, bk, ct⟩ σ H := q
end
/-! ### the two answers' fields -/
def fPlace (v : V) : List (Str × V) := putF "place" v []
def fEnds (l m : V) : List (Str × V) := putF "most" m (putF "least" l [])
theorem fPlace_place (v : V) : (fPlace v).lookup ("place" : Str) = some v := by
  unfold fPlace
  rw [lookup_putF, if_pos rfl]
theorem fPlace_shows (v : V) : (fPlace v).lookup ("shows" : Str) = none := by
  unfold fPlace
  rw [lookup_putF, if_neg (by decide +kernel)]
  rfl
theorem fEnds_least (l m : V) : (fEnds l m).lookup ("least" : Str) = some l := by
  unfold fEnds
  rw [lookup_putF, if_neg (by decide +kernel), lookup_putF, if_pos rfl]
theorem fEnds_most (l m : V) : (fEnds l m).lookup ("most" : Str) = some m := by
  unfold fEnds
  rw [lookup_putF, if_pos rfl]
theorem fEnds_shows (l m : V) : (fEnds l m).lookup ("shows" : Str) = none := by
  unfold fEnds
  rw [lookup_putF, if_neg (by decide +kernel), lookup_putF, if_neg (by decide +kernel)]
  rfl
/-- __init__ that stores what it is given -/
def sp_init1 (C : Addr) : Sp := fun vs H Q _ => ∃ (x dx : Addr) (v : V), vs = [.ref x, v] ∧ H x = some (.ins C dx []) ∧ ∀ H', (∀ b o, H b = some o → b ≠ x → H' b = some o) → InsAt C H' x (fPlace v) → Q .non H'
def sp_init2 (C : Addr) : Sp := fun vs H Q _ => ∃ (x dx : Addr) (l m : V), vs = [.ref x, l, m] ∧ H x = some (.ins C dx []) ∧ ∀ H', (∀ b o, H b = some o → b ≠ x → H' b = some o) → InsAt C H' x (fEnds l m) → Q .non H'
theorem r_mkI1 {C : Addr} {v : V} {H : Hp} {Q : VK} (q : ∀ x H', H x = none → Ex H H' → InsAt C H' x (fPlace v) → Q (.ref x) H') : MkI C (sp_init1 C) [v] H Q := fun x dx nx nd ne =>
  ⟨x, dx, v, rfl, upd_same, fun H' k i => ⟨rfl, q x H' nx (fun b o e => k b o (by rw [upd_ne (ne_of_none e nx), upd_ne (ne_of_none e nd)]; exact e) (ne_of_none e nx)) i⟩⟩
theorem r_mkI2 {C : Addr} {l m : V} {H : Hp} {Q : VK} (q : ∀ x H', H x = none → Ex H H' → InsAt C H' x (fEnds l m) → Q (.ref x) H') : MkI C (sp_init2 C) [l, m] H Q := fun x dx nx nd ne =>
  ⟨x, dx, l, m, rfl, upd_same, fun H' k i => ⟨rfl, q x H' nx (fun b o e => k b o (by rw [upd_ne (ne_of_none e nx), upd_ne (ne_of_none e nd)]; exact e) (ne_of_none e nx)) i⟩⟩
/-! ### corners -/
/-- the places at which what so many beads have begins to rise or fall otherwise -/
def Corner (r : Ring) (many x : Int) : Prop := x = 0 ∨ ∃ j, j < r.length ∧ (x = size (r.take j) ∨ x = (size (r.take j) - many) % size r)
/-- .. of the first n stretches -/
def CornerN (r : Ring) (many : Int) (n : Nat) (x : Int) : Prop := ∃ j, j < n ∧ (x = size (r.take j) ∨ x = (size (r.take j) - many) % size r)
theorem cornerN_put {r : Ring} {many : Int} {n : Nat} {ks : List Int} {z : Prop} {x : Int} (hk : x ∈ ks ↔ z ∨ CornerN r many n x) : x ∈ putI (putI ks (size (r.take n))) ((size (r.take n) - many) % size r) ↔ z ∨ CornerN r many (n + 1) x := by
  rw [putI_mem, putI_mem, hk]
  clear hk
  unfold CornerN
  constructor
  · rintro (((h | ⟨j, hj, h⟩) | h) | h)
    · exact .inl h
    · exact .inr ⟨j, by omega, h⟩
    · exact .inr ⟨n, by omega, .inl h⟩
    · exact .inr ⟨n, by omega, .inr h⟩
  · rintro (h | ⟨j, hj, h⟩)
    · exact .inl (.inl (.inl h))
    · by_cases e : j = n
      · subst e
        rcases h with h | h
        · exact .inl (.inr h)
        · exact .inr h
      · exact .inl (.inl (.inr ⟨j, by omega, h⟩))
theorem cornerN_len {r : Ring} {many : Int} {n : Nat} {ks : List Int} (h : ks.length ≤ 2 * n + 1) : (putI (putI ks (size (r.take n))) ((size (r.take n) - many) % size r)).length ≤ 2 * (n + 1) + 1 := by
  have h1 := putI_len ks (size (r.take n))
  have h2 := putI_len (putI ks (size (r.take n))) ((size (r.take n) - many) % size r)
  omega
/-- in order -/
structure Corners (r : Ring) (many : Int) (C : List Int) : Prop where
  up : C.Pairwise (· < ·)
  mem : ∀ x, x ∈ C ↔ Corner r many x
theorem corners_of {r : Ring} {many : Int} {ks out : List Int} {z : Int → Prop} (h : ∀ x, x ∈ ks ↔ z x ∨ CornerN r many r.length x) (hz : ∀ x, z x → x = 0) (n : r ≠ []) (nd : ks.Nodup) (p : out.Perm ks) (o : out.Pairwise (· ≤ ·)) : Corners r many out := by
  have nd2 : out.Nodup := p.symm.nodup nd
  refine ⟨?_, fun x => ?_⟩
  · have both := o.and nd2
    exact both.imp fun {a b} h => by have := h.1; have := h.2; omega
  · rw [p.mem_iff, h x]
    unfold Corner CornerN
    constructor
    · rintro (q | q)
      · exact .inl (hz x q)
      · exact .inr q
    · rintro (rfl | q)
      · refine .inr ⟨0, List.length_pos_iff.mpr n, .inl ?_⟩
        simp [size]
      · exact .inr q
theorem Corner.range {r : Ring} (ok : Ok r) {many x : Int} (h : Corner r many x) : 0 ≤ x ∧ x < size r := by
  have hs := ok.size_pos
  rcases h with rfl | ⟨j, hj, rfl | rfl⟩
  · omega
  · have h1 := size_len _ (pos_take ok.pos j)
    have h2 := size_app (r.take j) (r.drop j)
    rw [List.take_append_drop] at h2
    have h3 := size_len (r.drop j) fun x hx => ok.pos x (List.mem_of_mem_drop hx)
    rw [List.length_drop] at h3
    omega
  · exact ⟨Int.emod_nonneg _ (by omega), Int.emod_lt_of_pos _ (by omega)⟩
theorem Corners.ne {r : Ring} {many : Int} {C : List Int} (c : Corners r many C) : C ≠ [] := by
  intro e
  have h := (c.mem 0).mpr (.inl rfl)
  rw [e] at h
  cases h
/-- the least and the most over the corners -/
structure IsEnds (r : Ring) (many lo hi : Int) : Prop where
  lo_at : ∃ x, Corner r many x ∧ among r x many = lo
  hi_at : ∃ x, Corner r many x ∧ among r x many = hi
  lo_le : ∀ x, Corner r many x → lo ≤ among r x many
  hi_ge : ∀ x, Corner r many x → among r x many ≤ hi
theorem IsEnds.one {r : Ring} {many lo hi lo' hi' : Int} (a : IsEnds r many lo hi) (b : IsEnds r many lo' hi') : lo = lo' ∧ hi = hi' := by
  obtain ⟨x, hx, ex⟩ := a.lo_at
  obtain ⟨y, hy, ey⟩ := b.lo_at
  obtain ⟨u, hu, eu⟩ := a.hi_at
  obtain ⟨v, hv, ev⟩ := b.hi_at
  have h1 := b.lo_le x hx
  have h2 := a.lo_le y hy
  have h3 := b.hi_ge u hu
  have h4 := a.hi_ge v hv
  omega
theorem IsEnds.le {r : Ring} {many lo hi : Int} (a : IsEnds r many lo hi) : lo ≤ hi := by
  obtain ⟨x, hx, ex⟩ := a.lo_at
  have := a.hi_ge x hx
  omega
theorem Corners.ends {r : Ring} {many lo hi : Int} {C : List Int} (c : Corners r many C) (h1 : lo ∈ C.map fun x => among r x many) (h2 : ∀ y ∈ C.map fun x => among r x many, lo ≤ y) (h3 : hi ∈ C.map fun x => among r x many) (h4 : ∀ y ∈ C.map fun x => among r x many, y ≤ hi) : IsEnds r many lo hi := by
  obtain ⟨x, hx, ex⟩ := List.mem_map.mp h1
  obtain ⟨y, hy, ey⟩ := List.mem_map.mp h3
  exact ⟨⟨x, (c.mem x).mp hx, ex⟩, ⟨y, (c.mem y).mp hy, ey⟩, fun z hz => h2 _ (List.mem_map.mpr ⟨z, (c.mem z).mpr hz, rfl⟩), fun z hz => h4 _ (List.mem_map.mpr ⟨z, (c.mem z).mpr hz, rfl⟩)⟩
/-- among is between none and all -/
theorem among_lim {r : Ring} (ok : Ok r) {p n : Int} (h0 : 0 ≤ p) (h1 : p < size r) (h2 : 0 ≤ n) (h3 : n ≤ size r) : -1 ≤ among r p n ∧ among r p n ≤ 2 * size r := by
  have m := mine_le r ok.pos
  have a1 := ahead_range (p := p) ok.pos h0
  have e0 := ok.size_pos
  have q0 : 0 ≤ (p + n) % size r := Int.emod_nonneg _ (by omega)
  have a2 := ahead_range (p := (p + n) % size r) ok.pos q0
  rw [among_in h0 h1]
  have d := Int.emod_add_mul_ediv (p + n) (size r)
  have c : (p + n) / size r = 0 ∨ (p + n) / size r = 1 := by
    have u1 : 0 ≤ (p + n) / size r := Int.ediv_nonneg (by omega) (by omega)
    have u2 : (p + n) / size r < 2 := Int.ediv_lt_of_lt_mul (by omega) (by omega)
    omega
  rcases c with c | c
  · rw [c] at d ⊢
    have z : (p + n) % size r = p + n := by rw [Int.mul_zero] at d; omega
    rw [z] at a2 ⊢
    have mono : ahead r p ≤ ahead r (p + n) := by
      rw [ahead_row ok.pos h0, ahead_row ok.pos (by omega)]
      exact Int.ofNat_le.mpr (List.Sublist.count_le _ (List.take_sublist_take_left (by omega)))
    omega
  · rw [c]
    omega
end Rb
/-! Ring beads: between two corners next to each other a count rises, stays or falls evenly. -/
namespace Rb
open PySem PySem.Spec PyProof.Rows L2
theorem stretch_at : ∀ {r : Ring} {y : Int}, 0 ≤ y → y < size r → ∃ j x, r[j]? = some x ∧ size (r.take j) ≤ y ∧ y < size (r.take j) + x.2
  | [], y, h0, h1 => by simp only [size] at h1; omega
  | x :: r, y, h0, h1 => by
    by_cases hc : y < x.2
    · exact ⟨0, x, rfl, by simpa [size] using h0, by simpa [size] using hc⟩
    · simp only [size] at h1
      obtain ⟨j, z, hj, h2, h3⟩ := stretch_at (r := r) (y := y - x.2) (by omega) (by omega)
      exact ⟨j + 1, z, by simpa using hj, by simp only [List.take_succ_cons, size]; omega, by simp only [List.take_succ_cons, size]; omega⟩
theorem upTo_le {r : Ring} (ok : Ok r) {p : Int} (h0 : 0 ≤ p) (h1 : p ≤ size r) : upTo r p = ahead r p := by
  have W0 := ok.size_pos
  by_cases hc : p < size r
  · exact upTo_in h0 hc
  · have e : p = size r := by omega
    subst e
    unfold upTo
    rw [Int.ediv_self (by omega), Int.emod_self, ahead_zero ok.pos, ahead_size ok.pos]
    omega
/-- one bead -/
def bead (r : Ring) (x : Int) : Int := upTo r (x + 1) - upTo r x
theorem bead_mod {r : Ring} (ok : Ok r) (x : Int) : bead r x = bead r (x % size r) := by
  have W0 := ok.size_pos
  have d := Int.emod_add_mul_ediv x (size r)
  generalize x % size r = y at d
  generalize x / size r = c at d
  unfold bead
  rw [← d, show y + size r * c + 1 = (y + 1) + size r * c by omega, upTo_round (by omega), upTo_round (by omega)]
  omega
theorem bead_in {r : Ring} (ok : Ok r) {y : Int} (h0 : 0 ≤ y) (h1 : y < size r) {j : Nat} {x : Bool × Int} (hj : r[j]? = some x) (h2 : size (r.take j) ≤ y) (h3 : y < size (r.take j) + x.2) : bead r y = if x.1 then 1 else 0 := by
  unfold bead
  rw [upTo_le ok h0 (by omega), upTo_le ok (by omega) (by omega), ahead_at ok.pos hj h2 (by omega), ahead_at ok.pos hj (p := y + 1) (by omega) (by omega)]
  cases x.1
  · simp
  · simp; omega
theorem bead_range {r : Ring} (ok : Ok r) (x : Int) : bead r x = 0 ∨ bead r x = 1 := by
  have W0 := ok.size_pos
  rw [bead_mod ok]
  have h0 := Int.emod_nonneg x (show size r ≠ 0 by omega)
  have h1 := Int.emod_lt_of_pos x (show 0 < size r by omega)
  obtain ⟨j, z, hj, h2, h3⟩ := stretch_at h0 h1
  rw [bead_in ok h0 h1 hj h2 h3]
  split
  · exact .inr rfl
  · exact .inl rfl
/-- where no stretch begins the bead is as the one ahead of it -/
theorem bead_same {r : Ring} (ok : Ok r) {x : Int} (h : ∀ j, j < r.length → x % size r ≠ size (r.take j)) : bead r x = bead r (x - 1) := by
  have W0 := ok.size_pos
  have h0 := Int.emod_nonneg x (show size r ≠ 0 by omega)
  have h1 := Int.emod_lt_of_pos x (show 0 < size r by omega)
  obtain ⟨j, z, hj, h2, h3⟩ := stretch_at h0 h1
  have hn := (List.getElem?_eq_some_iff.mp hj).1
  have h4 := h j hn
  have z0 : x % size r ≠ 0 := fun e => h 0 ok.len (by rw [e]; simp [size])
  have e1 : (x - 1) % size r = x % size r - 1 := by
    have d := Int.emod_add_mul_ediv x (size r)
    have e : x - 1 = (x % size r - 1) + size r * (x / size r) := by omega
    rw [e, Int.add_mul_emod_self_left, Int.emod_eq_of_lt (by omega) (by omega)]
  rw [bead_mod ok x, bead_mod ok (x - 1), e1, bead_in ok h0 h1 hj h2 h3, bead_in ok (by omega) (by omega) hj (by omega) (by omega)]
theorem among_next (r : Ring) (p n : Int) : among r (p + 1) n = among r p n + (bead r (p + n) - bead r p) := by
  unfold among bead
  rw [show p + 1 + n = p + n + 1 by omega]
  omega
theorem among_round {r : Ring} (ok : Ok r) (p n c : Int) : among r (p + size r * c) n = among r p n := by
  have W0 := ok.size_pos
  unfold among
  rw [show p + size r * c + n = (p + n) + size r * c by omega, upTo_round (by omega), upTo_round (by omega)]
  omega
theorem among_mod {r : Ring} (ok : Ok r) (p n : Int) : among r (p % size r) n = among r p n := by
  have d := Int.emod_add_mul_ediv p (size r)
  have e := among_round ok (p % size r) n (p / size r)
  rw [d] at e
  exact e.symm
/-- between corners the slope is one -/
theorem slope_same {r : Ring} (ok : Ok r) {m c e : Int} (h0 : 0 ≤ c) (h1 : e ≤ size r) (hc : ∀ x, c < x → x < e → ¬ Corner r m x) {x : Int} (hx : c < x) (hx2 : x < e) : bead r (x + m) - bead r x = bead r (x - 1 + m) - bead r (x - 1) := by
  have W0 := ok.size_pos
  have no := hc x hx hx2
  have ex : x % size r = x := Int.emod_eq_of_lt (by omega) (by omega)
  have b1 := bead_same ok (x := x) fun j hj q => no (.inr ⟨j, hj, .inl (by rw [← q, ex])⟩)
  have b2 := bead_same ok (x := x + m) fun j hj q => no (.inr ⟨j, hj, .inr (by
    rw [← q, Int.sub_eq_add_neg, Int.emod_add_emod]
    rw [show x + m + -m = x by omega, ex])⟩)
  rw [b1, b2, show x + m - 1 = x - 1 + m by omega]
theorem slope_all {r : Ring} (ok : Ok r) {m c e : Int} (h0 : 0 ≤ c) (h1 : e ≤ size r) (hc : ∀ x, c < x → x < e → ¬ Corner r m x) : ∀ d : Nat, c + d < e → bead r (c + d + m) - bead r (c + d) = bead r (c + m) - bead r c
  | 0, _ => by simp
  | d + 1, hd => by
    have ih := slope_all ok h0 h1 hc d (by omega)
    have s := slope_same ok h0 h1 hc (x := c + ((d + 1 : Nat) : Int)) (by omega) hd
    rw [s, show c + ((d + 1 : Nat) : Int) - 1 = c + d by omega, ih]
/-- evenly -/
theorem arc_lin {r : Ring} (ok : Ok r) {m c e : Int} (h0 : 0 ≤ c) (h1 : e ≤ size r) (hc : ∀ x, c < x → x < e → ¬ Corner r m x) :
    (∀ d : Int, 0 ≤ d → c + d ≤ e → among r (c + d) m = among r c m + d) ∨ (∀ d : Int, 0 ≤ d → c + d ≤ e → among r (c + d) m = among r c m) ∨ (∀ d : Int, 0 ≤ d → c + d ≤ e → among r (c + d) m = among r c m - d) := by
  have s := slope_all ok h0 h1 hc
  have step : ∀ d : Nat, c + ((d + 1 : Nat) : Int) ≤ e → among r (c + ((d + 1 : Nat) : Int)) m = among r (c + d) m + (bead r (c + m) - bead r c) := fun d hd => by
    rw [← s d (by omega), show c + ((d + 1 : Nat) : Int) = c + d + 1 by omega, among_next]
  have b1 := bead_range ok (c + m)
  have b2 := bead_range ok c
  have go : ∀ k : Int, bead r (c + m) - bead r c = k → ∀ d : Nat, c + d ≤ e → among r (c + d) m = among r c m + k * d := by
    intro k hk d
    induction d with
    | zero => intro _; simp
    | succ d ih =>
      intro hd
      rw [step d hd, ih (by omega), hk, show ((d + 1 : Nat) : Int) = (d : Int) + 1 by omega, Int.mul_add]
      omega
  have go2 : ∀ k : Int, bead r (c + m) - bead r c = k → ∀ d : Int, 0 ≤ d → c + d ≤ e → among r (c + d) m = among r c m + k * d := fun k hk d hd => by
    obtain ⟨n, rfl⟩ := Int.eq_ofNat_of_zero_le hd
    exact go k hk n
  rcases b1 with b1 | b1 <;> rcases b2 with b2 | b2
  · exact .inr (.inl fun d g1 g2 => by rw [go2 0 (by omega) d g1 g2]; omega)
  · exact .inr (.inr fun d g1 g2 => by rw [go2 (-1) (by omega) d g1 g2]; omega)
  · exact .inl fun d g1 g2 => by rw [go2 1 (by omega) d g1 g2]; omega
  · exact .inr (.inl fun d g1 g2 => by rw [go2 0 (by omega) d g1 g2]; omega)
/-- two corners next to each other: e is the second, or the whole ring -/
structure Arc (r : Ring) (m c c' e : Int) : Prop where
  lo : 0 ≤ c
  up : c < e
  hi : e ≤ size r
  no : ∀ x, c < x → x < e → ¬ Corner r m x
  same : among r e m = among r c' m
theorem Corners.next {r : Ring} (ok : Ok r) {m : Int} {C : List Int} (hC : Corners r m C) {i : Nat} {c c' : Int} (h : C[i]? = some c) (h' : (C.drop 1 ++ C.take 1)[i]? = some c') : ∃ e, Arc r m c c' e ∧ (C[i + 1]? = some e ∨ (i + 1 = C.length ∧ e = size r)) := by
  have W0 := ok.size_pos
  have hi := (List.getElem?_eq_some_iff.mp h).1
  have rc := ((hC.mem c).mp (List.mem_of_getElem? h)).range ok
  have up : ∀ a b : Nat, ∀ x y, a < b → C[a]? = some x → C[b]? = some y → x < y := fun a b x y hab hx hy => by
    obtain ⟨ha, rfl⟩ := List.getElem?_eq_some_iff.mp hx
    obtain ⟨hb, rfl⟩ := List.getElem?_eq_some_iff.mp hy
    exact List.pairwise_iff_getElem.mp hC.up a b ha hb hab
  by_cases hl : i + 1 < C.length
  · rw [List.getElem?_append_left (by rw [List.length_drop]; omega), List.getElem?_drop] at h'
    rw [show 1 + i = i + 1 by omega] at h'
    have rc' := ((hC.mem c').mp (List.mem_of_getElem? h')).range ok
    refine ⟨c', ⟨rc.1, up i (i + 1) _ _ (by omega) h h', by omega, fun x x1 x2 hx => ?_, rfl⟩, .inl h'⟩
    obtain ⟨k, hk⟩ := List.getElem?_of_mem ((hC.mem x).mpr hx)
    by_cases hki : k ≤ i
    · by_cases e : k = i
      · subst e
        rw [h] at hk
        cases hk
        omega
      · have := up k i _ _ (by omega) hk h
        omega
    · by_cases e : k = i + 1
      · subst e
        rw [h'] at hk
        cases hk
        omega
      · have := up (i + 1) k _ _ (by omega) h' hk
        omega
  · have el : i + 1 = C.length := by omega
    have n0 : 0 < C.length := by omega
    obtain ⟨z, hz⟩ : ∃ z, C[0]? = some z := ⟨C[0], List.getElem?_eq_getElem n0⟩
    have z0 : z = 0 := by
      obtain ⟨k, hk⟩ := List.getElem?_of_mem ((hC.mem 0).mpr (.inl rfl))
      have rz := ((hC.mem z).mp (List.mem_of_getElem? hz)).range ok
      by_cases e : k = 0
      · subst e
        rw [hz] at hk
        exact Option.some.inj hk
      · have := up 0 k _ _ (by omega) hz hk
        omega
    have e' : c' = z := by
      rw [List.getElem?_append_right (by rw [List.length_drop]; omega), List.length_drop, show i - (C.length - 1) = 0 by omega, List.getElem?_take] at h'
      rw [if_pos (by omega), hz] at h'
      exact (Option.some.inj h').symm
    refine ⟨size r, ⟨rc.1, by omega, by omega, fun x x1 x2 hx => ?_, ?_⟩, .inr ⟨el, rfl⟩⟩
    · obtain ⟨k, hk⟩ := List.getElem?_of_mem ((hC.mem x).mpr hx)
      have hkl := (List.getElem?_eq_some_iff.mp hk).1
      by_cases e : k = i
      · subst e
        rw [h] at hk
        cases hk
        omega
      · have := up k i _ _ (by omega) hk h
        omega
    · rw [e', z0]
      have q := among_round ok 0 m 1
      rw [show (0 : Int) + size r * 1 = size r by omega] at q
      exact q
/-- what is between two corners' counts is had between them -/
theorem Arc.found {r : Ring} (ok : Ok r) {m c c' e n : Int} (a : Arc r m c c' e) (h1 : min (among r c m) (among r c' m) ≤ n) (h2 : n ≤ max (among r c m) (among r c' m)) :
    0 ≤ (c + ((n - among r c m).natAbs : Int)) % size r ∧ (c + ((n - among r c m).natAbs : Int)) % size r < size r ∧ among r ((c + ((n - among r c m).natAbs : Int)) % size r) m = n := by
  have W0 := ok.size_pos
  refine ⟨Int.emod_nonneg _ (by omega), Int.emod_lt_of_pos _ (by omega), ?_⟩
  rw [among_mod ok]
  have ups := a.up
  have sm := a.same
  rcases arc_lin ok a.lo a.hi a.no with L | L | L
  · have q := L (e - c) (by omega) (by omega)
    rw [show c + (e - c) = e by omega, sm] at q
    rw [L _ (by omega) (by omega)]
    omega
  · have q := L (e - c) (by omega) (by omega)
    rw [show c + (e - c) = e by omega, sm] at q
    rw [L _ (by omega) (by omega)]
    omega
  · have q := L (e - c) (by omega) (by omega)
    rw [show c + (e - c) = e by omega, sm] at q
    rw [L _ (by omega) (by omega)]
    omega
/-- nothing beyond the ends -/
theorem Arc.within {r : Ring} (ok : Ok r) {m c c' e p : Int} (a : Arc r m c c' e) (h1 : c ≤ p) (h2 : p ≤ e) : min (among r c m) (among r c' m) ≤ among r p m ∧ among r p m ≤ max (among r c m) (among r c' m) := by
  have ups := a.up
  have sm := a.same
  have ep : c + (p - c) = p := by omega
  rcases arc_lin ok a.lo a.hi a.no with L | L | L
  all_goals
    have q := L (e - c) (by omega) (by omega)
    rw [show c + (e - c) = e by omega, sm] at q
    have y := L (p - c) (by omega) (by omega)
    rw [ep] at y
    omega
theorem Corners.arc_of {r : Ring} (ok : Ok r) {m : Int} {C : List Int} (hC : Corners r m C) {p : Int} (h1 : p < size r) : ∀ (k i : Nat) (c : Int), C.length = i + 1 + k → C[i]? = some c → c ≤ p → ∃ a a' e, Arc r m a a' e ∧ a ≤ p ∧ p ≤ e ∧ a ∈ C ∧ a' ∈ C
  | k, i, c, hk, hi, hp => by
    have hil : i < (C.drop 1 ++ C.take 1).length := by rw [List.length_append, List.length_drop, List.length_take]; omega
    obtain ⟨c', hc'⟩ : ∃ c', (C.drop 1 ++ C.take 1)[i]? = some c' := ⟨_, List.getElem?_eq_getElem hil⟩
    have mc' : c' ∈ C := by
      rcases List.mem_append.mp (List.mem_of_getElem? hc') with z | z
      · exact List.mem_of_mem_drop z
      · exact List.mem_of_mem_take z
    obtain ⟨e, a, he⟩ := hC.next ok hi hc'
    by_cases hpe : p ≤ e
    · exact ⟨c, c', e, a, hp, hpe, List.mem_of_getElem? hi, mc'⟩
    · rcases he with he | ⟨_, rfl⟩
      · cases k with
        | zero =>
          have := (List.getElem?_eq_some_iff.mp he).1
          omega
        | succ k => exact Corners.arc_of ok hC h1 k (i + 1) e (by omega) he (by omega)
      · omega
theorem Corners.zero {r : Ring} (ok : Ok r) {m : Int} {C : List Int} (hC : Corners r m C) : ∃ z, C[0]? = some z ∧ z = 0 := by
  have n0 : 0 < C.length := List.length_pos_iff.mpr hC.ne
  refine ⟨C[0], List.getElem?_eq_getElem n0, ?_⟩
  have rz := ((hC.mem C[0]).mp (List.getElem_mem n0)).range ok
  obtain ⟨k, hk⟩ := List.getElem?_of_mem ((hC.mem 0).mpr (.inl rfl))
  obtain ⟨hkl, e⟩ := List.getElem?_eq_some_iff.mp hk
  by_cases h : k = 0
  · subst h
    exact e
  · have := List.pairwise_iff_getElem.mp hC.up 0 k n0 hkl (by omega)
    omega
theorem IsEnds.all {r : Ring} (ok : Ok r) {m lo hi : Int} {C : List Int} (hC : Corners r m C) (E : IsEnds r m lo hi) {p : Int} (h0 : 0 ≤ p) (h1 : p < size r) : lo ≤ among r p m ∧ among r p m ≤ hi := by
  obtain ⟨z, hz, rfl⟩ := hC.zero ok
  have n0 : 0 < C.length := List.length_pos_iff.mpr hC.ne
  obtain ⟨a, a', e, A, p1, p2, ma, ma'⟩ := hC.arc_of ok h1 (C.length - 1) 0 0 (by omega) hz h0
  have y := A.within ok p1 p2
  have l1 := E.lo_le a ((hC.mem a).mp ma)
  have l2 := E.lo_le a' ((hC.mem a').mp ma')
  have u1 := E.hi_ge a ((hC.mem a).mp ma)
  have u2 := E.hi_ge a' ((hC.mem a').mp ma')
  omega
/-- what is within the ends is between two corners next to each other -/
theorem IsEnds.some_pair {r : Ring} {m lo hi n : Int} {C : List Int} (hC : Corners r m C) (E : IsEnds r m lo hi) (h1 : lo ≤ n) (h2 : n ≤ hi)
    (no : ∀ (i : Nat) (c c' : Int), C[i]? = some c → (C.drop 1 ++ C.take 1)[i]? = some c' → ¬ (min (among r c m) (among r c' m) ≤ n ∧ n ≤ max (among r c m) (among r c' m))) : False := by
  have n0 : 0 < C.length := List.length_pos_iff.mpr hC.ne
  have nx : ∀ (i : Nat) (c : Int), C[i]? = some c → ∃ c', (C.drop 1 ++ C.take 1)[i]? = some c' ∧ (∀ d, C[i + 1]? = some d → c' = d) := fun i c hi => by
    have hl := (List.getElem?_eq_some_iff.mp hi).1
    have hil : i < (C.drop 1 ++ C.take 1).length := by rw [List.length_append, List.length_drop, List.length_take]; omega
    refine ⟨_, List.getElem?_eq_getElem hil, fun d hd => ?_⟩
    have h3 := (List.getElem?_eq_some_iff.mp hd).1
    have q := List.getElem?_eq_getElem hil
    rw [List.getElem?_append_left (by rw [List.length_drop]; omega), List.getElem?_drop, show 1 + i = i + 1 by omega, hd] at q
    exact (Option.some.inj q).symm
  obtain ⟨c0, hc0⟩ : ∃ c0, C[0]? = some c0 := ⟨_, List.getElem?_eq_getElem n0⟩
  have side : ∀ (i : Nat) (c : Int), C[i]? = some c → among r c m ≠ n ∧ (among r c m < n ↔ among r c0 m < n) := by
    intro i
    induction i with
    | zero =>
      intro c hc
      rw [hc0] at hc
      cases hc
      obtain ⟨c', h', _⟩ := nx 0 c0 hc0
      have z := no 0 _ _ hc0 h'
      exact ⟨by omega, Iff.rfl⟩
    | succ i ih =>
      intro c hc
      have hl := (List.getElem?_eq_some_iff.mp hc).1
      obtain ⟨b, hb⟩ : ∃ b, C[i]? = some b := ⟨_, List.getElem?_eq_getElem (by omega)⟩
      obtain ⟨i1, i2⟩ := ih b hb
      obtain ⟨b', hb', e⟩ := nx i b hb
      have eb := e c hc
      subst eb
      have z := no i _ _ hb hb'
      refine ⟨by omega, ?_⟩
      rw [← i2]
      omega
  obtain ⟨x, hx, ex⟩ := E.lo_at
  obtain ⟨y, hy, ey⟩ := E.hi_at
  obtain ⟨i, hi'⟩ := List.getElem?_of_mem ((hC.mem x).mpr hx)
  obtain ⟨j, hj⟩ := List.getElem?_of_mem ((hC.mem y).mpr hy)
  have s1 := side i x hi'
  have s2 := side j y hj
  omega
/-! ### by the beads, the ring told twice -/
theorem upTo_two {r : Ring} (ok : Ok r) {q : Int} (h0 : 0 ≤ q) (h1 : q ≤ 2 * size r) : upTo r q = (((row r ++ row r).take q.toNat).count true : Int) := by
  have W0 := ok.size_pos
  have rr : ∀ x ∈ r ++ r, 1 ≤ x.2 := fun x hx => (List.mem_append.mp hx).elim (ok.pos x) (ok.pos x)
  rw [← row_app, ← ahead_row rr h0]
  by_cases hc : q ≤ size r
  · rw [ahead_left ok.pos ok.pos h0 hc, upTo_le ok h0 hc]
  · have e := ahead_split r r (q - size r) ok.pos (by omega) ok.pos
    rw [show size r + (q - size r) = q by omega] at e
    have u := upTo_round (r := r) (by omega) (q - size r) 1
    rw [show q - size r + size r * 1 = q by omega, upTo_le ok (p := q - size r) (by omega) (by omega)] at u
    rw [e, u]
    omega
theorem among_two {r : Ring} (ok : Ok r) {p m : Nat} (h0 : (p : Int) ≤ size r) (h1 : (m : Int) ≤ size r) : among r p m = ((((row r ++ row r).drop p).take m).count true : Int) := by
  unfold among
  rw [upTo_two ok (by omega) (by omega), upTo_two ok (by omega) (by omega), show ((p : Int) + (m : Int)).toNat = p + m by omega, Int.toNat_natCast, List.take_add, List.count_append]
  omega
end Rb
/-! Ring beads: answers of either class, places one by one, counts in texts. -/
namespace Rb
open PySem PySem.Spec PyProof.Rows L2
/-! ### ends are there -/
theorem min_there : ∀ l : List Int, l ≠ [] → ∃ m, m ∈ l ∧ ∀ y ∈ l, m ≤ y
  | [], h => absurd rfl h
  | [a], _ => ⟨a, List.mem_cons_self, fun y hy => by simp at hy; omega⟩
  | a :: b :: l, _ => by
    obtain ⟨m, h1, h2⟩ := min_there (b :: l) (by simp)
    by_cases h : a ≤ m
    · refine ⟨a, List.mem_cons_self, fun y hy => ?_⟩
      rcases List.mem_cons.mp hy with rfl | hy
      · omega
      · have := h2 y hy; omega
    · refine ⟨m, List.mem_cons_of_mem _ h1, fun y hy => ?_⟩
      rcases List.mem_cons.mp hy with rfl | hy
      · omega
      · exact h2 y hy
theorem max_there (l : List Int) (h : l ≠ []) : ∃ m, m ∈ l ∧ ∀ y ∈ l, y ≤ m := by
  obtain ⟨m, h1, h2⟩ := min_there (l.map fun x => -x) (by simpa using h)
  obtain ⟨x, hx, rfl⟩ := List.mem_map.mp h1
  exact ⟨x, hx, fun y hy => by have := h2 (-y) (List.mem_map.mpr ⟨y, hy, rfl⟩); omega⟩
theorem corners_there {r : Ring} (ok : Ok r) (m : Int) : ∃ C, Corners r m C := by
  classical
  refine ⟨((List.range (size r).toNat).map fun n : Nat => (n : Int)).filter fun x => decide (Corner r m x), List.Pairwise.filter _ ?_, fun x => ?_⟩
  · rw [List.pairwise_map]
    exact List.pairwise_lt_range.imp fun {a b} h => by omega
  · rw [List.mem_filter, List.mem_map]
    constructor
    · rintro ⟨_, h⟩
      simpa using h
    · intro h
      have := h.range ok
      exact ⟨⟨x.toNat, List.mem_range.mpr (by omega), by omega⟩, by simpa using h⟩
theorem ends_there {r : Ring} (ok : Ok r) (m : Int) : ∃ lo hi, IsEnds r m lo hi := by
  obtain ⟨C, hC⟩ := corners_there ok m
  have ne : C.map (fun x => among r x m) ≠ [] := by simpa using hC.ne
  obtain ⟨lo, l1, l2⟩ := min_there _ ne
  obtain ⟨hi, u1, u2⟩ := max_there _ ne
  exact ⟨lo, hi, hC.ends l1 l2 u1 u2⟩
theorem IsEnds.at {r : Ring} (ok : Ok r) {m lo hi : Int} (E : IsEnds r m lo hi) {p : Int} (h0 : 0 ≤ p) (h1 : p < size r) : lo ≤ among r p m ∧ among r p m ≤ hi := by
  obtain ⟨C, hC⟩ := corners_there ok m
  exact E.all ok hC h0 h1
/-- what is within the ends is had somewhere -/
theorem IsEnds.had {r : Ring} (ok : Ok r) {m lo hi n : Int} (E : IsEnds r m lo hi) : (lo ≤ n ∧ n ≤ hi) ↔ ∃ p, 0 ≤ p ∧ p < size r ∧ among r p m = n := by
  constructor
  · rintro ⟨h1, h2⟩
    obtain ⟨C, hC⟩ := corners_there ok m
    by_cases h : ∃ p, 0 ≤ p ∧ p < size r ∧ among r p m = n
    · exact h
    · exfalso
      refine E.some_pair hC h1 h2 fun i c c' hc hc' y => h ?_
      obtain ⟨e, a, _⟩ := hC.next ok hc hc'
      obtain ⟨q1, q2, q3⟩ := a.found ok y.1 y.2
      exact ⟨_, q1, q2, q3⟩
  · rintro ⟨p, h0, h1, rfl⟩
    exact E.at ok h0 h1
/-- the counts of all places -/
def seen (r : Ring) (m : Int) : List Int := (List.range (row r).length).map fun p : Nat => among r p m
theorem seen_mem {r : Ring} (ok : Ok r) {m n : Int} : n ∈ seen r m ↔ ∃ p, 0 ≤ p ∧ p < size r ∧ among r p m = n := by
  have hl := row_len ok.pos
  unfold seen
  rw [List.mem_map]
  constructor
  · rintro ⟨p, hp, rfl⟩
    have := List.mem_range.mp hp
    exact ⟨p, by omega, by omega, rfl⟩
  · rintro ⟨p, h0, h1, rfl⟩
    refine ⟨p.toNat, List.mem_range.mpr (by omega), ?_⟩
    rw [show ((p.toNat : Nat) : Int) = p by omega]
theorem seen_ends {r : Ring} (ok : Ok r) {m lo hi : Int} (l1 : lo ∈ seen r m) (l2 : ∀ y ∈ seen r m, lo ≤ y) (u1 : hi ∈ seen r m) (u2 : ∀ y ∈ seen r m, y ≤ hi) : IsEnds r m lo hi := by
  obtain ⟨a, b, E⟩ := ends_there ok m
  have e1 := (E.had ok).mpr ((seen_mem ok).mp l1)
  have e2 := (E.had ok).mpr ((seen_mem ok).mp u1)
  have le := E.le
  have e3 := l2 a ((seen_mem ok).mpr ((E.had ok).mp ⟨Int.le_refl _, le⟩))
  have e4 := u2 b ((seen_mem ok).mpr ((E.had ok).mp ⟨le, Int.le_refl _⟩))
  have ea : lo = a := by omega
  have eb : hi = b := by omega
  rw [ea, eb]
  exact E
/-! ### an answer of either class -/
def tEither (t u : TE) : TE := fun σ H Q => t σ H Q ∨ u σ H Q
theorem pe_either {X : Cx} {e : Expr} {t u : TE} (a : PE X e t) (b : PE X e u) : PE X e (tEither t u) := ⟨fun pins s σ H Q I h => h.elim (a.run pins s σ H Q I) (b.run pins s σ H Q I)⟩
/-- the answer at x: is it a Found; what it says of a number -/
def AnsAt (mg : Str → Option Value) (H : Hp) (x : Addr) (r : Ring) (m lo hi : Int) (b : Bool) (g : Int → Bool) : Prop :=
  (b = true ∧ (∃ p, InsAt (adr mg "Found") H x (fPlace (.int p)) ∧ 0 ≤ p ∧ p < size r ∧ g = fun n => decide (among r p m = n))) ∨
  (b = false ∧ InsAt (adr mg "Never") H x (fEnds (.int lo) (.int hi)) ∧ g = fun n => !decide (lo ≤ n ∧ n ≤ hi))
theorem AnsAt.ex {mg : Str → Option Value} {H H' : Hp} {x : Addr} {r : Ring} {m lo hi : Int} {b : Bool} {g : Int → Bool} (e : Ex H H') (h : AnsAt mg H x r m lo hi b g) : AnsAt mg H' x r m lo hi b g := by
  rcases h with ⟨h1, p, h2, h3⟩ | ⟨h1, h2, h3⟩
  · exact .inl ⟨h1, p, h2.ex e, h3⟩
  · exact .inr ⟨h1, h2.ex e, h3⟩
/-! ### texts -/
theorem txt_slice {l : List Bool} {p m : Nat} (h : p + m ≤ l.length) : cutS (txt l) (some (p : Int)) (some ((p : Int) + (m : Int))) = txt ((l.drop p).take m) := by
  have e : (txt l).length = l.length := txt_len l
  rw [show ((p : Int) + (m : Int)) = ((p + m : Nat) : Int) by omega]
  unfold cutS
  rw [show HT.sIx (txt l).length 0 (some (p : Int)) = min p (txt l).length from HT.sIx_nat _ _ _, show HT.sIx (txt l).length (txt l).length (some ((p + m : Nat) : Int)) = min (p + m) (txt l).length from HT.sIx_nat _ _ _, e, Nat.min_eq_left h, Nat.min_eq_left (show p ≤ l.length by omega), Nat.add_sub_cancel_left]
  have q : (txt l).cps.toList = l.map cd := by simp [txt, SX.S]
  rw [q, ← List.map_drop, ← List.map_take]
  rfl
theorem cnt_txt : ∀ l : List Bool, cnt 97 (l.map cd) = (l.count true : Int)
  | [] => rfl
  | b :: l => by
    rw [List.map_cons, cnt_cons, cnt_txt l]
    cases b
    · simp [cd]
    · simp [cd]; omega
theorem txt_count (l : List Bool) : Txt.count (txt l) ("a" : Str) = (l.count true : Int) := by
  have e : ("a" : Str) = ⟨#[97]⟩ := by decide +kernel
  have q : (txt l).cps.toList = l.map cd := by simp [txt, SX.S]
  rw [e, count_cnt, q, cnt_txt]
section
variable {K : PySem.W.Frag} {σ : L2.St} {H : Hp} {Q : VK}
theorem r_slS {z : Str} {lo hi : Option Int} (n : z.length ≤ sizeLine) (q : Q (.str (cutS z lo hi)) H) : rSlS (.str z) lo hi H Q := ⟨z, rfl, n, q⟩
def rCnt : V → List V → Hp → VK → Prop := fun x xs H Q => ∃ a b, x = .str a ∧ xs = [.str b] ∧ Q (.int (Txt.count a b)) H
theorem mt_cnt {X : Cx} : MtR X "str.count" rCnt := mt_count
theorem r_cnt {a b : Str} (q : Q (.int (Txt.count a b)) H) : rCnt (.str a) [.str b] H Q := ⟨a, b, rfl, rfl, q⟩
theorem inV_int (n : Int) : ∀ xs : List Int, inV (.int n) (xs.map V.int) = decide (n ∈ xs)
  | [] => rfl
  | x :: xs => by
    have ih := inV_int n xs
    unfold inV at ih ⊢
    rw [List.map_cons, List.any_cons, ih]
    show ((x == n) || decide (n ∈ xs)) = _
    by_cases h : x = n
    · subst h
      simp
    · have h2 : ¬ n = x := fun e => h e.symm
      simp [h, h2]
theorem flat_int (xs : List Int) : (xs.map V.int).all flatV = true := by
  rw [List.all_eq_true]
  intro y hy
  obtain ⟨x, _, rfl⟩ := List.mem_map.mp hy
  rfl
theorem r_neB {i j : Bool} (q : Q (.bl (!decide (i = j))) H) : rNe (.bl i) (.bl j) H Q := ⟨rfl, by rw [show decide (V.bl i = V.bl j) = decide (i = j) by simp]; exact q⟩
theorem r_isNotB {a b : Bool} (q : Q (.bl (!decide (a = b))) H) : rNotB (.bl a) (.bl b) H Q := ⟨a, b, rfl, rfl, q⟩
theorem r_rng2 {ta : TA} {R : It → Hp → Prop} (q : ta σ H fun vs H1 => ∃ i j : Int, vs = [.int i, .int j] ∧ (-(2 ^ 62) ≤ i ∧ i < 2 ^ 62 ∧ -(2 ^ 62) ≤ j ∧ j < 2 ^ 62) ∧ R (Itr i (j - i).toNat) H1) : iRng2 ta σ H R := q
theorem r_rng2b {i j : Int} {n : Nat} {R : It → Hp → Prop} (hi : -1000000 ≤ i ∧ i ≤ 1000000) (hj : j = i + (n : Int)) (hn : n < 1000000) (q : R (Itr i n) H) : ∃ i' j' : Int, [V.int i, V.int j] = [.int i', .int j'] ∧ (-(2 ^ 62) ≤ i' ∧ i' < 2 ^ 62 ∧ -(2 ^ 62) ≤ j' ∧ j' < 2 ^ 62) ∧ R (Itr i' (j' - i').toNat) H :=
  ⟨i, j, rfl, by omega, by rw [show (j - i).toNat = n by omega]; exact q⟩
theorem forK_rng {lo : Int} {n : Nat} {j : Nat} {tb : TS} {nx : L2.St → Hp → Prop} {rt : VK} {bk ct : L2.St → Hp → Prop} (Pv : Nat → L2.St → Hp → Prop) (p0 : Pv 0 σ H)
    (hs : ∀ i σ' H', i < n → Pv i σ' H' → tb ⟨Pv (i + 1), rt, nx, Pv (i + 1)⟩ (σ'.set j (some (.int (lo + i)))) H')
    (hd : ∀ σ' H', Pv n σ' H' → nx σ' H') : ForK (gName j) tb ⟨nx, rt, bk, ct⟩ σ (Itr lo n) H :=
  for_range (lo := lo) (n := n) Pv p0 (fun i σ' H' hi p => hs i σ' H' hi p) hd
theorem lcK_tup {a : Addr} {xs : List V} {te : TE} {j : Nat} {ws : List Nat} (ys : List V) (hl : ys.length = xs.length) (h0 : SqT K H a xs) (hz : xs.length ≤ 40000)
    (hw : ∀ x, wipe ((wipe σ ws).set j (some x)) ws = wipe σ ws)
    (he : ∀ (i : Nat) (x y : V), xs[i]? = some x → ys[i]? = some y → ∀ H1, Ex H H1 → ∀ Q : VK, (∀ H2, Ex H1 H2 → Q y H2) → te ((wipe σ ws).set j (some x)) H1 Q)
    (q : ∀ p H', H p = none → Ex H H' → H' p = some (.lst ys) → Q (.ref p) H') : ∃ a', V.ref a = .ref a' ∧ (∃ xs, SqT K H a' xs) ∧ LcK (gName j) tYes te ws σ Q (Itt K a') H :=
  ⟨a, rfl, ⟨xs, h0⟩, lcK_gen (walk_tup (xs := xs)) ys hl (fun H' e => exU e h0) hz hw he q⟩
end
end Rb
/-! Ring beads: places from which the one kind stays ahead. -/
namespace Rb
open PySem PySem.Spec PyProof.Rows L2
/-! ### heights: one up for a bead of the kind a, t down for another -/
def hgt (t : Int) : Ring → Int
  | [] => 0
  | x :: r => (if x.1 then x.2 else -t * x.2) + hgt t r
theorem hgt_app (t : Int) (r s : Ring) : hgt t (r ++ s) = hgt t r + hgt t s := by
  induction r with
  | nil => simp [hgt]
  | cons x r ih => simp only [List.cons_append, hgt, ih]; omega
theorem hgt_take {t : Int} {r : Ring} {j : Nat} {x : Bool × Int} (h : r[j]? = some x) : hgt t (r.take (j + 1)) = hgt t (r.take j) + (if x.1 then x.2 else -t * x.2) := by
  rw [List.take_add_one, h, hgt_app]
  simp [hgt]
theorem hgt_eq (t : Int) : ∀ r : Ring, hgt t r = (t + 1) * mine r - t * size r
  | [] => by simp [hgt, mine, size]
  | x :: r => by
    have ih := hgt_eq t r
    simp only [hgt, mine, size, ih, Int.mul_add, Int.add_mul, Int.one_mul, Int.neg_mul]
    split
    · omega
    · simp only [Int.mul_zero]
      omega
theorem surplus_eq (t : Int) (r : Ring) : mine r - t * (size r - mine r) = hgt t r := by
  rw [hgt_eq, Int.mul_sub, Int.add_mul]
  omega
def hgts (t : Int) (r : Ring) : List Int := (List.range (r.length + 1)).map fun j => hgt t (r.take j)
theorem hgts_len (t : Int) (r : Ring) : (hgts t r).length = r.length + 1 := by simp [hgts]
theorem hgts_at {t : Int} {r : Ring} {j : Nat} (h : j ≤ r.length) : (hgts t r)[j]? = some (hgt t (r.take j)) := by
  unfold hgts
  rw [List.getElem?_map, List.getElem?_range (by omega)]
  rfl
theorem hgts_snoc {t : Int} {r : Ring} {n : Nat} {x : Bool × Int} (h : r[n]? = some x) : hgts t (r.take (n + 1)) = hgts t (r.take n) ++ [hgt t (r.take n) + (if x.1 then x.2 else -t * x.2)] := by
  have hn : n < r.length := (List.getElem?_eq_some_iff.mp h).1
  unfold hgts
  rw [List.length_take, List.length_take, Nat.min_eq_left (by omega), Nat.min_eq_left (by omega), List.range_succ (n := n + 1), List.map_append]
  have e : (List.range (n + 1)).map (fun j => hgt t ((r.take (n + 1)).take j)) = (List.range (n + 1)).map (fun j => hgt t ((r.take n).take j)) := by
    refine List.map_congr_left fun j hj => ?_
    rw [List.mem_range] at hj
    rw [List.take_take, List.take_take, Nat.min_eq_left (by omega), Nat.min_eq_left (by omega)]
  rw [e]
  simp only [List.map_cons, List.map_nil, List.take_take, Nat.min_self]
  rw [hgt_take h]
theorem hgts_mem {t : Int} {r : Ring} {z : Int} (h : z ∈ hgts t r) : ∃ i, i ≤ r.length ∧ z = hgt t (r.take i) := by
  obtain ⟨j, hj, rfl⟩ := List.mem_map.mp h
  exact ⟨j, by have := List.mem_range.mp hj; omega, rfl⟩
theorem mem_hgts {t : Int} {r : Ring} {i : Nat} (h : i ≤ r.length) : hgt t (r.take i) ∈ hgts t r := List.mem_of_getElem? (hgts_at h)
theorem hgts_tail_mem {t : Int} {r : Ring} {z : Int} : z ∈ (hgts t r).drop 1 ↔ ∃ i, 1 ≤ i ∧ i ≤ r.length ∧ z = hgt t (r.take i) := by
  constructor
  · intro h
    obtain ⟨k, hk⟩ := List.getElem?_of_mem h
    rw [List.getElem?_drop] at hk
    have hl := (List.getElem?_eq_some_iff.mp hk).1
    rw [hgts_len] at hl
    rw [hgts_at (by omega)] at hk
    exact ⟨1 + k, by omega, by omega, (Option.some.inj hk).symm⟩
  · rintro ⟨i, h1, h2, rfl⟩
    refine List.mem_of_getElem? (i := i - 1) ?_
    rw [List.getElem?_drop, show 1 + (i - 1) = i by omega, hgts_at h2]
theorem hgt_all (t : Int) (r : Ring) : hgt t (r.take r.length) = hgt t r := by rw [List.take_length]
/-- the lowest behind the begin; what a round adds to it -/
structure Low (t : Int) (r : Ring) (b : Int) : Prop where
  at_ : ∃ i, 1 ≤ i ∧ i ≤ r.length ∧ b = hgt t (r.take i)
  le : ∀ i, 1 ≤ i → i ≤ r.length → b ≤ hgt t (r.take i)
/-- the lowest of B and the heights behind the stretch j -/
def lwk (t : Int) (r : Ring) (B : Int) : Nat → Int
  | 0 => B
  | k + 1 => min (lwk t r B k) (hgt t (r.take (r.length - k)))
def lw (t : Int) (r : Ring) (B : Int) (j : Nat) : Int := lwk t r B (r.length - j)
theorem lw_last (t : Int) (r : Ring) (B : Int) : lw t r B r.length = B := by
  unfold lw
  rw [Nat.sub_self]
  rfl
theorem lw_step {t : Int} {r : Ring} {B : Int} {j : Nat} (h : j < r.length) : lw t r B j = min (lw t r B (j + 1)) (hgt t (r.take (j + 1))) := by
  unfold lw
  rw [show r.length - j = (r.length - (j + 1)) + 1 by omega, lwk, show r.length - (r.length - (j + 1)) = j + 1 by omega]
theorem lw_base {t : Int} {r : Ring} {B : Int} : ∀ (k j : Nat), j + k = r.length → lw t r B j ≤ B
  | 0, j, h => by
    rw [show j = r.length by omega, lw_last]
    exact Int.le_refl _
  | k + 1, j, h => by
    rw [lw_step (by omega)]
    have := lw_base (t := t) (r := r) (B := B) k (j + 1) (by omega)
    omega
theorem lw_le {t : Int} {r : Ring} {B : Int} : ∀ (k j i : Nat), j + k = r.length → j < i → i ≤ r.length → lw t r B j ≤ hgt t (r.take i)
  | 0, j, i, h, h1, h2 => by omega
  | k + 1, j, i, h, h1, h2 => by
    rw [lw_step (by omega)]
    by_cases e : i = j + 1
    · subst e
      omega
    · have := lw_le (t := t) (r := r) (B := B) k (j + 1) i (by omega) (by omega) h2
      omega
theorem lw_at {t : Int} {r : Ring} {B : Int} : ∀ (k j : Nat), j + k = r.length → lw t r B j = B ∨ ∃ i, j < i ∧ i ≤ r.length ∧ lw t r B j = hgt t (r.take i)
  | 0, j, h => .inl (by rw [show j = r.length by omega, lw_last])
  | k + 1, j, h => by
    rw [lw_step (by omega)]
    by_cases c : lw t r B (j + 1) ≤ hgt t (r.take (j + 1))
    · rw [show min (lw t r B (j + 1)) (hgt t (r.take (j + 1))) = lw t r B (j + 1) by omega]
      rcases lw_at (t := t) (r := r) (B := B) k (j + 1) (by omega) with e | ⟨i, h1, h2, e⟩
      · exact .inl e
      · exact .inr ⟨i, by omega, h2, e⟩
    · exact .inr ⟨j + 1, by omega, by omega, by omega⟩
/-- how many starts a stretch has, and what is reached ahead of it -/
def cnt1 (t : Int) (r : Ring) (B : Int) (j : Nat) (x : Bool × Int) : Int := if x.1 then min x.2 (max 0 (lw t r B j - hgt t (r.take j))) else 0
def mm (t : Int) (r : Ring) (B : Int) (j : Nat) : Int := min (hgt t (r.take j)) (lw t r B j)
theorem mm_next {t : Int} {r : Ring} {B : Int} {j : Nat} (h : j < r.length) : mm t r B (j + 1) = lw t r B j := by
  rw [lw_step h]
  unfold mm
  omega
theorem cnt1_eq {t : Int} (ht : 1 ≤ t) {r : Ring} (ok : Ok r) {B : Int} {j : Nat} {x : Bool × Int} (h : r[j]? = some x) : cnt1 t r B j x = mm t r B (j + 1) - mm t r B j ∧ 0 ≤ cnt1 t r B j x ∧ cnt1 t r B j x ≤ x.2 ∧ (x.1 = false → cnt1 t r B j x = 0) := by
  have hn := (List.getElem?_eq_some_iff.mp h).1
  have hx := ok.pos x (List.mem_of_getElem? h)
  have l := lw_le (t := t) (r := r) (B := B) (r.length - j) j (j + 1) (by omega) (by omega) (by omega)
  rw [hgt_take h] at l
  rw [mm_next hn]
  unfold cnt1 mm
  cases e : x.1
  · rw [e] at l
    simp only [Bool.false_eq_true, if_false] at l ⊢
    have m : 1 * 1 ≤ t * x.2 := Int.mul_le_mul ht hx (by decide) (by omega)
    rw [Int.neg_mul] at l
    exact ⟨by omega, by omega, by omega, fun _ => trivial⟩
  · rw [e] at l
    simp only [if_true] at l ⊢
    exact ⟨by omega, by omega, by omega, fun z => nomatch z⟩
/-- the surplus is above nothing; b the lowest behind the begin -/
structure Up (t : Int) (r : Ring) (b : Int) : Prop where
  ok : Ok r
  t1 : 1 ≤ t
  s : 0 < hgt t r
  low : Low t r b
theorem Up.first {t : Int} {r : Ring} {b : Int} (u : Up t r b) : mm t r (b + hgt t r) 0 = min 0 b := by
  have l0 := u.ok.len
  have e : lw t r (b + hgt t r) 0 = b := by
    obtain ⟨i, h1, h2, h3⟩ := u.low.at_
    have l := lw_le (t := t) (r := r) (B := b + hgt t r) r.length 0 i (by omega) (by omega) h2
    have s := u.s
    rcases lw_at (t := t) (r := r) (B := b + hgt t r) r.length 0 (by omega) with q | ⟨k, k1, k2, q⟩
    · omega
    · have := u.low.le k (by omega) k2
      omega
  unfold mm
  rw [e]
  simp [hgt]
theorem Up.last {t : Int} {r : Ring} {b : Int} (u : Up t r b) : mm t r (b + hgt t r) r.length = min 0 b + hgt t r := by
  unfold mm
  rw [lw_last, hgt_all]
  omega
theorem mm_mono {t : Int} {r : Ring} {b : Int} (u : Up t r b) : ∀ (k j : Nat), j + k ≤ r.length → mm t r (b + hgt t r) j ≤ mm t r (b + hgt t r) (j + k)
  | 0, j, _ => Int.le_refl _
  | k + 1, j, h => by
    have ih := mm_mono u k j (by omega)
    have c := cnt1_eq u.t1 u.ok (B := b + hgt t r) (List.getElem?_eq_getElem (show j + k < r.length by omega))
    rw [show j + (k + 1) = j + k + 1 by omega]
    omega
/-- a start at the height v -/
def StartH (t : Int) (r : Ring) (b p v : Int) : Prop := ∃ j x, r[j]? = some x ∧ x.1 = true ∧ size (r.take j) ≤ p ∧ p < size (r.take j) + x.2 ∧ v = hgt t (r.take j) + (p - size (r.take j)) ∧ v < lw t r (b + hgt t r) j
/-- by the numbers: what the walk over the parts finds -/
def PlaceOf (t : Int) (r : Ring) (b p v : Int) : Prop := ∃ j x, r[j]? = some x ∧ mm t r (b + hgt t r) j ≤ v ∧ v < mm t r (b + hgt t r) (j + 1) ∧ p = size (r.take j) + (v - mm t r (b + hgt t r) j)
theorem Up.place {t : Int} {r : Ring} {b p v : Int} (u : Up t r b) : PlaceOf t r b p v ↔ StartH t r b p v := by
  constructor
  · rintro ⟨j, x, hj, h1, h2, rfl⟩
    have hn := (List.getElem?_eq_some_iff.mp hj).1
    have c := cnt1_eq u.t1 u.ok (B := b + hgt t r) hj
    rw [mm_next hn] at h2 c
    have kx : x.1 = true := by
      cases e : x.1
      · have := c.2.2.2 e
        omega
      · rfl
    have em : mm t r (b + hgt t r) j = hgt t (r.take j) := by
      unfold mm at h1 ⊢
      omega
    rw [em] at c h1 ⊢
    exact ⟨j, x, hj, kx, by omega, by omega, by omega, h2⟩
  · rintro ⟨j, x, hj, kx, h1, h2, rfl, h3⟩
    have hn := (List.getElem?_eq_some_iff.mp hj).1
    refine ⟨j, x, hj, ?_, ?_, ?_⟩
    · unfold mm
      omega
    · rw [mm_next hn]
      exact h3
    · unfold mm
      omega
theorem Up.number {t : Int} {r : Ring} {b p v : Int} (u : Up t r b) (h : PlaceOf t r b p v) : min 0 b ≤ v ∧ v < min 0 b + hgt t r := by
  obtain ⟨j, x, hj, h1, h2, _⟩ := h
  have hn := (List.getElem?_eq_some_iff.mp hj).1
  have m1 := mm_mono u j 0 (by omega)
  have m2 := mm_mono u (r.length - (j + 1)) (j + 1) (by omega)
  rw [show j + 1 + (r.length - (j + 1)) = r.length by omega, u.last] at m2
  rw [u.first, Nat.zero_add] at m1
  omega
theorem Up.one {t : Int} {r : Ring} {b p p' v : Int} (u : Up t r b) (h : PlaceOf t r b p v) (h' : PlaceOf t r b p' v) : p = p' := by
  obtain ⟨j, x, hj, h1, h2, rfl⟩ := h
  obtain ⟨i, y, hi, g1, g2, rfl⟩ := h'
  have hn := (List.getElem?_eq_some_iff.mp hj).1
  have hm := (List.getElem?_eq_some_iff.mp hi).1
  by_cases e : j = i
  · subst e
    rfl
  · by_cases c : j < i
    · have := mm_mono u (i - (j + 1)) (j + 1) (by omega)
      rw [show j + 1 + (i - (j + 1)) = i by omega] at this
      omega
    · have := mm_mono u (j - (i + 1)) (i + 1) (by omega)
      rw [show i + 1 + (j - (i + 1)) = j by omega] at this
      omega
theorem size_mono {r : Ring} (ok : Ok r) {i j : Nat} (h : i ≤ j) : size (r.take i) ≤ size (r.take j) := by
  have e : r.take i = (r.take j).take i := by rw [List.take_take, Nat.min_eq_left h]
  have a := size_app ((r.take j).take i) ((r.take j).drop i)
  rw [List.take_append_drop, ← e] at a
  have l := size_len ((r.take j).drop i) fun x hx => ok.pos x (List.mem_of_mem_take (List.mem_of_mem_drop hx))
  omega
theorem Up.rise {t : Int} {r : Ring} {b p p' v v' : Int} (u : Up t r b) (h : PlaceOf t r b p v) (h' : PlaceOf t r b p' v') (lt : v < v') : p < p' := by
  obtain ⟨j, x, hj, h1, h2, rfl⟩ := h
  obtain ⟨i, y, hi, g1, g2, rfl⟩ := h'
  have hn := (List.getElem?_eq_some_iff.mp hj).1
  have hm := (List.getElem?_eq_some_iff.mp hi).1
  have c1 := cnt1_eq u.t1 u.ok (B := b + hgt t r) hj
  have s1 := size_take hj
  by_cases e : j = i
  · subst e
    omega
  · by_cases c : j < i
    · have := size_mono u.ok (show j + 1 ≤ i by omega)
      omega
    · have := mm_mono u (j - (i + 1)) (i + 1) (by omega)
      rw [show i + 1 + (j - (i + 1)) = j by omega] at this
      omega
/-- some stretch has it -/
theorem Up.there {t : Int} {r : Ring} {b v : Int} (u : Up t r b) (h0 : min 0 b ≤ v) (h1 : v < min 0 b + hgt t r) : ∃ p, PlaceOf t r b p v := by
  have go : ∀ k, k ≤ r.length → v < mm t r (b + hgt t r) k → ∃ p, PlaceOf t r b p v := by
    intro k
    induction k with
    | zero =>
      intro _ h
      rw [u.first] at h
      omega
    | succ k ih =>
      intro hk h
      by_cases c : v < mm t r (b + hgt t r) k
      · exact ih (by omega) c
      · exact ⟨_, k, r[k], List.getElem?_eq_getElem (by omega), by omega, h, rfl⟩
  exact go r.length (Nat.le_refl _) (by rw [u.last]; exact h1)
theorem StartH.range {t : Int} {r : Ring} {b p v : Int} (ok : Ok r) (h : StartH t r b p v) : 0 ≤ p ∧ p < size r := by
  obtain ⟨j, x, hj, _, h1, h2, _⟩ := h
  have hn := (List.getElem?_eq_some_iff.mp hj).1
  have s1 := size_take hj
  have s2 := size_mono ok (show j + 1 ≤ r.length by omega)
  have s3 := size_mono ok (show 0 ≤ j by omega)
  rw [List.take_length] at s2
  simp only [List.take_zero, size] at s3
  omega
end Rb
/-! Ring beads: the starts by an own look at each stretch's end, and bead by bead. -/
namespace Rb
open PySem PySem.Spec PyProof.Rows L2
/-- the height at a place -/
def hp (t : Int) (r : Ring) (p : Int) : Int := (t + 1) * ahead r p - t * p
theorem hp_at {t : Int} {r : Ring} (ok : Ok r) {j : Nat} {x : Bool × Int} {p : Int} (hj : r[j]? = some x) (h0 : size (r.take j) ≤ p) (h1 : p ≤ size (r.take j) + x.2) :
    hp t r p = hgt t (r.take j) + (if x.1 then p - size (r.take j) else -(t * (p - size (r.take j)))) := by
  unfold hp
  rw [ahead_at ok.pos hj h0 h1, hgt_eq]
  have e : t * p = t * size (r.take j) + t * (p - size (r.take j)) := by
    rw [← Int.mul_add]
    congr 1
    omega
  rw [e, Int.mul_add]
  generalize (t + 1) * mine (r.take j) = A
  cases x.1
  · simp only [Bool.false_eq_true, if_false, Int.mul_zero]
    omega
  · simp only [if_true]
    rw [Int.add_mul t 1 (p - size (r.take j))]
    omega
theorem size_end {r : Ring} (ok : Ok r) {i : Nat} (h : i ≤ r.length) : 0 ≤ size (r.take i) ∧ size (r.take i) ≤ size r := by
  have s1 := size_mono ok (show 0 ≤ i by omega)
  have s2 := size_mono ok h
  rw [List.take_length] at s2
  simp only [List.take_zero, size] at s1
  exact ⟨s1, s2⟩
theorem hp_end {t : Int} {r : Ring} (ok : Ok r) {i : Nat} (h : i ≤ r.length) : hp t r (size (r.take i)) = hgt t (r.take i) := by
  by_cases e : i < r.length
  · have hx := ok.pos r[i] (List.getElem_mem e)
    rw [hp_at ok (List.getElem?_eq_getElem e) (Int.le_refl _) (by omega), Int.sub_self, Int.mul_zero]
    split <;> omega
  · have e' : i = r.length := by omega
    subst e'
    unfold hp
    rw [List.take_length, ahead_size ok.pos, hgt_eq]
/-- within a stretch not below its ends -/
theorem hp_low {t : Int} (ht : 1 ≤ t) {r : Ring} (ok : Ok r) {j : Nat} {x : Bool × Int} {p : Int} (hj : r[j]? = some x) (h0 : size (r.take j) ≤ p) (h1 : p ≤ size (r.take j) + x.2) : min (hgt t (r.take j)) (hgt t (r.take (j + 1))) ≤ hp t r p := by
  rw [hp_at ok hj h0 h1, hgt_take hj]
  cases x.1
  · simp only [Bool.false_eq_true, if_false, Int.neg_mul]
    have : t * (p - size (r.take j)) ≤ t * x.2 := Int.mul_le_mul_of_nonneg_left (by omega) (by omega)
    omega
  · simp only [if_true]
    omega
/-! ### by each stretch's end -/
def EndsSay (t : Int) (r : Ring) (p : Int) : Prop := 1 ≤ hgt t r ∧ among r p 1 ≠ 0 ∧ ∀ i, i ≤ r.length → ¬ hgt t (r.take i) + (if size (r.take i) > p then 0 else hgt t r) ≤ hp t r p
theorem kind_of {r : Ring} (ok : Ok r) {j : Nat} {x : Bool × Int} {p : Int} (hj : r[j]? = some x) (h0 : size (r.take j) ≤ p) (h1 : p < size (r.take j) + x.2) : among r p 1 ≠ 0 ↔ x.1 = true := by
  have hn := (List.getElem?_eq_some_iff.mp hj).1
  have s0 := size_end ok (show j ≤ r.length by omega)
  have s1 := size_end ok (show j + 1 ≤ r.length by omega)
  rw [size_take hj] at s1
  rw [among_one ok.pos (by omega) (by omega), ahead_at ok.pos hj h0 (by omega), ahead_at ok.pos hj (p := p + 1) (by omega) (by omega)]
  cases x.1
  · simp
  · simp
    omega
theorem Up.ends {t : Int} {r : Ring} {b p : Int} (u : Up t r b) (h0 : 0 ≤ p) (h1 : p < size r) : EndsSay t r p ↔ StartH t r b p (hp t r p) := by
  have s := u.s
  constructor
  · rintro ⟨_, k1, k2⟩
    obtain ⟨j, x, hj, j0, j1⟩ := stretch_at h0 h1
    have hn := (List.getElem?_eq_some_iff.mp hj).1
    have kx := (kind_of u.ok hj j0 j1).mp k1
    have e := hp_at (t := t) u.ok hj j0 (by omega)
    rw [kx, if_pos rfl] at e
    refine ⟨j, x, hj, kx, j0, j1, e, ?_⟩
    rcases lw_at (t := t) (r := r) (B := b + hgt t r) (r.length - j) j (by omega) with q | ⟨i, i1, i2, q⟩
    · rw [q]
      obtain ⟨i, g1, g2, g3⟩ := u.low.at_
      have k := k2 i g2
      split at k <;> omega
    · rw [q]
      have m := size_mono u.ok (show j + 1 ≤ i by omega)
      rw [size_take hj] at m
      have k := k2 i i2
      rw [if_pos (by omega)] at k
      omega
  · intro hS
    have num := u.number (u.place.mpr hS)
    obtain ⟨j, x, hj, kx, j0, j1, e, l⟩ := hS
    have hn := (List.getElem?_eq_some_iff.mp hj).1
    refine ⟨by omega, (kind_of u.ok hj j0 j1).mpr kx, fun i hi => ?_⟩
    have hlow : min 0 b ≤ hgt t (r.take i) := by
      by_cases z : i = 0
      · subst z
        simp only [List.take_zero, hgt]
        omega
      · have := u.low.le i (by omega) hi
        omega
    split
    · rename_i c
      have ij : j < i := by
        by_cases z : j < i
        · exact z
        · have := size_mono u.ok (show i ≤ j by omega)
          omega
      have := lw_le (t := t) (r := r) (B := b + hgt t r) (r.length - j) j i (by omega) ij hi
      omega
    · omega
/-! ### bead by bead -/
def Good (t : Int) (r : Ring) (p : Int) : Prop := ∀ n : Nat, 1 ≤ n → (n : Int) ≤ size r → 0 < (t + 1) * among r p n - t * n
theorem step_in {t : Int} {r : Ring} (ok : Ok r) {p n : Int} (h0 : 0 ≤ p) (h1 : 0 ≤ n) (h2 : p + n ≤ size r) : (t + 1) * among r p n - t * n = hp t r (p + n) - hp t r p := by
  unfold among hp
  rw [upTo_le ok (by omega) h2, upTo_le ok h0 (by omega), Int.mul_sub, Int.mul_add t p n]
  omega
theorem step_over {t : Int} {r : Ring} (ok : Ok r) {p n : Int} (h0 : 0 ≤ p) (hp1 : p ≤ size r) (h1 : size r ≤ p + n) (h2 : p + n ≤ 2 * size r) : (t + 1) * among r p n - t * n = hgt t r + hp t r (p + n - size r) - hp t r p := by
  have W0 := ok.size_pos
  unfold among hp
  have u := upTo_round (r := r) (by omega) (p + n - size r) 1
  rw [show p + n - size r + size r * 1 = p + n by omega] at u
  rw [u, upTo_le ok (p := p + n - size r) (by omega) (by omega), upTo_le ok h0 hp1, hgt_eq, Int.mul_sub, Int.mul_add (t + 1), show 1 * mine r = mine r by omega, Int.mul_sub t (p + n), Int.mul_add t p n]
  omega
theorem Up.good {t : Int} {r : Ring} {b p : Int} (u : Up t r b) (h0 : 0 ≤ p) (h1 : p < size r) : Good t r p ↔ EndsSay t r p := by
  have s := u.s
  have ok := u.ok
  obtain ⟨j, x, hj, j0, j1⟩ := stretch_at h0 h1
  have hn := (List.getElem?_eq_some_iff.mp hj).1
  constructor
  · intro g
    refine ⟨by omega, ?_, fun i hi => ?_⟩
    · have := g 1 (Nat.le_refl _) (by omega)
      intro z
      have z' : among r p ((1 : Nat) : Int) = 0 := z
      rw [z', Int.mul_zero] at this
      have := u.t1
      omega
    · have se := size_end ok hi
      split
      · rename_i c
        have k := g (size (r.take i) - p).toNat (by omega) (by omega)
        rw [show (((size (r.take i) - p).toNat : Nat) : Int) = size (r.take i) - p by omega, step_in ok h0 (by omega) (by omega), show p + (size (r.take i) - p) = size (r.take i) by omega, hp_end ok hi] at k
        omega
      · rename_i c
        have k := g (size (r.take i) - p + size r).toNat (by omega) (by omega)
        rw [show (((size (r.take i) - p + size r).toNat : Nat) : Int) = size (r.take i) - p + size r by omega, step_over ok h0 (by omega) (by omega) (by omega), show p + (size (r.take i) - p + size r) - size r = size (r.take i) by omega, hp_end ok hi] at k
        omega
  · rintro ⟨_, k1, k2⟩ n n0 n1
    have kx := (kind_of ok hj j0 j1).mp k1
    have e := hp_at (t := t) ok hj j0 (by omega)
    rw [kx, if_pos rfl] at e
    by_cases c : p + n < size r
    · rw [step_in ok h0 (by omega) (by omega)]
      obtain ⟨i, y, hi, i0, i1⟩ := stretch_at (show 0 ≤ p + (n : Int) by omega) c
      have hm := (List.getElem?_eq_some_iff.mp hi).1
      by_cases q : i = j
      · subst q
        rw [hj] at hi
        cases hi
        rw [hp_at ok hj i0 (by omega), kx, if_pos rfl]
        omega
      · have ij : j < i := by
          by_cases z : j < i
          · exact z
          · have m := size_mono ok (show i + 1 ≤ j by omega)
            rw [size_take hi] at m
            omega
        have l := hp_low u.t1 ok hi i0 (by omega)
        have a1 := k2 i (by omega)
        have a2 := k2 (i + 1) (by omega)
        have m1 := size_mono ok (show j + 1 ≤ i by omega)
        have m2 := size_mono ok (show i ≤ i + 1 by omega)
        rw [size_take hj] at m1
        rw [if_pos (by omega)] at a1 a2
        omega
    · rw [step_over ok h0 (by omega) (by omega) (by omega)]
      by_cases c2 : p + n = size r + p
      · rw [show p + (n : Int) - size r = p by omega]
        omega
      · obtain ⟨i, y, hi, i0, i1⟩ := stretch_at (show 0 ≤ p + (n : Int) - size r by omega) (show p + (n : Int) - size r < size r by omega)
        have hm := (List.getElem?_eq_some_iff.mp hi).1
        have a1 := k2 i (by omega)
        by_cases q : i = j
        · subst q
          rw [hj] at hi
          cases hi
          rw [hp_at ok hj i0 (by omega), kx, if_pos rfl]
          rw [if_neg (by omega)] at a1
          omega
        · have ij : i < j := by
            by_cases z : i < j
            · exact z
            · have m := size_mono ok (show j + 1 ≤ i by omega)
              rw [size_take hj] at m
              omega
          have l := hp_low u.t1 ok hi i0 (by omega)
          have a2 := k2 (i + 1) (by omega)
          have m1 := size_mono ok (show i + 1 ≤ j by omega)
          have m2 := size_mono ok (show i ≤ i + 1 by omega)
          rw [if_neg (by omega)] at a1 a2
          omega
/-- without a surplus no place is a start -/
theorem good_none {t : Int} {r : Ring} (ok : Ok r) (h : ¬ 0 < hgt t r) {p : Int} (h0 : 0 ≤ p) (h1 : p < size r) : ¬ Good t r p := by
  intro g
  have W0 := ok.size_pos
  have k := g (size r).toNat (by omega) (by omega)
  rw [show (((size r).toNat : Nat) : Int) = size r by omega, step_over ok h0 (by omega) (by omega) (by omega), show p + size r - size r = p by omega] at k
  omega
theorem ends_none {t : Int} {r : Ring} (h : ¬ 0 < hgt t r) {p : Int} : ¬ EndsSay t r p := fun g => h (by have := g.1; omega)
end Rb
/-! Ring beads: set(xs) of a list of whole numbers (turned from the kit's rule for a tuple), sorted(set). -/
namespace Rb
open PySem PySem.Spec PyProof.Rows L2
section
variable {P : Program} {w : World} {A : Around} {E : Value → Shared → Prop} {s : Shared}
/-- a set just made -/
abbrev so (w : World) : Obj := { cls := .type "set", dict := none, data := .set #[] 0 (.fresh 0 0 (!w.params.followText "set-order")) }
set_option maxHeartbeats 3200000 in
theorem call_setL {l : Addr} {items : Array Value} (ns : List Int) {Q : Value → Shared → Prop} (hh : A.handled = none) (hl : s.heap.IsList l items) (hit : IntsAre items.toList ns) (hb : ns.length + 1 < scanBound)
    (h : ∀ (h' : Heap) (tk c : Nat), SetR w h' s.heap.objs.size (fun j => decide (j ∈ ns)) c → c ≤ ns.length → (∀ b o, s.heap.get? b = some o → h'.get? b = some o) → Q (.ref s.heap.objs.size) { s with heap := h', toks := tk }) :
    wpAny (model P w) A (call (.type "set") [.ref l]) Q E s := by
  have sz : items.size = ns.length := by
    have q := IntsAre.length hit
    rw [Array.length_toList] at q
    exact q
  obtain ⟨c, tl, hmro⟩ := F.called_set.mro
  have hmade := F.called_set.made
  have hsub := F.called_set.sub
  have h1 := F.called_set.notType
  have h2 := F.called_set.canCreate
  have hct := F.typeCall_set_1 (.ref l)
  refine wpAny_call (codeAny_of_tree ?_)
  show wpAny _ _ (callAny (.type "set") _) _ _ _
  refine wpAny_pure ⟨Code.quiet_builtin _ (by decide +kernel), codeAny_builtin F.entry_type_call ?_⟩
  rw [Around.under_plain (weight_type_call_type "set" [.ref l] []) rfl]
  repeat (any_goals (first | assumption | wp_step))
  refine codeAny_mono (code_set_led1 (.ref l) (E := E) (Q₁ := fun obj s₁ => obj = .ref s.heap.objs.size ∧ s₁ = { s with heap := s.heap.push (so w) }) ⟨rfl, rfl⟩) fun r s₁ hr => ?_
  cases r with
  | error e => exact hr
  | ok fl =>
    cases fl with
    | ret obj =>
      obtain ⟨rfl, rfl⟩ := hr
      have hS : (s.heap.push (so w)).get? s.heap.objs.size = some (so w) := Heap.get?_push_size _ rfl
      have hT : Shared.TypeIs { s with heap := s.heap.push (so w) } (.ref s.heap.objs.size) "set" := ⟨_, hS, rfl⟩
      have hli := F.called_set.init.lookup
      have hbi := F.called_set.init.bind (.ref s.heap.objs.size)
      repeat (any_goals (first | assumption | wp_step))
      refine codeAny_mono (codeAny_call_builtin (R := wants (fun r s₂ => r = .none ∧ ∃ h' tk c, s₂ = { s with heap := h', toks := tk } ∧ SetR w h' s.heap.objs.size (fun j => decide (j ∈ ns)) c ∧ c ≤ ns.length ∧
          (∀ b o, s.heap.get? b = some o → h'.get? b = some o)) E) F.called_set.init.plain F.entry_set_init (check_set_init_1 hT ?_)) fun r₂ s₂ hr₂ => ?_
      · obtain ⟨⟨oc, od, da, os⟩, hol, hcl, nl, hdl⟩ := hl
        simp only at hcl hdl
        subst hcl; subst hdl
        have hol' : (s.heap.push (so w)).get? l = some { cls := .type "list", dict := od, data := .seq items nl, slots := os } := Heap.get?_push_of_some _ hol
        have hsls := F.sub_list_set
        have hslf := F.sub_list_frozenset
        have hne : (Value.type "list" == Value.type "dict") = false := by decide
        have hl1 : (s.heap.push (so w)).IsList l items := ⟨_, hol', rfl, nl, rfl⟩
        unfold Builtin.«set.__init__» noKeywords Builtin.Frozenset.updateFrom
        generalize hPI : pyIter = PI
        wp_walk
        subst hPI
        refine wpAny_pyIter_list hl1 ?_
        refine wpAny_bind (wpAny_runValue ?_)
        have hlS : l < s.heap.objs.size := Heap.lt_size hol
        have hh3 : A.in1.in1.in1.handled = none := by simp [hh]
        have hneI : l ≠ (s.heap.push (so w)).objs.size := by
          rw [Heap.size_push]; exact Nat.ne_of_lt (Nat.lt_succ_of_lt hlS)
        have hSf : s.heap.objs.size ∉ [(s.heap.push (so w)).objs.size, l] := by
          rw [Heap.size_push]; simp only [List.mem_cons, List.mem_singleton, List.not_mem_nil, or_false, not_or]
          exact ⟨Nat.ne_of_lt (Nat.lt_succ_self _), Nat.ne_of_gt hlS⟩
        have hval : ∀ (i : Nat) (v : Value), items[i]? = some v → ∃ k t, ns[i]? = some k ∧ v = .int k t := fun i v hv => by
          have hi : i < ns.length := by rw [← sz]; exact (Array.getElem?_eq_some_iff.mp hv).1
          obtain ⟨t, e⟩ := PyProof.Rows.IntsAre.int_at hit i v (by rw [Array.getElem?_toList]; exact hv)
          refine ⟨ns[i], t, List.getElem?_eq_getElem hi, ?_⟩
          rw [e, List.getD_eq_getElem?_getD, List.getElem?_eq_getElem hi] <;> rfl
        refine set_update_ints ((Walks.list hh3 _ l hneI items).toS) s.heap.objs.size
          hSf ns sz hb hval (items.size - 0) 0 _ (by omega) (Nat.zero_le _)
          ⟨⟨_, Heap.get?_push_size _ rfl, rfl, rfl⟩, (hl1.push _)⟩ ?hS0 ?hR
        case hS0 => exact ⟨0, Nat.le_refl 0, setR_new_at (Heap.get?_push_of_some _ hS)⟩
        case hR =>
          intro s' c' hm hc' hS'
          obtain ⟨h', g2, d', tk', os'⟩ := s'
          have eg : g2 = s.gens := hm.gens
          have ed : d' = s.drawn := hm.drawn
          have eo : os' = s.os := hm.os
          subst eg; subst ed; subst eo
          show wpAny _ _ _ _ _ _
          refine wpAny_pure ?_
          show wpAny _ _ (ret Value.none) _ _ _
          rw [sz] at hc'
          refine wpAny_pure ⟨rfl, h', tk', c', rfl, hS', hc', fun b o e => ?_⟩
          have hb0 : b < s.heap.objs.size := Heap.lt_size e
          have hb2 : b ≠ (s.heap.push (so w)).objs.size := by
            rw [Heap.size_push]; exact Nat.ne_of_lt (Nat.lt_succ_of_lt hb0)
          exact hm.heap b o (by simp only [List.mem_cons, List.mem_singleton, List.not_mem_nil, or_false, not_or]; exact ⟨Nat.ne_of_lt hb0, hb2⟩) (Heap.get?_push_of_some _ (Heap.get?_push_of_some _ e))
      · cases r₂ with
        | error e => exact hr₂
        | ok fl₂ =>
          cases fl₂ with
          | ret r =>
            obtain ⟨rfl, h', tk, c', rfl, hS', hc', hk'⟩ := hr₂
            repeat (any_goals (first | assumption | wp_step))
            exact h _ _ _ hS' hc' hk'
          | _ => exact hr₂.elim
    | _ => exact hr.elim
end
section
variable {X : Cx}
/-- set(xs); what it holds -/
def rSetL (K : PySem.W.Frag) (w : World) : List V → Hp → VK → Prop := fun xs H Q => ∃ (l : Addr) (ns : List Int), xs = [V.ref l] ∧ SqL K H l (ns.map V.int) ∧ ns.length ≤ 1000 ∧ ∀ a c, H a = none → c ≤ ns.length → Q (.ref a) (upd H a (SetO w a (fun j => decide (j ∈ ns)) c))
theorem cr_setL (hc : X.calm = true) : CallR X (.type "set") (rSetL X.K X.w) := by
  intro pins s σ H xs us Q I r h
  obtain ⟨l, ns, rfl, hl, hf, q⟩ := h
  rw [Vals.ref1 r]
  obtain ⟨its, rv, pl, hz⟩ := I.list hl
  have hn : H s.heap.objs.size = none := I.hok.fresh (Nat.le_refl _)
  refine call_setL (P := X.prog) (w := X.w) ns (I.ok.hd hc) pl.isList (ints_of_vals rv) (by unfold scanBound; omega) fun h' tk c R hcn k => ?_
  exact ⟨.ref s.heap.objs.size, upd H s.heap.objs.size (SetO X.w s.heap.objs.size (fun j => decide (j ∈ ns)) c), I.laid (t' := tk) k (Nat.le_refl _) (setO_new R), rfl, q _ c hn hcn⟩
end
section
variable {K : PySem.W.Frag} {w : World} {H : Hp} {Q : VK}
/-- a set of the members ns -/
def SetIs (w : World) (H : Hp) (a : Addr) (ns : List Int) : Prop := ∃ c, c ≤ ns.length ∧ H a = some (SetO w a (fun j => decide (j ∈ ns)) c)
theorem r_setL {l : Addr} {ns : List Int} (h : SqL K H l (ns.map V.int)) (n : ns.length ≤ 1000) (q : ∀ a H', H a = none → Ex H H' → SetIs w H' a ns → Q (.ref a) H') : rSetL K w [.ref l] H Q :=
  ⟨l, ns, rfl, h, n, fun a c hn hc => q a _ hn (exN hn) ⟨c, hc, upd_same⟩⟩
theorem r_sortedS {a : Addr} {ns : List Int} (h : SetIs w H a ns) (n : ns.length < 64) (q : ∀ (p : Addr) (out : List Int) H', H p = none → Ex H H' → H' p = some (.lst (out.map V.int)) → out.Pairwise (· < ·) → (∀ k, k ∈ out ↔ k ∈ ns) → Q (.ref p) H') : rSortedSet w [.ref a] H Q := by
  obtain ⟨c, hc, ha⟩ := h
  exact ⟨a, _, c, rfl, ha, by omega, fun out p up mem _ hp => q p out _ hp (exN hp) upd_same up fun k => (mem k).trans decide_eq_true_iff⟩
end
end Rb
/-! Ring beads: lists of pairs that grow, walks over texts, backward ranges, lists of whole numbers as data. -/
namespace Rb
open PySem PySem.Spec PyProof.Rows L2
section
variable {K : PySem.W.Frag} {H : Hp}
theorem PairsAt.nil {q : Addr} (h : H q = some (.lst [])) : PairsAt K H q [] := ⟨[], h, rfl, fun i x hx => by simp at hx⟩
theorem PairsAt.snoc {q p : Addr} {xs : List (V × V)} {vs : List V} {x y : V} (h : PairsAt K H q xs) (hv : H q = some (.lst vs)) (hp : H p = some (.tup [x, y])) : PairsAt K (upd H q (.lst (vs ++ [.ref p]))) q (xs ++ [(x, y)]) := by
  obtain ⟨ws, h1, h2, h3⟩ := h
  rw [h1] at hv
  cases hv
  have ne : ∀ {t : Addr} {xs : List V}, H t = some (.tup xs) → t ≠ q := fun ht => ne_of ht h1 (by intro z; cases z)
  refine ⟨_, upd_same, by simp [h2], fun i z hz => ?_⟩
  by_cases hi : i < xs.length
  · rw [List.getElem?_append_left hi] at hz
    obtain ⟨t, z1, z2⟩ := h3 i z hz
    exact ⟨t, by rw [List.getElem?_append_left (by omega)]; exact z1, by rw [upd_ne (ne z2)]; exact z2⟩
  · have e : i = xs.length := by
      have := (List.getElem?_eq_some_iff.mp hz).1
      simp at this
      omega
    subst e
    have ez : z = (x, y) := by
      rw [List.getElem?_append_right (by simp)] at hz
      simpa using hz.symm
    subst ez
    refine ⟨p, ?_, by rw [upd_ne (ne hp)]; exact hp⟩
    rw [List.getElem?_append_right (by omega)]
    simp [h2]
theorem PairsAt.lst {q : Addr} {xs : List (V × V)} (h : PairsAt K H q xs) : ∃ vs, H q = some (.lst vs) ∧ vs.length = xs.length := by
  obtain ⟨vs, h1, h2, _⟩ := h
  exact ⟨vs, h1, h2⟩
theorem PairsAt.rev {q l : Addr} {xs : List (V × V)} {vs : List V} (h : PairsAt K H q xs) (hq : H q = some (.lst vs)) (hl : H l = some (.lst vs.reverse)) : PairsAt K H l xs.reverse := by
  obtain ⟨ws, h1, h2, h3⟩ := h
  rw [h1] at hq
  cases hq
  refine ⟨_, hl, by simp [h2], fun i x hx => ?_⟩
  have hi := (List.getElem?_eq_some_iff.mp hx).1
  rw [List.length_reverse] at hi
  rw [List.getElem?_reverse hi] at hx
  obtain ⟨p, z1, z2⟩ := h3 _ x hx
  exact ⟨p, by rw [List.getElem?_reverse (by omega), h2]; exact z1, z2⟩
/-- pairs of whole numbers -/
def iiV (x : Int × Int) : V × V := (.int x.1, .int x.2)
def PartsAt (K : PySem.W.Frag) (H : Hp) (a : Addr) (ps : List (Int × Int)) : Prop := PairsAt K H a (ps.map iiV)
theorem PartsAt.ex {H' : Hp} {a : Addr} {ps : List (Int × Int)} (e : Ex H H') (h : PartsAt K H a ps) : PartsAt K H' a ps := PairsAt.ex e h
theorem PartsAt.snoc {q p : Addr} {ps : List (Int × Int)} {vs : List V} {x y : Int} (h : PartsAt K H q ps) (hv : H q = some (.lst vs)) (hp : H p = some (.tup [.int x, .int y])) : PartsAt K (upd H q (.lst (vs ++ [.ref p]))) q (ps ++ [(x, y)]) := by
  unfold PartsAt
  rw [List.map_append]
  exact PairsAt.snoc h hv hp
theorem PartsAt.lst {q : Addr} {ps : List (Int × Int)} (h : PartsAt K H q ps) : ∃ vs, H q = some (.lst vs) ∧ vs.length = ps.length := by
  obtain ⟨vs, h1, h2⟩ := PairsAt.lst h
  exact ⟨vs, h1, by rw [h2, List.length_map]⟩
theorem PartsAt.rev {q l : Addr} {ps : List (Int × Int)} {vs : List V} (h : PartsAt K H q ps) (hq : H q = some (.lst vs)) (hl : H l = some (.lst vs.reverse)) : PartsAt K H l ps.reverse := by
  unfold PartsAt
  rw [List.map_reverse]
  exact PairsAt.rev h hq hl
/-- the stretch at j -/
theorem RingAt.at {a : Addr} {r : Ring} {j : Nat} {x : Bool × Int} (h : RingAt K H a r) (hj : r[j]? = some x) : ∃ vs p, SqL K H a vs ∧ atI vs (j : Int) = some (.ref p) ∧ H p = some (.tup [.str (kS x.1), .int x.2]) := by
  obtain ⟨vs, h1, h2, h3⟩ := h
  obtain ⟨p, z1, z2⟩ := h3 j (prV x) (by rw [List.getElem?_map, hj]; rfl)
  exact ⟨vs, p, .of h1, atI_nat z1, z2⟩
/-- [(x, y) for ..]: each turn a new pair -/
theorem lcK_out {J : It} {n : Nat} {G : Hp → Prop} {P : Nat → V → Prop} (w : Walk J n G fun i H x H' => H' = H ∧ P i x) {te : TE} {j : Nat} {ws : List Nat} {σ : L2.St} {Q : VK} (ys : List (V × V)) (hl : ys.length = n) (hG : ∀ H', Ex H H' → G H') (hz : n ≤ 40000)
    (hw : ∀ x, wipe ((wipe σ ws).set j (some x)) ws = wipe σ ws)
    (he : ∀ (i : Nat) (x : V) (y : V × V), P i x → ys[i]? = some y → ∀ H1, Ex H H1 → ∀ Q : VK, (∀ p H2, Ex H1 H2 → H2 p = some (.tup [y.1, y.2]) → Q (.ref p) H2) → te ((wipe σ ws).set j (some x)) H1 Q)
    (q : ∀ p H', H p = none → Ex H H' → PairsAt K H' p ys → Q (.ref p) H') : LcK (gName j) tYes te ws σ Q J H := by
  intro Dl hD
  refine lc_it w (fun m H' => Ex H H' ∧ PairsAt K H' Dl (ys.take m)) ⟨exN hD, .nil upd_same⟩ (fun m H' _ p => hG _ p.1) (fun m x H' H'' hm p y => ?_) (fun H' p => ?_)
  · obtain ⟨rfl, hy⟩ := y
    have hm' : m < ys.length := hl ▸ hm
    refine ⟨hw _, r_yes (iteT ?_)⟩
    refine he m x ys[m] hy (List.getElem?_eq_getElem hm') _ p.1 _ fun t H2 e2 ht => ?_
    obtain ⟨vs, hv, hvl⟩ := (p.2.ex e2).lst
    refine ⟨vs, hv, ?_, exM (exT e2 p.1) hD, ?_⟩
    · rw [hvl, List.length_take]
      exact Evl.sz_lt (by omega)
    · rw [List.take_add_one, List.getElem?_eq_getElem hm']
      exact (p.2.ex e2).snoc hv ht
  · refine q Dl H' hD p.1 ?_
    have z := p.2
    rw [← hl, List.take_length] at z
    exact z
/-- [e for x, y in zip(whole numbers, whole numbers)] -/
theorem lcK_zipI {a b : Addr} {xs ys : List Int} {te : TE} {i j : Nat} {ws : List Nat} {σ : L2.St} {Q : VK} (zs : List V) (hz : zs.length = xs.length) (h1 : SqL K H a (xs.map V.int)) (h2 : SqL K H b (ys.map V.int)) (hl : ys.length = xs.length) (few : xs.length ≤ 40000)
    (hw : ∀ x y, wipe (((wipe σ ws).set i (some x)).set j (some y)) ws = wipe σ ws)
    (he : ∀ (n : Nat) (x y : Int) (z : V), xs[n]? = some x → ys[n]? = some y → zs[n]? = some z → ∀ H1, Ex H H1 → ∀ Q : VK, (∀ H2, Ex H1 H2 → Q z H2) → te (((wipe σ ws).set i (some (.int x))).set j (some (.int y))) H1 Q)
    (q : ∀ p H', H p = none → Ex H H' → H' p = some (.lst zs) → Q (.ref p) H') : ∃ a' b' xs ys, [V.ref a, V.ref b] = [.ref a', .ref b'] ∧ SqL K H a' xs ∧ SqL K H b' ys ∧ LcK (gPair K i j) tYes te ws σ Q (Itz K a' b') H := by
  refine ⟨a, b, _, _, rfl, h1, h2, fun Dl hD => ?_⟩
  refine lc_it (walk_zip (xs := xs.map V.int) (ys := ys.map V.int) (n := xs.length) (by rw [List.length_map, List.length_map]; omega)) (fun m H' => Ex H H' ∧ H' Dl = some (.lst (zs.take m))) ⟨exN hD, upd_same⟩ (fun m H' _ p => ⟨exL p.1 h1, exL p.1 h2⟩) (fun m x H' H'' hm p y => ?_) (fun H' p => ?_)
  · obtain ⟨T, u, v, rfl, hT, rfl, ex, ey⟩ := y
    change (xs.map V.int)[m]? = some u at ex
    change (ys.map V.int)[m]? = some v at ey
    rw [List.getElem?_map] at ex ey
    cases q1 : xs[m]? with
    | none => rw [q1] at ex; cases ex
    | some c =>
      cases q2 : ys[m]? with
      | none => rw [q2] at ey; cases ey
      | some d =>
        rw [q1] at ex
        rw [q2] at ey
        cases ex
        cases ey
        have hm' : m < zs.length := hz ▸ hm
        refine g_pair (.of upd_same) ⟨hw _ _, r_yes (iteT ?_)⟩
        have e1 : Ex H (upd H' T (.tup [.int c, .int d])) := exT (exN hT) p.1
        refine he m c d zs[m] q1 q2 (List.getElem?_eq_getElem hm') _ e1 _ fun H2 e2 => ⟨_, e2 _ _ (exN hT _ _ p.2), ?_, exM (exT e2 e1) hD, ?_⟩
        · rw [List.length_take]
          exact Evl.sz_lt (by omega)
        · rw [upd_same, List.take_add_one, List.getElem?_eq_getElem hm']
          rfl
  · refine q Dl H' hD p.1 ?_
    rw [p.2, ← hz, List.take_length]
/-- for c in a text of beads -/
theorem cd_kS (b : Bool) : kS b = ⟨#[cd b]⟩ := by cases b <;> decide +kernel
theorem forK_txt {l : List Bool} {j : Nat} {tb : TS} {nx : L2.St → Hp → Prop} {rt : VK} {bk ct : L2.St → Hp → Prop} {σ : L2.St} (Pv : Nat → L2.St → Hp → Prop) (p0 : Pv 0 σ H)
    (hs : ∀ n b σ' H', l[n]? = some b → Pv n σ' H' → tb ⟨Pv (n + 1), rt, nx, Pv (n + 1)⟩ (σ'.set j (some (.str (kS b)))) H')
    (hd : ∀ σ' H', Pv l.length σ' H' → nx σ' H') : ∃ x, V.str (txt l) = .str x ∧ ForK (gName j) tb ⟨nx, rt, bk, ct⟩ σ (Its x) H := by
  refine ⟨_, rfl, for_it walk_str Pv p0 (fun _ _ _ _ _ => trivial) (fun n x σ' H' H'' hn p y => ?_) (fun σ' H' p => hd σ' H' ?_)⟩
  · obtain ⟨rfl, c, hc, rfl⟩ := y
    have e : (txt l).cps[n]? = (l[n]?).map cd := by
      unfold txt SX.S
      simp
    rw [e] at hc
    cases q : l[n]? with
    | none => rw [q] at hc; cases hc
    | some b =>
      rw [q] at hc
      cases hc
      rw [← cd_kS]
      exact hs n b σ' _ q p
  · have e : (txt l).cps.size = l.length := txt_len l
    rw [e] at p
    exact p
theorem r_iS {te : TE} {σ : L2.St} {R : It → Hp → Prop} (q : te σ H fun v H1 => ∃ x, v = .str x ∧ R (Its x) H1) : iStr te σ H R := q
/-- backward -/
theorem r_rng3 {ta : TA} {σ : L2.St} {R : It → Hp → Prop} (q : ta σ H fun vs H1 => ∃ (i j c : Int) (n : Nat), vs = [.int i, .int j, .int c] ∧ RgC i j c n ∧ R (Itc i c n) H1) : iRng3 ta σ H R := q
theorem r_rng3b {i : Int} {n : Nat} {R : It → Hp → Prop} (hi : i = (n : Int) - 1) (hn : n < 1000000) (q : R (Itc i (-1) n) H) : ∃ (i' j' c' : Int) (n' : Nat), [V.int i, V.int (-1), V.int (-1)] = [.int i', .int j', .int c'] ∧ RgC i' j' c' n' ∧ R (Itc i' c' n') H :=
  ⟨i, -1, -1, n, rfl, by
    have z := RgC.neg (i := i) (j := -1) (by omega) (by omega) (by omega) (by omega)
    rw [show (i - -1).toNat = n by omega] at z
    exact z, q⟩
theorem forK_rngC {lo : Int} {n : Nat} {j : Nat} {tb : TS} {nx : L2.St → Hp → Prop} {rt : VK} {bk ct : L2.St → Hp → Prop} {σ : L2.St} (Pv : Nat → L2.St → Hp → Prop) (p0 : Pv 0 σ H)
    (hs : ∀ i σ' H', i < n → Pv i σ' H' → tb ⟨Pv (i + 1), rt, nx, Pv (i + 1)⟩ (σ'.set j (some (.int (lo + (i : Nat) * -1)))) H')
    (hd : ∀ σ' H', Pv n σ' H' → nx σ' H') : ForK (gName j) tb ⟨nx, rt, bk, ct⟩ σ (Itc lo (-1) n) H :=
  for_rangeC (lo := lo) (c := -1) (n := n) Pv p0 (fun i σ' H' hi p => hs i σ' H' hi p) hd
theorem txt_from {l : List Bool} {p : Nat} (h : p ≤ l.length) : cutS (txt l) (some (p : Int)) none = txt (l.drop p) := by
  have e : (txt l).length = l.length := txt_len l
  unfold cutS
  rw [show HT.sIx (txt l).length 0 (some (p : Int)) = min p (txt l).length from HT.sIx_nat _ _ _, HT.sIx_none, e, Nat.min_eq_left h]
  have q : (txt l).cps.toList = l.map cd := by simp [txt, SX.S]
  rw [q, List.take_of_length_le (by simp), ← List.map_drop]
  rfl
theorem txt_to {l : List Bool} {p : Nat} (h : p ≤ l.length) : cutS (txt l) none (some (p : Int)) = txt (l.take p) := by
  have e : (txt l).length = l.length := txt_len l
  unfold cutS
  rw [show HT.sIx (txt l).length (txt l).length (some (p : Int)) = min p (txt l).length from HT.sIx_nat _ _ _, HT.sIx_none, e, Nat.min_eq_left h, List.drop_zero, Nat.sub_zero]
  have q : (txt l).cps.toList = l.map cd := by simp [txt, SX.S]
  rw [q, ← List.map_take]
  rfl
/-- xs[::-1] -/
def rRevL (K : PySem.W.Frag) (x : V) (H1 : Hp) (Q : VK) : Prop := ∃ a xs, x = .ref a ∧ SqL K H1 a xs ∧ ∀ p, H1 p = none → Q (.ref p) (upd H1 p (.lst xs.reverse))
theorem r_rev {te : TE} {σ : L2.St} {Q : VK} (q : te σ H fun x H1 => rRevL K x H1 Q) : tRevL K te σ H Q := q
theorem r_revL {a : Addr} {xs : List V} {Q : VK} (h : SqL K H a xs) (q : ∀ p H', H p = none → Ex H H' → H' p = some (.lst xs.reverse) → Q (.ref p) H') : rRevL K (.ref a) H Q := ⟨a, xs, rfl, h, fun p hp => q p _ hp (exN hp) upd_same⟩
/-! ### whole numbers in a list, as data -/
def inD (ns : List Int) : PyData := .list (ns.map PyData.int)
theorem inD_all (ns : List Int) : PyData.canLayAll0 (ns.map PyData.int) = true ∧ PyData.depthAll (ns.map PyData.int) ≤ 0 := by
  induction ns with
  | nil => exact ⟨by simp [PyData.canLayAll0], by simp [PyData.depthAll]⟩
  | cons x r ih =>
    refine ⟨?_, ?_⟩
    · rw [List.map_cons, PyData.canLayAll0, ih.1, PyData.canLay0]
      rfl
    · rw [List.map_cons, PyData.depthAll, PyData.depth]
      have := ih.2
      omega
theorem inD_shaped (ns : List Int) : SeqAt.shaped (inD ns) = true := by
  have h := inD_all ns
  unfold SeqAt.shaped inD
  rw [PyData.canLay0, h.1, PyData.depth]
  have := h.2
  exact decide_eq_true (by omega)
theorem inD_same (ns : List Int) : PyData.eqv (inD ns) (inD ns) = true := SeqAt.eqv_refl _ (by
  unfold inD
  rw [PyData.canLay0]
  exact (inD_all ns).1)
theorem dp_ints : ∀ {p : Addr} {ns : List Int}, SqL K H p (ns.map V.int) → Dp K H (.ref p) (inD ns) := fun {p ns} h => by
  refine Dp.lst h ?_
  clear h
  induction ns with
  | nil => exact .nil
  | cons n ns ih => exact .cons (.int _) ih
end
end Rb
/-! Ring beads: defs that raise, by their names; the caught error asked in another def; things of any kind. -/
namespace Rb
open PySem PySem.Spec PyProof.Rows L2
/-- a def that may raise, called by its name -/
def CalX (P : Program) (w : World) (K : PySem.W.Frag) (mg : Str → Option Value) (base : Heap) (k : Nat) (x : Str) (sp : Sp) : Prop :=
  ∃ f fd ps, FnOk P w K mg base (L2.CX P w) k f fd ps sp ∧ mg x = some (.ref f) ∧ PySem.W.keepIn K (.ref f) = true ∧ Binds K fd ps []
section
variable {P : Program} {w : World} {K : PySem.W.Frag} {mg : Str → Option Value} {base : Heap}
theorem calX {x : Str} {st : Stmt} {N ps : List Str} {k : Nat} {sp : Sp} (D : Dfn K mg x st ps) (S : FnScope N ps (defScope st)) (len : ∀ vs H Q E, sp vs H Q E → vs.length = ps.length)
    (hbody : ∀ (f : Addr) (cdv : Value) (A : Around) (outer : List Env) (s : Shared) (H : Hp) (vs : List V) (Q : VK) (E : XK), Room k (A.deeper (envOfC x (defScope st) s.heap.objs.size f cdv)) → sp vs H Q E →
      ∃ t, PSs (cxOf (L2.CX P w) P w K mg base N x (defScope st) f cdv A outer s H E) (defBody st) t ∧ t { nx := fun _ H' => Q .non H', rt := Q } (start N vs) H) : CalX P w K mg base (k + 1) x sp := by
  obtain ⟨f, fd, F, b, g⟩ := D
  exact ⟨f, fd, ps, F.okX S len fun cdv A outer s H vs Q E hr h => hbody f cdv A outer s H vs Q E hr h, g, F.kp, b⟩
end
section
variable {X : Cx} {W : WX} {k j : Nat} {x : Str} {sp : Sp} {p pos : Pos} {e : Expr} {es : List Expr} {t : TA}
/-- .. called where W takes what it raises -/
theorem pe_cx (tk : Takes X W) (c : CalX X.prog X.w X.K X.mg X.base k x sp) (hr : Room j X.A) (hk : k ≤ j) (hg : Gl X x) (ha : PA X (e :: es) t)
    (hdb : (x == ("__debug__" : Str)) = false := by decide) (he : starEach (e :: es) X.env = (false, eval e X.env) :: starEach es X.env := by rfl) (hpl : (backTo pos (starEach es X.env)).any (·.1) = false := by rfl) :
    PE X (.Call (.Name x p) (e :: es) [] pos) (tCallS sp (WE W) t) := by
  obtain ⟨f, fd, ps, F, hm, kp, b⟩ := c
  exact pe_callS F (hr.mono hk) hg hm kp b (fun σ => passAt tk σ) ha hdb he hpl
theorem r_callS {σ : L2.St} {H : Hp} {Q : VK} {E : L2.St → XK} (q : t σ H fun vs H1 => sp vs H1 Q (E σ)) : tCallS sp E t σ H Q := q
/-- raise C('..') -/
def tRaise (C : Addr) (W : WX) : TS := fun _ σ H => W (.ref C) none σ H
theorem r_raise {C : Addr} {σ : L2.St} {H : Hp} {D : Ends} (q : W (.ref C) none σ H) : tRaise C W D σ H := q
end
/-- an own class of exceptions, as the top leaves it -/
structure ExcT (K : PySem.W.Frag) (mg : Str → Option Value) (x : Str) : Prop where
  g : mg x = some (.ref (adr mg x))
  e : PySem.W.excIn K (adr mg x) [.type "ValueError", .type "Exception", .type "BaseException", .type "object"] "ValueError.__new__" = true
  k : PySem.W.keepIn K (.ref (adr mg x)) = true
  t : PySem.W.typeIn K (.ref (adr mg x)) = some (.type "type")
  c : ExcC K (adr mg x)
section
variable {X : Cx} {W : WX} {x m : Str} {j : Nat} {p p2 pos pos2 : Pos}
theorem ps_rs (hc : X.calm = true) (tk : Takes X W) (T : ExcT X.K X.mg x) (hg : Gl X x) (hdb : (x == ("__debug__" : Str)) = false := by decide) :
    PS X (.Raise (some (.Call (.Name x p) [.Constant (.str m) j p2] [] pos)) none pos2) (tRaise (adr X.mg x) W) :=
  ps_raise hc tk (pmk_own PySem.F.excBase_ValueError T.e T.g T.k (raises_own T.c.hs T.t) hg hdb)
end
/-! ### a name of the def holds a def that raises -/
section
variable {X : Cx} {W : WX} {k i : Nat} {x : Str} {p pos : Pos} {e : Expr} {es : List Expr} {t : TA}
def tAsk (i : Nat) (S : Addr → Sp → Prop) (W : WX) (t : TA) : TE := fun σ H Q => ∃ f sp, σ[i]? = some (some (.ref f)) ∧ S f sp ∧ t σ H fun vs H1 => sp vs H1 Q (WE W σ)
theorem pe_ask (S : Addr → Sp → Prop) (tk : Takes X W) (hS : ∀ f sp, S f sp → ∃ fd ps, FnOk X.prog X.w X.K X.mg X.base (L2.CX X.prog X.w) k f fd ps sp ∧ PySem.W.keepIn X.K (.ref f) = true ∧ Binds X.K fd ps []) (hr : Room k X.A) (hN : X.N[i]? = some x) (hv : Vis X.env.scope x) (ha : PA X (e :: es) t)
    (hdb : (x == ("__debug__" : Str)) = false := by decide) (hcd : (x == ("__classdict__" : Str)) = false := by decide) (he : starEach (e :: es) X.env = (false, eval e X.env) :: starEach es X.env := by rfl) (hpl : (backTo pos (starEach es X.env)).any (·.1) = false := by rfl) :
    PE X (.Call (.Name x p) (e :: es) [] pos) (tAsk i S W t) := by
  refine ⟨fun pins s σ H Q I h => ?_⟩
  obtain ⟨f, sp, hs, hf, q⟩ := h
  obtain ⟨fd, ps, F, kp, b⟩ := hS f sp hf
  have name := (pe_var (X := X) (pos := p) hN hv hdb hcd).run pins s σ H (fun v H1 => v = .ref f ∧ H1 = H) I ⟨.ref f, hs, rfl, rfl⟩
  refine wpAny_Call_Name_kw (thn name fun u s1 z => ?_)
  obtain ⟨v, H1, J, r1, z1, z2⟩ := z
  subst z1 z2
  cases r1
  refine PySem.W.callWith_K (h₀ := X.base) J.ok.mod.kin kp (thn (ha.run pos pins s1 σ _ _ J q) fun us s2 z => ?_) he hpl
  obtain ⟨vs, H2, J2, r2, q2⟩ := z
  exact ⟨J2.kIn, run_fnS F hr b (passAt tk σ) J2 r2 q2⟩
end
/-! ### a def called within an except suite, the caught error pinned -/
structure FnP (P : Program) (w : World) (K : PySem.W.Frag) (mg : Str → Option Value) (base : Heap) (k : Nat) (f : Addr) (fd : FuncData) (ps : List Str) (pin : Addr × Obj) (sp : Sp) : Prop where
  many : ∀ vs H Q E, sp vs H Q E → vs.length = ps.length
  does : ∀ (A : Around) (outer : List Env) (s : Shared) (H : Hp) (args : Args) (us : List Value) (vs : List V) (Q : VK) (E : XK), L2H.RoomH k A → L2H.PinOk outer H s pin → Env0 P w K mg base A outer s H →
    BindsTo s fd args (ps.zip us) → Vals vs us → sp vs H Q E → codeAny (model P w) A (.call (.ref f) args) (CR CX0 outer P w H s Q E) s
section
variable {P : Program} {w : World} {K : PySem.W.Frag} {mg : Str → Option Value} {base : Heap}
theorem fnP {x : Str} {st : Stmt} {f : Addr} {fd : FuncData} {N ps : List Str} {k : Nat} {pin : Addr × Obj} {sp : Sp} (F : Fun K x x st f fd) (S : FnScope N ps (defScope st)) (many : ∀ vs H Q E, sp vs H Q E → vs.length = ps.length)
    (hbody : ∀ (cdv : Value) (A : Around) (outer : List Env) (s : Shared) (H : Hp) (vs : List V) (Q : VK) (E : XK), L2H.RoomH k (A.deeper (envOfC x (defScope st) s.heap.objs.size f cdv)) → sp vs H Q E →
      ∃ t, PSs (L2H.cxH CX0 P w K mg base N x (defScope st) f cdv A outer s H E pin) (defBody st) t ∧ t { nx := fun _ H' => Q .non H', rt := Q } (L2.start N vs) H) : FnP P w K mg base (k + 1) f fd ps pin sp := by
  obtain ⟨oc, od, kV, doc, pm, an, cdv, ct, osl, rfl, lk, hcd⟩ := F.ex
  refine ⟨many, fun A outer s H args us vs Q E room pinned e0 bound r want => ?_⟩
  have KX : K.In s.heap := e0.mod.kin.keeps fun b o e => (e0.bs b o e).1
  have free : s.heap.NoLimit := e0.mod.nolimit.keeps fun b o e => (e0.bs b o e).1
  have pars : ∀ y ∈ ps.zip us, (defScope st).names.lookup y.1 = some .local ∨ ((defScope st).names.lookup y.1 = some .cell ∧ ((cellsFrom (s.heap.objs.size + 1) (defScope st).names []).lookup y.1).isSome = true) := fun y hy =>
    (S.par y.1 (List.of_mem_zip hy).1).imp id fun q => ⟨q, PySem.W.cellsFrom_some _ _ _ (.inl q)⟩
  refine codeAny_call_function room.depth (KX _ _ lk) rfl S.co S.gen rfl (PySem.W.codeRec_of KX hcd) (bound _ _ _ _ ?_)
  refine wpAny_newFunctionEnv_cells S.kind pars fun env same s1 laid => ?_
  subst same
  refine ⟨free.keeps laid.toInCall.keep, codeAny_func ?_⟩
  obtain ⟨t, ht, q⟩ := hbody cdv A outer s H vs Q E (room.deeper _) want
  have I : Inv (L2H.cxH CX0 P w K mg base N x (defScope st) f cdv A outer s H E pin) [] (L2.start N vs) H s1 := L2H.inv_startH S pinned e0 (many _ _ _ _ want) r laid
  refine wpAny_mono (ht.run [] s1 (L2.start N vs) H _ I q) (fun fl s' got => ?_) fun e s' got => got
  rcases fl with _ | _ | _ | u
  all_goals first
    | exact (let ⟨_, _, _, no⟩ := got; no.elim)
    | (obtain ⟨σ', H', J, q'⟩ := got
       exact ⟨V.non, H', J.os, J.bare, J.base, J.hok, rfl, q'⟩)
    | (obtain ⟨v, σ', H', J, rv, q'⟩ := got
       exact ⟨v, H', J.os, J.bare, J.base, J.hok, rv, q'⟩)
end
section
variable {X : Cx} {k : Nat} {f : Addr} {x : Str} {pin : Addr × Obj} {p pos : Pos} {e : Expr} {es : List Expr} {t : TA}
def tCallP (S : Sp → Prop) (t : TA) : TE := fun σ H Q => t σ H fun vs H1 => ∃ sp, S sp ∧ sp vs H1 Q E0
theorem pe_callP (S : Sp → Prop) (hp : pin ∈ X.pn) (hS : ∀ sp, S sp → ∃ fd ps, FnP X.prog X.w X.K X.mg X.base k f fd ps pin sp ∧ Binds X.K fd ps []) (hr : L2H.RoomH k X.A) (hg : Gl X x) (hm : X.mg x = some (.ref f)) (kp : PySem.W.keepIn X.K (.ref f) = true) (ha : PA X (e :: es) t)
    (hdb : (x == ("__debug__" : Str)) = false := by decide) (he : starEach (e :: es) X.env = (false, eval e X.env) :: starEach es X.env := by rfl) (hpl : (backTo pos (starEach es X.env)).any (·.1) = false := by rfl) :
    PE X (.Call (.Name x p) (e :: es) [] pos) (tCallP S t) := by
  refine ⟨fun pins s σ H Q I h => wpAny_Call_Name_kw (ld_glob I hg hm ?_ hdb)⟩
  refine PySem.W.callWith_K (h₀ := X.base) I.ok.mod.kin kp (thn (ha.run pos pins s σ H _ I h) fun us s1 z => ?_) he hpl
  obtain ⟨vs, H1, J, r, sp, hs, q⟩ := z
  obtain ⟨fd, ps, F, b⟩ := hS sp hs
  refine ⟨J.kIn, ?_⟩
  have bound := b s1 us J.kIn (by rw [List.append_nil, ← r.length]; exact F.many _ _ _ _ q)
  rw [List.append_nil] at bound
  have Z := J.pin pin (List.mem_append_left _ hp)
  have pinned : L2H.PinOk X.stack H1 s1 pin := ⟨Z.1, Z.2.1, fun hm => (List.mem_cons.mp (J.stkSub pin.1 hm)).elim Z.2.2.1 Z.2.2.2.1, Z.2.2.2.2⟩
  refine wpAny_call (codeAny_mono (F.does X.A X.stack s1 H1 ⟨us, []⟩ us vs Q E0 hr pinned J.env0 bound r q) fun got s' z => ?_)
  rcases got with e | fl
  · exact z.elim
  cases fl with
  | ret u => exact J.after z
  | _ => exact z.elim
theorem r_callP {S : Sp → Prop} {σ : L2.St} {H : Hp} {Q : VK} (q : t σ H fun vs H1 => ∃ sp, S sp ∧ sp vs H1 Q E0) : tCallP S t σ H Q := q
/-- isinstance of the pinned error -/
theorem call_isP {D : Addr} (hp : pin ∈ X.pn) (C : ExcC X.K D) (hz : Zc (.ref D) none pin.2) (hf : ∃ vs, pin.2.data = .fields vs) : CallR X (.builtin "isinstance") (rIsE X.K D pin.1) := by
  rintro pins s σ H xs us Q I r ⟨c, cv, b, rfl, same, kit, q⟩
  obtain ⟨u1, u2, rfl, r1, r2⟩ := vals2 r
  cases r1
  have ec := same _ r2
  subst ec
  have get := (I.pin pin (List.mem_append_left _ hp)).1
  obtain ⟨vs, hv⟩ := hf
  have J : PySem.W.InstAt s.heap pin.1 pin.2 D none := by
    obtain ⟨a, oc, od, oda, osl⟩ := pin
    obtain ⟨h1, h2⟩ := hz
    dsimp only at h1 h2 hv
    subst h1 h2 hv
    exact ⟨get, rfl, rfl, trivial⟩
  exact PySem.W.kia_one (PySem.W.handS_kitx_exc C.hg C.hk C.hs C.hd C.ha C.hn C.ht C.hm) I.kIn J kit (fun z => nomatch z) fun tk => ⟨.bl b, H, I.kept (t' := tk) fun _ _ z => z, rfl, q⟩
theorem r_isE {K : PySem.W.Frag} {D a : Addr} {c : V} {cv : Value} {b : Bool} {H : Hp} {Q : VK} (hc : ClsV c cv) (e : PySem.W.kitOne K (.ref D) cv = some b) (q : Q (.bl b) H) : rIsE K D a [.ref a, c] H Q := ⟨c, cv, b, rfl, fun _ r => hc.eq r, e, q⟩
end
section
variable {CX : CXT} {P : Program} {w : World} {K : PySem.W.Frag} {mg : Str → Option Value} {base : Heap} {N : List Str} {qual : Str} {scope : Scope} {f : Addr} {cd : Value} {A : Around} {outer : List Env} {s : Shared} {H : Hp} {E : XK} {pin : Addr × Obj}
theorem kb' {s' : Shared} {H' : Hp} {sc : Scope} {ce : Env} {fp : List Addr} : ((cxOf CX P w K mg base N qual scope f cd A outer s H E).blk s' H' sc ce fp).K = K := rfl
theorem kh : (L2H.cxH CX P w K mg base N qual scope f cd A outer s H E pin).K = K := rfl
theorem mh : (L2H.cxH CX P w K mg base N qual scope f cd A outer s H E pin).mg = mg := rfl
/-- where the name of a def leads -/
theorem dfn_g {x : Str} {st : Stmt} {ps : List Str} (D : Dfn K mg x st ps) : mg x = some (.ref (adr mg x)) := by
  obtain ⟨f, fd, _, _, g⟩ := D
  rw [adr_of g]
  exact g
end
/-! ### things of any kind -/
inductive Ty | non | bl | int | str | lst | tup | dic
deriving DecidableEq
def Ty.nm : Ty → String
  | .non => "NoneType"
  | .bl => "bool"
  | .int => "int"
  | .str => "str"
  | .lst => "list"
  | .tup => "tuple"
  | .dic => "dict"
inductive IsT (H : Hp) : V → Ty → Prop
  | non : IsT H .non .non
  | bl (b : Bool) : IsT H (.bl b) .bl
  | int (i : Int) : IsT H (.int i) .int
  | str (s : Str) : IsT H (.str s) .str
  | lst {a : Addr} {xs : List V} (h : H a = some (.lst xs)) : IsT H (.ref a) .lst
  | tup {a : Addr} {xs : List V} (h : H a = some (.tup xs)) : IsT H (.ref a) .tup
  | dic {a : Addr} {kvs : List (Key × V)} (h : H a = some (.dK kvs)) : IsT H (.ref a) .dic
section
variable {K : PySem.W.Frag} {H H' : Hp} {v : V} {t : Ty}
theorem IsT.ex (e : Ex H H') (h : IsT H v t) : IsT H' v t := by
  cases h with
  | non => exact .non
  | bl b => exact .bl b
  | int i => exact .int i
  | str s => exact .str s
  | lst h => exact .lst (e _ _ h)
  | tup h => exact .tup (e _ _ h)
  | dic h => exact .dic (e _ _ h)
theorem IsT.ty (h : IsT H v t) : TyX K H v (.type t.nm) := by
  cases h with
  | non => exact .base .non
  | bl b => exact .base (.bl b)
  | int i => exact .base (.int i)
  | str s => exact .base (.str s)
  | lst h => exact .base (.lst h)
  | tup h => exact .base (.tup h)
  | dic h => exact .base (.dK h)
theorem kit_int (t : Ty) : PySem.W.kitOne K (.type t.nm) (.type "int") = some (decide (t = .int ∨ t = .bl)) := by cases t <;> exact kit_ty (by decide +kernel)
theorem kit_bool (t : Ty) : PySem.W.kitOne K (.type t.nm) (.type "bool") = some (decide (t = .bl)) := by cases t <;> exact kit_ty (by decide +kernel)
theorem kit_str (t : Ty) : PySem.W.kitOne K (.type t.nm) (.type "str") = some (decide (t = .str)) := by cases t <;> exact kit_ty (by decide +kernel)
theorem kit_tuple (t : Ty) : PySem.W.kitOne K (.type t.nm) (.type "tuple") = some (decide (t = .tup)) := by cases t <;> exact kit_ty (by decide +kernel)
theorem kit_list (t : Ty) : PySem.W.kitOne K (.type t.nm) (.type "list") = some (decide (t = .lst)) := by cases t <;> exact kit_ty (by decide +kernel)
/-- no whole number, or one that P is true of -/
def Off (H : Hp) (v : V) (P : Int → Prop) : Prop := (∃ t, IsT H v t ∧ t ≠ .int) ∨ ∃ i, v = .int i ∧ P i
theorem Off.ex {P : Int → Prop} (e : Ex H H') (h : Off H v P) : Off H' v P := by
  rcases h with ⟨t, h, n⟩ | h
  · exact .inl ⟨t, h.ex e, n⟩
  · exact .inr h
theorem Off.imp {P R : Int → Prop} (h : Off H v P) (g : ∀ i, P i → R i) : Off H v R := by
  rcases h with h | ⟨i, e, p⟩
  · exact .inl h
  · exact .inr ⟨i, e, g i p⟩
/-- whether it is a stretch -/
inductive Stt (H : Hp) : V → Bool → Prop
  | no {v : V} {t : Ty} (h : IsT H v t) (n : t ≠ .tup) : Stt H v false
  | len {a : Addr} {xs : List V} (h : H a = some (.tup xs)) (n : xs.length ≠ 2) : Stt H (.ref a) false
  | fst {a : Addr} {x y : V} {t : Ty} (h : H a = some (.tup [x, y])) (hx : IsT H x t) (n : t ≠ .str) : Stt H (.ref a) false
  | letter {a : Addr} {s : Str} {y : V} (h : H a = some (.tup [.str s, y])) (n : inV (.str s) [.str "a", .str "b"] = false) : Stt H (.ref a) false
  | snd {a : Addr} {k : Bool} {y : V} {t : Ty} (h : H a = some (.tup [.str (kS k), y])) (hy : IsT H y t) (n : t ≠ .int) : Stt H (.ref a) false
  | low {a : Addr} {k : Bool} {m : Int} (h : H a = some (.tup [.str (kS k), .int m])) (n : m ≤ 0) : Stt H (.ref a) false
  | ok {a : Addr} {k : Bool} {m : Int} (h : H a = some (.tup [.str (kS k), .int m])) (n : 1 ≤ m) : Stt H (.ref a) true
theorem Stt.ex {b : Bool} (e : Ex H H') (h : Stt H v b) : Stt H' v b := by
  cases h with
  | no h n => exact .no (h.ex e) n
  | len h n => exact .len (e _ _ h) n
  | fst h hx n => exact .fst (e _ _ h) (hx.ex e) n
  | letter h n => exact .letter (e _ _ h) n
  | snd h hy n => exact .snd (e _ _ h) (hy.ex e) n
  | low h n => exact .low (e _ _ h) n
  | ok h n => exact .ok (e _ _ h) n
/-- what is no ring -/
inductive NoRing (H : Hp) : V → Prop
  | no {v : V} {t : Ty} (h : IsT H v t) (n : t ≠ .lst) : NoRing H v
  | nil {a : Addr} (h : H a = some (.lst [])) : NoRing H (.ref a)
  | bad {a : Addr} {vs : List V} (bs : List Bool) (h : H a = some (.lst vs)) (l : bs.length = vs.length) (few : vs.length ≤ 10000) (s : ∀ (i : Nat) (x : V) (b : Bool), vs[i]? = some x → bs[i]? = some b → Stt H x b) (f : false ∈ bs) : NoRing H (.ref a)
theorem NoRing.ex (e : Ex H H') (h : NoRing H v) : NoRing H' v := by
  cases h with
  | no h n => exact .no (h.ex e) n
  | nil h => exact .nil (e _ _ h)
  | bad bs h l few s f => exact .bad bs (e _ _ h) l few (fun i x b hx hb => (s i x b hx hb).ex e) f
theorem NoRing.one {a : Addr} {x : V} (h : H a = some (.lst [x])) (s : Stt H x false) : NoRing H (.ref a) := .bad [false] h rfl (by show 1 ≤ 10000; omega) (fun i y b hy hb => by
  cases i with
  | zero =>
    cases hy
    cases hb
    exact s
  | succ i => cases hy) (by decide)
/-- what is raised, wherever the heap has grown to -/
def Rs (mg : Str → Option Value) (E : XK) (x : Str) (H : Hp) : Prop := ∀ H', Ex H H' → E (.ref (adr mg x)) none H'
theorem Rs.ex {mg : Str → Option Value} {E : XK} {x : Str} (e : Ex H H') (h : Rs mg E x H) : Rs mg E x H' := fun _ e' => h _ (exT e' e)
theorem Rs.at {mg : Str → Option Value} {E : XK} {x : Str} (h : Rs mg E x H) (e : Ex H H') : E (.ref (adr mg x)) none H' := h _ e
end
end Rb
namespace Rb
open PySem PySem.Spec PyProof.Rows L2
/-! ### the text by places -/
def top (i : Nat) : Stmt := PySem.Challenge.pw_ringbeads_k05_refused.main.body.getD i (.Pass ⟨0, 0, 0, 0⟩)
abbrev s_is_whole : Stmt := top 8
theorem sc_is_whole : FnScope ["thing"] ["thing"] (defScope s_is_whole) := ⟨rfl, rfl, rfl, by decide +kernel, rfl, by decide +kernel, by decide +kernel⟩
abbrev s_is_stretch : Stmt := top 9
theorem sc_is_stretch : FnScope ["thing"] ["thing"] (defScope s_is_stretch) := ⟨rfl, rfl, rfl, by decide +kernel, rfl, by decide +kernel, by decide +kernel⟩
abbrev s_check_ring : Stmt := top 10
theorem sc_check_ring : FnScope ["ring", "stretch"] ["ring"] (defScope s_check_ring) := ⟨rfl, rfl, rfl, by decide +kernel, rfl, by decide +kernel, by decide +kernel⟩
abbrev s_whole_of : Stmt := top 11
theorem sc_whole_of : FnScope ["ring", "kind", "many"] ["ring"] (defScope s_whole_of) := ⟨rfl, rfl, rfl, by decide +kernel, rfl, by decide +kernel, by decide +kernel⟩
abbrev s_check_place : Stmt := top 12
theorem sc_check_place : FnScope ["ring", "place"] ["ring", "place"] (defScope s_check_place) := ⟨rfl, rfl, rfl, by decide +kernel, rfl, by decide +kernel, by decide +kernel⟩
abbrev s_check_count : Stmt := top 13
theorem sc_check_count : FnScope ["number"] ["number"] (defScope s_check_count) := ⟨rfl, rfl, rfl, by decide +kernel, rfl, by decide +kernel, by decide +kernel⟩
abbrev s_table_of : Stmt := top 14
theorem sc_table_of : FnScope ["ring", "ends", "sums", "kind", "many"] ["ring"] (defScope s_table_of) := ⟨rfl, rfl, rfl, by decide +kernel, rfl, by decide +kernel, by decide +kernel⟩
abbrev s_ahead_in : Stmt := top 15
theorem sc_ahead_in : FnScope ["table", "place", "ends", "sums", "low", "high", "middle"] ["table", "place"] (defScope s_ahead_in) := ⟨rfl, rfl, rfl, by decide +kernel, rfl, by decide +kernel, by decide +kernel⟩
abbrev s_along_in : Stmt := top 16
theorem sc_along_in : FnScope ["table", "place", "many", "whole", "rounds"] ["table", "place", "many"] (defScope s_along_in) := ⟨rfl, rfl, rfl, by decide +kernel, rfl, by decide +kernel, by decide +kernel⟩
abbrev s_along : Stmt := top 17
theorem sc_along : FnScope ["ring", "place", "many"] ["ring", "place", "many"] (defScope s_along) := ⟨rfl, rfl, rfl, by decide +kernel, rfl, by decide +kernel, by decide +kernel⟩
abbrev s_beads : Stmt := top 18
theorem sc_beads : FnScope ["ring", "mine"] ["ring"] (defScope s_beads) := ⟨rfl, rfl, rfl, by decide +kernel, rfl, by decide +kernel, by decide +kernel⟩
abbrev s_kind_at : Stmt := top 19
theorem sc_kind_at : FnScope ["ring", "place"] ["ring", "place"] (defScope s_kind_at) := ⟨rfl, rfl, rfl, by decide +kernel, rfl, by decide +kernel, by decide +kernel⟩
abbrev s_among : Stmt := top 20
theorem sc_among : FnScope ["ring", "place", "many"] ["ring", "place", "many"] (defScope s_among) := ⟨rfl, rfl, rfl, by decide +kernel, rfl, by decide +kernel, by decide +kernel⟩
abbrev s_turning_places : Stmt := top 23
theorem sc_turning_places : FnScope ["ring", "many", "whole", "found", "place", "kind", "beads"] ["ring", "many"] (defScope s_turning_places) := ⟨rfl, rfl, rfl, by decide +kernel, rfl, by decide +kernel, by decide +kernel⟩
abbrev s_ends_of : Stmt := top 24
theorem sc_ends_of : FnScope ["ring", "many", "table", "told", "place"] ["ring", "many"] (defScope s_ends_of) := ⟨rfl, rfl, rfl, by decide +kernel, rfl, by decide +kernel, by decide +kernel⟩
abbrev s_sought : Stmt := top 28
theorem sc_sought : FnScope ["ring", "many", "number", "least", "most", "table", "places", "first", "after", "here", "there"] ["ring", "many", "number"] (defScope s_sought) := ⟨rfl, rfl, rfl, by decide +kernel, rfl, by decide +kernel, by decide +kernel⟩
abbrev s_check_times : Stmt := top 30
theorem sc_check_times : FnScope ["times"] ["times"] (defScope s_check_times) := ⟨rfl, rfl, rfl, by decide +kernel, rfl, by decide +kernel, by decide +kernel⟩
abbrev s_more_of : Stmt := top 31
theorem sc_more_of : FnScope ["ring", "times", "mine"] ["ring", "times"] (defScope s_more_of) := ⟨rfl, rfl, rfl, by decide +kernel, rfl, by decide +kernel, by decide +kernel⟩
abbrev s_parts_of : Stmt := top 32
theorem sc_parts_of : FnScope ["ring", "times", "more", "stretch", "heights", "kind", "many", "low", "found", "place", "at"] ["ring", "times"] (defScope s_parts_of) := ⟨rfl, rfl, rfl, by decide +kernel, rfl, by decide +kernel, by decide +kernel⟩
abbrev s_starts : Stmt := top 33
theorem sc_starts : FnScope ["ring", "times"] ["ring", "times"] (defScope s_starts) := ⟨rfl, rfl, rfl, by decide +kernel, rfl, by decide +kernel, by decide +kernel⟩
abbrev s_start_at : Stmt := top 34
theorem sc_start_at : FnScope ["ring", "times", "number", "place", "first", "many"] ["ring", "times", "number"] (defScope s_start_at) := ⟨rfl, rfl, rfl, by decide +kernel, rfl, by decide +kernel, by decide +kernel⟩
abbrev s_is_start : Stmt := top 35
theorem sc_is_start : FnScope ["ring", "times", "place", "first", "many"] ["ring", "times", "place"] (defScope s_is_start) := ⟨rfl, rfl, rfl, by decide +kernel, rfl, by decide +kernel, by decide +kernel⟩
abbrev s_law_cell_at : Stmt := top 37
theorem sc_law_cell_at : FnScope ["_law_script", "_law_k"] ["_law_script", "_law_k"] (defScope s_law_cell_at) := ⟨rfl, rfl, rfl, by decide +kernel, rfl, by decide +kernel, by decide +kernel⟩
abbrev s_law_draw : Stmt := top 38
theorem sc_law_draw : FnScope ["_law_cell", "_law_k", "_law_many", "_law_primes"] ["_law_cell", "_law_k", "_law_many"] (defScope s_law_draw) := ⟨rfl, rfl, rfl, by decide +kernel, rfl, by decide +kernel, by decide +kernel⟩
abbrev s_law_number : Stmt := top 39
theorem sc_law_number : FnScope ["_law_cell", "_law_k", "_law_limit"] ["_law_cell", "_law_k", "_law_limit"] (defScope s_law_number) := ⟨rfl, rfl, rfl, by decide +kernel, rfl, by decide +kernel, by decide +kernel⟩
abbrev s_law_ring : Stmt := top 40
theorem sc_law_ring : FnScope ["_law_script", "_law_limit", "_law_slant", "_law_found", "_law_k", "_law_cell", "_law_number_here", "_law_kind"] ["_law_script"] (defScope s_law_ring) := ⟨rfl, rfl, rfl, by decide +kernel, rfl, by decide +kernel, by decide +kernel⟩
abbrev s_law_size : Stmt := top 41
theorem sc_law_size : FnScope ["_law_ring_here", "_law_kind", "_law_many"] ["_law_ring_here"] (defScope s_law_size) := ⟨rfl, rfl, rfl, by decide +kernel, rfl, by decide +kernel, by decide +kernel⟩
abbrev s_law_table : Stmt := top 42
theorem sc_law_table : FnScope ["_law_ring_here", "_law_ends", "_law_sums", "_law_kind", "_law_many"] ["_law_ring_here"] (defScope s_law_table) := ⟨rfl, rfl, rfl, by decide +kernel, rfl, by decide +kernel, by decide +kernel⟩
abbrev s_law_surplus : Stmt := top 43
theorem sc_law_surplus : FnScope ["_law_table_here", "_law_times"] ["_law_table_here", "_law_times"] (defScope s_law_surplus) := ⟨rfl, rfl, rfl, by decide +kernel, rfl, by decide +kernel, by decide +kernel⟩
abbrev s_law_kinds : Stmt := top 44
theorem sc_law_kinds : FnScope ["_law_error", "_law_told_here"] ["_law_error"] (defScope s_law_kinds) := ⟨rfl, rfl, rfl, by decide +kernel, rfl, by decide +kernel, by decide +kernel⟩
abbrev s_law_with_ring : Stmt := top 45
theorem sc_law_with_ring : FnScope ["_law_door", "_law_ring_here"] ["_law_door", "_law_ring_here"] (defScope s_law_with_ring) := ⟨rfl, rfl, rfl, by decide +kernel, rfl, by decide +kernel, by decide +kernel⟩
abbrev s_law_with_place : Stmt := top 46
theorem sc_law_with_place : FnScope ["_law_ring_here", "_law_pair", "_law_door", "_law_place"] ["_law_ring_here", "_law_pair"] (defScope s_law_with_place) := ⟨rfl, rfl, rfl, by decide +kernel, rfl, by decide +kernel, by decide +kernel⟩
abbrev s_law_with_times : Stmt := top 47
theorem sc_law_with_times : FnScope ["_law_ring_here", "_law_pair", "_law_door", "_law_times"] ["_law_ring_here", "_law_pair"] (defScope s_law_with_times) := ⟨rfl, rfl, rfl, by decide +kernel, rfl, by decide +kernel, by decide +kernel⟩
abbrev s_law_with_count : Stmt := top 48
theorem sc_law_with_count : FnScope ["_law_ring_here", "_law_pair", "_law_door", "_law_number_here"] ["_law_ring_here", "_law_pair"] (defScope s_law_with_count) := ⟨rfl, rfl, rfl, by decide +kernel, rfl, by decide +kernel, by decide +kernel⟩
abbrev s_law_told : Stmt := top 49
theorem sc_law_told : FnScope ["_law_ask", "_law_one", "_law_other", "_law_error"] ["_law_ask", "_law_one", "_law_other"] (defScope s_law_told) := ⟨rfl, rfl, rfl, by decide +kernel, rfl, by decide +kernel, by decide +kernel⟩
abbrev s_law_all : Stmt := top 50
theorem sc_law_all : FnScope ["_law_ask", "_law_ring_here", "_law_doors", "_law_things", "_law_due", "_law_door", "_law_thing"] ["_law_ask", "_law_ring_here", "_law_doors", "_law_things", "_law_due"] (defScope s_law_all) := ⟨rfl, rfl, rfl, by decide +kernel, rfl, by decide +kernel, by decide +kernel⟩
abbrev s_law : Stmt := top 51
theorem sc_law : FnScope ["_law_script", "_law_far", "_law_due", "_law_k", "_law_ring_here", "_law_kept", "_law_size_here", "_law_surplus_here", "_law_bad", "_law_at", "_law_strange", "_law_door", "_law_thing"] ["_law_script"] (defScope s_law) := ⟨rfl, rfl, rfl, by decide +kernel, rfl, by decide +kernel, by decide +kernel⟩
abbrev s_Found_init : Stmt := inClass (top 25) 0
theorem sc_Found_init : FnScope ["self", "place"] ["self", "place"] (defScope s_Found_init) := ⟨rfl, rfl, rfl, by decide +kernel, rfl, by decide +kernel, by decide +kernel⟩
abbrev s_Found_shows : Stmt := inClass (top 25) 1
theorem sc_Found_shows : FnScope ["self", "ring", "many", "number"] ["self", "ring", "many", "number"] (defScope s_Found_shows) := ⟨rfl, rfl, rfl, by decide +kernel, rfl, by decide +kernel, by decide +kernel⟩
abbrev s_Never_init : Stmt := inClass (top 26) 0
theorem sc_Never_init : FnScope ["self", "least", "most"] ["self", "least", "most"] (defScope s_Never_init) := ⟨rfl, rfl, rfl, by decide +kernel, rfl, by decide +kernel, by decide +kernel⟩
abbrev s_Never_shows : Stmt := inClass (top 26) 1
theorem sc_Never_shows : FnScope ["self", "ring", "many", "number"] ["self", "ring", "many", "number"] (defScope s_Never_shows) := ⟨rfl, rfl, rfl, by decide +kernel, rfl, by decide +kernel, by decide +kernel⟩
/-- what the top has written -/
structure Txt (K : PySem.W.Frag) (mg : Str → Option Value) : Prop where
  d_is_whole : Dfn K mg "is_whole" s_is_whole ["thing"]
  d_is_stretch : Dfn K mg "is_stretch" s_is_stretch ["thing"]
  d_check_ring : Dfn K mg "check_ring" s_check_ring ["ring"]
  d_whole_of : Dfn K mg "whole_of" s_whole_of ["ring"]
  d_check_place : Dfn K mg "check_place" s_check_place ["ring", "place"]
  d_check_count : Dfn K mg "check_count" s_check_count ["number"]
  d_table_of : Dfn K mg "table_of" s_table_of ["ring"]
  d_ahead_in : Dfn K mg "ahead_in" s_ahead_in ["table", "place"]
  d_along_in : Dfn K mg "along_in" s_along_in ["table", "place", "many"]
  d_along : Dfn K mg "along" s_along ["ring", "place", "many"]
  d_beads : Dfn K mg "beads" s_beads ["ring"]
  d_kind_at : Dfn K mg "kind_at" s_kind_at ["ring", "place"]
  d_among : Dfn K mg "among" s_among ["ring", "place", "many"]
  d_turning_places : Dfn K mg "turning_places" s_turning_places ["ring", "many"]
  d_ends_of : Dfn K mg "ends_of" s_ends_of ["ring", "many"]
  d_sought : Dfn K mg "sought" s_sought ["ring", "many", "number"]
  d_check_times : Dfn K mg "check_times" s_check_times ["times"]
  d_more_of : Dfn K mg "more_of" s_more_of ["ring", "times"]
  d_parts_of : Dfn K mg "parts_of" s_parts_of ["ring", "times"]
  d_starts : Dfn K mg "starts" s_starts ["ring", "times"]
  d_start_at : Dfn K mg "start_at" s_start_at ["ring", "times", "number"]
  d_is_start : Dfn K mg "is_start" s_is_start ["ring", "times", "place"]
  d__law_cell_at : Dfn K mg "_law_cell_at" s_law_cell_at ["_law_script", "_law_k"]
  d__law_draw : Dfn K mg "_law_draw" s_law_draw ["_law_cell", "_law_k", "_law_many"]
  d__law_number : Dfn K mg "_law_number" s_law_number ["_law_cell", "_law_k", "_law_limit"]
  d__law_ring : Dfn K mg "_law_ring" s_law_ring ["_law_script"]
  d__law_size : Dfn K mg "_law_size" s_law_size ["_law_ring_here"]
  d__law_table : Dfn K mg "_law_table" s_law_table ["_law_ring_here"]
  d__law_surplus : Dfn K mg "_law_surplus" s_law_surplus ["_law_table_here", "_law_times"]
  d__law_kinds : Dfn K mg "_law_kinds" s_law_kinds ["_law_error"]
  d__law_with_ring : Dfn K mg "_law_with_ring" s_law_with_ring ["_law_door", "_law_ring_here"]
  d__law_with_place : Dfn K mg "_law_with_place" s_law_with_place ["_law_ring_here", "_law_pair"]
  d__law_with_times : Dfn K mg "_law_with_times" s_law_with_times ["_law_ring_here", "_law_pair"]
  d__law_with_count : Dfn K mg "_law_with_count" s_law_with_count ["_law_ring_here", "_law_pair"]
  d__law_told : Dfn K mg "_law_told" s_law_told ["_law_ask", "_law_one", "_law_other"]
  d__law_all : Dfn K mg "_law_all" s_law_all ["_law_ask", "_law_ring_here", "_law_doors", "_law_things", "_law_due"]
  g_RingError : mg "RingError" = some (.ref (adr mg "RingError"))
  e_BadRing : ExcT K mg "BadRing"
  x_BadRing : PySem.W.exmOne K (.ref (adr mg "BadRing")) (.ref (adr mg "RingError")) = some true
  v_BadRing : PySem.W.kitOne K (.ref (adr mg "BadRing")) (.type "ValueError") = some true
  e_BadPlace : ExcT K mg "BadPlace"
  x_BadPlace : PySem.W.exmOne K (.ref (adr mg "BadPlace")) (.ref (adr mg "RingError")) = some true
  v_BadPlace : PySem.W.kitOne K (.ref (adr mg "BadPlace")) (.type "ValueError") = some true
  e_BadTimes : ExcT K mg "BadTimes"
  x_BadTimes : PySem.W.exmOne K (.ref (adr mg "BadTimes")) (.ref (adr mg "RingError")) = some true
  v_BadTimes : PySem.W.kitOne K (.ref (adr mg "BadTimes")) (.type "ValueError") = some true
  e_BadCount : ExcT K mg "BadCount"
  x_BadCount : PySem.W.exmOne K (.ref (adr mg "BadCount")) (.ref (adr mg "RingError")) = some true
  v_BadCount : PySem.W.kitOne K (.ref (adr mg "BadCount")) (.type "ValueError") = some true
  k_BadRing_BadRing : PySem.W.kitOne K (.ref (adr mg "BadRing")) (.ref (adr mg "BadRing")) = some true
  k_BadRing_BadPlace : PySem.W.kitOne K (.ref (adr mg "BadRing")) (.ref (adr mg "BadPlace")) = some false
  k_BadRing_BadTimes : PySem.W.kitOne K (.ref (adr mg "BadRing")) (.ref (adr mg "BadTimes")) = some false
  k_BadRing_BadCount : PySem.W.kitOne K (.ref (adr mg "BadRing")) (.ref (adr mg "BadCount")) = some false
  k_BadPlace_BadRing : PySem.W.kitOne K (.ref (adr mg "BadPlace")) (.ref (adr mg "BadRing")) = some false
  k_BadPlace_BadPlace : PySem.W.kitOne K (.ref (adr mg "BadPlace")) (.ref (adr mg "BadPlace")) = some true
  k_BadPlace_BadTimes : PySem.W.kitOne K (.ref (adr mg "BadPlace")) (.ref (adr mg "BadTimes")) = some false
  k_BadPlace_BadCount : PySem.W.kitOne K (.ref (adr mg "BadPlace")) (.ref (adr mg "BadCount")) = some false
  k_BadTimes_BadRing : PySem.W.kitOne K (.ref (adr mg "BadTimes")) (.ref (adr mg "BadRing")) = some false
  k_BadTimes_BadPlace : PySem.W.kitOne K (.ref (adr mg "BadTimes")) (.ref (adr mg "BadPlace")) = some false
  k_BadTimes_BadTimes : PySem.W.kitOne K (.ref (adr mg "BadTimes")) (.ref (adr mg "BadTimes")) = some true
  k_BadTimes_BadCount : PySem.W.kitOne K (.ref (adr mg "BadTimes")) (.ref (adr mg "BadCount")) = some false
  k_BadCount_BadRing : PySem.W.kitOne K (.ref (adr mg "BadCount")) (.ref (adr mg "BadRing")) = some false
  k_BadCount_BadPlace : PySem.W.kitOne K (.ref (adr mg "BadCount")) (.ref (adr mg "BadPlace")) = some false
  k_BadCount_BadTimes : PySem.W.kitOne K (.ref (adr mg "BadCount")) (.ref (adr mg "BadTimes")) = some false
  k_BadCount_BadCount : PySem.W.kitOne K (.ref (adr mg "BadCount")) (.ref (adr mg "BadCount")) = some true
  m_len : mg "len" = none
  m_sum : mg "sum" = none
  m_min : mg "min" = none
  m_max : mg "max" = none
  m_all : mg "all" = none
  m_any : mg "any" = none
  m_abs : mg "abs" = none
  m_isinstance : mg "isinstance" = none
  m_int : mg "int" = none
  m_bool : mg "bool" = none
  m_str : mg "str" = none
  m_tuple : mg "tuple" = none
  m_list : mg "list" = none
  m_range : mg "range" = none
  m_enumerate : mg "enumerate" = none
  m_zip : mg "zip" = none
  m_sorted : mg "sorted" = none
  m_ValueError : mg "ValueError" = none
end Rb
namespace Rb
open PySem PySem.Spec PyProof.Rows L2
/-! ### steps by themselves -/
local macro_rules | `(tactic| walk_at "ex") => `(tactic| first
  | exact Evl.Ex.refl _
  | assumption
  | exact exN (by assumption)
  | (refine' exT (by assumption) ?_; walk_at "ex"))
local macro_rules | `(tactic| walk_at "sq") => `(tactic| first
  | assumption
  | exact SqL.of (by assumption)
  | exact SqT.of (by assumption)
  | exact SqL.of upd_same
  | (refine' exL ?e ?h; (case h => first | assumption | exact SqL.of (by assumption)); (case e => walk_at "ex"))
  | (refine' exU ?e ?h; (case h => first | assumption | exact SqT.of (by assumption)); (case e => walk_at "ex")))
local macro_rules | `(tactic| walk_at "ob") => `(tactic| first
  | assumption
  | exact upd_same
  | (refine' (show Ex _ _ from ?e) _ _ ?h; (case h => assumption); (case e => walk_at "ex")))
local macro_rules | `(tactic| walk_at "ns") => `(tactic| (simp only [List.set_cons_succ, List.set_cons_zero]; exact rfl))
local macro_rules | `(tactic| walk_at "ix") => `(tactic| with_unfolding_all exact rfl)
local macro_rules | `(tactic| walk_at "r1s") => `(tactic| with_reducible first
  | refine r_var (by walk_at "ix") ?_
  | refine r_c ?_
  | refine L2.iteT ?_
  | refine L2.iteF ?_
  | refine iteNT ?_
  | refine iteNF ?_
  | refine r_op ?_
  | refine r_I0 ?_
  | refine r_un ?_
  | refine r_U ?_
  | refine r_cb ?_
  | refine r_cons ?_
  | refine r_nil ?_
  | refine r_call ?_
  | refine r_seq ?_
  | refine r_asg ?_
  | refine r_name (by walk_at "ns") ?_
  | refine r_ret ?_
  | refine r_retN ?_
  | refine r_ifS ?_
  | refine r_test ?_
  | refine r_tB ?_
  | refine r_bl ?_
  | refine r_and ?_
  | refine r_or ?_
  | refine r_not ?_
  | refine r_eqI ?_
  | refine r_neI ?_
  | refine r_eqS ?_
  | refine r_neS ?_
  | refine r_eqB ?_
  | refine r_tup ?_
  | refine r_lst ?_
  | refine r_drop ?_
  | refine r_par ?_
  | refine r_par2 (by walk_at "ns") ?_
  | refine r_par3 ?_
  | refine r_par3b (by walk_at "ns") ?_
  | refine r_aug (by walk_at "ix") ?_
  | refine r_ipI ?_
  | refine r_gcons ?_
  | refine r_gnil ?_
  | refine r_app ?_
  | refine r_for ?_
  | refine r_iL ?_
  | refine r_iT ?_
  | refine r_rng1 ?_
  | refine r_enum ?_
  | refine r_zip ?_
  | refine r_M1 ?_
  | refine r_isS ?_
  | refine r_callS ?_
  | refine r_raise ?_
  | refine r_callP ?_
  | refine r_lc ?_
  | refine r_next ?_
  | refine r_abs ?_
  | refine r_max2 ?_
  | refine r_min2 ?_
  | refine r_tPart ?_
  | refine r_noPart ?_
  | refine r_int ?_
  | refine r_sl ?_)
local macro_rules | `(tactic| walk_at "r1") => `(tactic| first
  | walk_at "r1s"
  | (with_reducible refine r_andV ?_)
  | (with_reducible refine r_orV ?_)
  | (with_reducible refine r_notV ?_)
  | (with_reducible refine r_chain ?_))
local macro_rules | `(tactic| walk_at "r2") => `(tactic| first
  | ((with_reducible refine' r_tup2 ?hq ?hn ?_); (case hq => walk_at "sq"); (case hn => exact rfl)))
local macro_rules | `(tactic| walk_at "rd") => `(tactic| repeat (first | walk_at "r1" | walk_at "r2"))
local macro_rules | `(tactic| walk_at "ss") => `(tactic| simp only [List.set_cons_succ, List.set_cons_zero])
local macro_rules | `(tactic| walk_at "rdI") => `(tactic| repeat (first | walk_at "r1" | walk_at "r2" | (with_reducible refine r_if ?_)))
local macro_rules | `(tactic| walk_at "rdS") => `(tactic| repeat (first | walk_at "r1s" | walk_at "r2"))
section
variable {P : Program} {w : World} {K : PySem.W.Frag} {mg : Str → Option Value} {base : Heap}
def sp_is_whole (K : PySem.W.Frag) : Sp := fun vs H Q _ => ∃ (i : Int), vs = [.int i] ∧ ∀ H', Ex H H' → Q (.bl true) H'
theorem c_is_whole (T : Txt K mg) : Cal P w K mg base 1 "is_whole" (sp_is_whole K) := by
  refine cal T.d_is_whole sc_is_whole (by rintro vs H Q E ⟨_, rfl, _⟩; rfl) (fun f cdv A outer s H vs Q E hr h => ?_)
  obtain ⟨i, rfl, k⟩ := h
  refine ⟨_, (pss_one (ps_ret (pe_and (pe_callB call_isi (by rfl) T.m_isinstance (by decide +kernel) (pa_cons (pv 0) (pa_cons (pe_bltn (v := .ty "int") (u := .type "int") (by rfl) T.m_int (by decide +kernel) rfl) pa_nil))) (pe_one (pe_not (pe_callB call_isi (by rfl) T.m_isinstance (by decide +kernel) (pa_cons (pv 0) (pa_cons (pe_bltn (v := .ty "bool") (u := .type "bool") (by rfl) T.m_bool (by decide +kernel) rfl) pa_nil)))))))), ?_⟩
  refine at_start (σ := [some (.int i)]) rfl ?_; simp only [kx, kx', kb, mx, mx', kb', kh, mh]
  walk_at "rd"
  refine r_isi (.ty "int") (.base (.int i)) (kit_ty (r := true) (by decide +kernel)) ?_
  walk_at "rd"
  refine r_isi (.ty "bool") (.base (.int i)) (kit_ty (r := false) (by decide +kernel)) ?_
  walk_at "rd"
  exact k _ (Evl.Ex.refl _)
def sp_is_stretch (K : PySem.W.Frag) : Sp := fun vs H Q _ => ∃ (t : Addr) (k : Bool) (m : Int), vs = [.ref t] ∧ H t = some (.tup [.str (kS k), .int m]) ∧ 1 ≤ m ∧ ∀ H', Ex H H' → Q (.bl true) H'
theorem c_is_stretch (T : Txt K mg) : Cal P w K mg base 2 "is_stretch" (sp_is_stretch K) := by
  refine cal T.d_is_stretch sc_is_stretch (by rintro vs H Q E ⟨_, _, _, rfl, _⟩; rfl) (fun f cdv A outer s H vs Q E hr h => ?_)
  obtain ⟨t, kk, m, rfl, ht, hm, k⟩ := h
  refine ⟨_, (pss_cons (ps_if (PW.pt (pw_or (pt_not (pt_val (pe_callB call_isi (by rfl) T.m_isinstance (by decide +kernel) (pa_cons (pv 0) (pa_cons (pe_bltn (v := .ty "tuple") (u := .type "tuple") (by rfl) T.m_tuple (by decide +kernel) rfl) pa_nil))))) (pw_or (pt_cmpR op_ne (pe_callB cr_len (by rfl) T.m_len (by decide +kernel) (pa_cons (pv 0) pa_nil)) pe_int (nomark _)) (pw_or1 (pt_not (pt_val (pe_callB call_isi (by rfl) T.m_isinstance (by decide +kernel) (pa_cons (pe_ix ix_tup (pv 0) pe_int (fun _ _ => rfl)) (pa_cons (pe_bltn (v := .ty "str") (u := .type "str") (by rfl) T.m_str (by decide +kernel) rfl) pa_nil))))))))) (pss_one (ps_ret pe_bl)) pss_nil)
        (pss_one (ps_ret (pe_and (pe_cmpR op_in_seq (pe_ix ix_tup (pv 0) pe_int (fun _ _ => rfl)) (pe_tup (pa_cons pe_str (pa_cons pe_str pa_nil))) (by rfl)) (pe_and (pe_c (c_is_whole T) hr (by decide) (by rfl) (pa_cons (pe_ix ix_tup (pv 0) pe_int (fun _ _ => rfl)) pa_nil)) (pe_one (pe_cmpR op_gt (pe_ix ix_tup (pv 0) pe_int (fun _ _ => rfl)) pe_int (nomark _)))))))), ?_⟩
  refine at_start (σ := [some (.ref t)]) rfl ?_; simp only [kx, kx', kb, mx, mx', kb', kh, mh]
  walk_at "rd"
  refine r_isi (.ty "tuple") (.base (.tup ht)) (kit_ty (r := true) (by decide +kernel)) ?_
  walk_at "rd"
  refine r_lenU (n := 2) (.of ht) rfl ?_
  walk_at "rd"
  refine iteN (fun e => absurd rfl e) (fun _ => ?_)
  walk_at "rd"
  refine r_ixT (i := 0) (v := .str (kS kk)) (.of ht) rfl ?_
  walk_at "rd"
  refine r_isi (.ty "str") (.base (.str _)) (kit_ty (r := true) (by decide +kernel)) ?_
  walk_at "rd"
  refine r_ixT (i := 0) (v := .str (kS kk)) (.of ht) rfl ?_
  walk_at "rd"
  refine r_mkU (by show 2 ≤ sizeLine; decide) fun p H1 n1 e1 h1 => ?_
  refine r_in (.inr (.of h1)) rfl rfl ?_
  rw [show inV (V.str (kS kk)) [V.str "a", V.str "b"] = true by cases kk <;> decide +kernel]
  walk_at "rd"
  refine r_ixT (i := 1) (v := .int m) (exU e1 (.of ht)) rfl ?_
  walk_at "rd"
  refine ⟨m, rfl, fun H2 e2 => ?_⟩
  walk_at "rd"
  refine r_ixT (i := 1) (v := .int m) (exU e2 (exU e1 (.of ht))) rfl ?_
  walk_at "rd"
  rw [decide_eq_true (show (0 : Int) < m by omega)]
  exact k _ (exT e2 e1)
def sp_check_ring (K : PySem.W.Frag) : Sp := fun vs H Q _ => ∃ (a : Addr) (r : Ring), vs = [.ref a] ∧ RingAt K H a r ∧ Ok r ∧ ∀ H', Ex H H' → Q .non H'
theorem c_check_ring (T : Txt K mg) : Cal P w K mg base 3 "check_ring" (sp_check_ring K) := by
  refine cal T.d_check_ring sc_check_ring (by rintro vs H Q E ⟨_, _, rfl, _⟩; rfl) (fun f cdv A outer s H vs Q E hr h => ?_)
  obtain ⟨a, r, rfl, hR, ok, k⟩ := h
  obtain ⟨xs, h1, h2, h3⟩ := id hR
  rw [List.length_map] at h2
  refine ⟨_, (pss_one (ps_if (PW.pt (pw_or (pt_not (pt_val (pe_callB call_isi (by rfl) T.m_isinstance (by decide +kernel) (pa_cons (pv 0) (pa_cons (pe_bltn (v := .ty "list") (u := .type "list") (by rfl) T.m_list (by decide +kernel) rfl) pa_nil))))) (pw_or (pt_cmpR op_eq (pe_callB cr_len (by rfl) T.m_len (by decide +kernel) (pa_cons (pv 0) pa_nil)) pe_int (nomark _)) (pw_or1 (pt_not (pt_val (pe_callB (cr_all rfl) (by rfl) T.m_all (by decide +kernel) (pa_cons (pe_lc (own := [("stretch", 1)]) (g := (gName 1)) rfl sc_check_ring.nd (pi_list (pv 0)) (blkOk_by (own := [("stretch", 1)]) (N := ["ring", "stretch"]) (sc := defScope s_check_ring) (by decide +kernel)) (fun _ _ _ _ _ => (pg_name (i := 1) sc_check_ring.nd rfl (by first | exact Or.inl rfl | exact Or.inr rfl))) (fun _ _ _ _ _ => pts_nil) (fun _ _ _ _ _ => (pe_c (c_is_stretch T) hr (by decide) (by rfl) (pa_cons (pv 1) pa_nil)))) pa_nil)))))))) (pss_one ps_never) pss_nil)), ?_⟩
  refine at_start (σ := [some (.ref a), none]) rfl ?_; simp only [kx, kx', kb, mx, mx', kb', kh, mh]
  walk_at "rd"
  refine r_isi (.ty "list") (.base (.lst h1)) (kit_ty (r := true) (by decide +kernel)) ?_
  walk_at "rd"
  refine r_len (n := r.length) (.of h1) h2 ?_
  walk_at "rd"
  refine iteD (fun e => absurd e (by have := ok.len; omega)) (fun _ => ?_)
  walk_at "rd"
  refine lcK_list ((r.map fun _ => true).map V.bl) (by simp [h2]) (.of h1) (by have := ok.few; omega) (fun _ => rfl) (fun i x y hx hy H1 e1 Q1 k1 => ?_) fun p H1 n1 e1 g1 => ?_
  · have hi : i < r.length := by have := (List.getElem?_eq_some_iff.mp hx).1; omega
    obtain ⟨q, z1, z2⟩ := h3 i (prV r[i]) (by rw [List.getElem?_map, List.getElem?_eq_getElem hi]; rfl)
    have ex : x = .ref q := Option.some.inj (hx.symm.trans z1)
    have ey : y = .bl true := by
      rw [List.getElem?_map, List.getElem?_map, List.getElem?_eq_getElem hi] at hy
      exact (Option.some.inj hy).symm
    subst ex ey
    walk_at "rd"
    exact ⟨q, _, _, rfl, e1 _ _ z2, ok.pos _ (List.getElem_mem hi), k1⟩
  · walk_at "rd"
    refine r_all (.of g1) ?_
    rw [show (r.map fun _ => true).all id = true by simp]
    walk_at "rd"
    exact k _ e1
def sp_whole_of (K : PySem.W.Frag) : Sp := fun vs H Q _ => ∃ (a : Addr) (r : Ring), vs = [.ref a] ∧ RingAt K H a r ∧ r.length ≤ 10000 ∧ ∀ H', Ex H H' → Q (.int (size r)) H'
theorem c_whole_of (T : Txt K mg) : Cal P w K mg base 1 "whole_of" (sp_whole_of K) := by
  refine cal T.d_whole_of sc_whole_of (by rintro vs H Q E ⟨_, _, rfl, _⟩; rfl) (fun f cdv A outer s H vs Q E hr h => ?_)
  obtain ⟨a, r, rfl, hR, hl, k⟩ := h
  refine ⟨_, (pss_one (ps_ret (pe_callB (cr_sum rfl) (by rfl) T.m_sum (by decide +kernel) (pa_cons (pe_lc (own := [("kind", 1), ("many", 2)]) (g := (gTup K 2 (gCons (gName 1) (gCons (gName 2) gNil)))) rfl sc_whole_of.nd (pi_list (pv 0)) (blkOk_by (own := [("kind", 1), ("many", 2)]) (N := ["ring", "kind", "many"]) (sc := defScope s_whole_of) (by decide +kernel)) (fun _ _ _ _ _ => (pg_tup (n := 2) rfl (pgs_cons (pg_name (i := 1) sc_whole_of.nd rfl (by first | exact Or.inl rfl | exact Or.inr rfl)) (pgs_cons (pg_name (i := 2) sc_whole_of.nd rfl (by first | exact Or.inl rfl | exact Or.inr rfl)) pgs_nil)))) (fun _ _ _ _ _ => pts_nil) (fun _ _ _ _ _ => (pv 2))) pa_nil)))), ?_⟩
  refine at_start (σ := [some (.ref a), none, none]) rfl ?_; simp only [kx, kx', kb, mx, mx', kb', kh, mh]
  walk_at "rd"
  refine lcK_ring (fun x => .int x.2) hR (by omega) (fun _ _ => rfl) (fun k m hm H1 e1 Q1 k1 => ?_) fun p H1 n1 e1 h1 => ?_
  · walk_at "rd"
    exact k1 _ (Evl.Ex.refl _)
  · walk_at "rd"
    refine r_sum (ns := r.map (·.2)) (.of (by rw [List.map_map]; exact h1)) ?_
    rw [size_sum]
    exact k _ e1
def sp_law_size (K : PySem.W.Frag) : Sp := fun vs H Q _ => ∃ (a : Addr) (r : Ring), vs = [.ref a] ∧ RingAt K H a r ∧ r.length ≤ 10000 ∧ ∀ H', Ex H H' → Q (.int (size r)) H'
theorem c_law_size (T : Txt K mg) : Cal P w K mg base 1 "_law_size" (sp_law_size K) := by
  refine cal T.d__law_size sc_law_size (by rintro vs H Q E ⟨_, _, rfl, _⟩; rfl) (fun f cdv A outer s H vs Q E hr h => ?_)
  obtain ⟨a, r, rfl, hR, hl, k⟩ := h
  refine ⟨_, (pss_one (ps_ret (pe_callB (cr_sum rfl) (by rfl) T.m_sum (by decide +kernel) (pa_cons (pe_lc (own := [("_law_kind", 1), ("_law_many", 2)]) (g := (gTup K 2 (gCons (gName 1) (gCons (gName 2) gNil)))) rfl sc_law_size.nd (pi_list (pv 0)) (blkOk_by (own := [("_law_kind", 1), ("_law_many", 2)]) (N := ["_law_ring_here", "_law_kind", "_law_many"]) (sc := defScope s_law_size) (by decide +kernel)) (fun _ _ _ _ _ => (pg_tup (n := 2) rfl (pgs_cons (pg_name (i := 1) sc_law_size.nd rfl (by first | exact Or.inl rfl | exact Or.inr rfl)) (pgs_cons (pg_name (i := 2) sc_law_size.nd rfl (by first | exact Or.inl rfl | exact Or.inr rfl)) pgs_nil)))) (fun _ _ _ _ _ => pts_nil) (fun _ _ _ _ _ => (pv 2))) pa_nil)))), ?_⟩
  refine at_start (σ := [some (.ref a), none, none]) rfl ?_; simp only [kx, kx', kb, mx, mx', kb', kh, mh]
  walk_at "rd"
  refine lcK_ring (fun x => .int x.2) hR (by omega) (fun _ _ => rfl) (fun k m hm H1 e1 Q1 k1 => ?_) fun p H1 n1 e1 h1 => ?_
  · walk_at "rd"
    exact k1 _ (Evl.Ex.refl _)
  · walk_at "rd"
    refine r_sum (ns := r.map (·.2)) (.of (by rw [List.map_map]; exact h1)) ?_
    rw [size_sum]
    exact k _ e1
def sp_check_place (K : PySem.W.Frag) : Sp := fun vs H Q _ => ∃ (a : Addr) (r : Ring) (p : Int), vs = [.ref a, .int p] ∧ RingAt K H a r ∧ r.length ≤ 10000 ∧ 0 ≤ p ∧ p < size r ∧ ∀ H', Ex H H' → Q .non H'
theorem c_check_place (T : Txt K mg) : Cal P w K mg base 2 "check_place" (sp_check_place K) := by
  refine cal T.d_check_place sc_check_place (by rintro vs H Q E ⟨_, _, _, rfl, _⟩; rfl) (fun f cdv A outer s H vs Q E hr h => ?_)
  obtain ⟨a, r, p, rfl, hR, hl, h0, h1, k⟩ := h
  refine ⟨_, (pss_one (ps_if (PW.pt (pw_or (pt_not (pt_val (pe_c (c_is_whole T) hr (by decide) (by rfl) (pa_cons (pv 1) pa_nil)))) (pw_or1 (pt_not (pt_chain op_le op_lt pe_int (pv 1) (pe_c (c_whole_of T) hr (by decide) (by rfl) (pa_cons (pv 0) pa_nil))))))) (pss_one ps_never) pss_nil)), ?_⟩
  refine at_start (σ := [some (.ref a), some (.int p)]) rfl ?_; simp only [kx, kx', kb, mx, mx', kb', kh, mh]
  walk_at "rd"
  refine ⟨p, rfl, fun H1 e1 => ?_⟩
  walk_at "rd"
  refine iteD (fun _ => ?_) (fun e => absurd h0 e)
  walk_at "rd"
  refine ⟨a, r, rfl, hR.ex e1, hl, fun H2 e2 => ?_⟩
  walk_at "rd"
  rw [decide_eq_true h1]
  walk_at "rd"
  exact k _ (exT e2 e1)
def sp_check_count (K : PySem.W.Frag) : Sp := fun vs H Q _ => ∃ (p : Int), vs = [.int p] ∧ 0 ≤ p ∧ ∀ H', Ex H H' → Q .non H'
theorem c_check_count (T : Txt K mg) : Cal P w K mg base 2 "check_count" (sp_check_count K) := by
  refine cal T.d_check_count sc_check_count (by rintro vs H Q E ⟨_, rfl, _⟩; rfl) (fun f cdv A outer s H vs Q E hr h => ?_)
  obtain ⟨p, rfl, h0, k⟩ := h
  refine ⟨_, (pss_one (ps_if (PW.pt (pw_or (pt_not (pt_val (pe_c (c_is_whole T) hr (by decide) (by rfl) (pa_cons (pv 0) pa_nil)))) (pw_or1 (pt_cmpR op_lt (pv 0) pe_int (nomark _))))) (pss_one ps_never) pss_nil)), ?_⟩
  refine at_start (σ := [some (.int p)]) rfl ?_; simp only [kx, kx', kb, mx, mx', kb', kh, mh]
  walk_at "rd"
  refine ⟨p, rfl, fun H1 e1 => ?_⟩
  walk_at "rd"
  refine iteD (fun e => absurd e (by omega)) (fun _ => ?_)
  walk_at "rd"
  exact k _ e1
def sp_w_is_whole (K : PySem.W.Frag) : Sp := fun vs H Q _ => ∃ (v : V) (t : Ty) (b : Bool), vs = [v] ∧ IsT H v t ∧ b = decide (t = .int) ∧ ∀ H', Ex H H' → Q (.bl b) H'
theorem w_is_whole (T : Txt K mg) : Cal P w K mg base 1 "is_whole" (sp_w_is_whole K) := by
  refine cal T.d_is_whole sc_is_whole (by rintro vs H Q E ⟨_, _, _, rfl, _⟩; rfl) (fun f cdv A outer s H vs Q E hr h => ?_)
  obtain ⟨v, t, b, rfl, ht, rfl, k⟩ := h
  refine ⟨_, (pss_one (ps_ret (pe_and (pe_callB call_isi (by rfl) T.m_isinstance (by decide +kernel) (pa_cons (pv 0) (pa_cons (pe_bltn (v := .ty "int") (u := .type "int") (by rfl) T.m_int (by decide +kernel) rfl) pa_nil))) (pe_one (pe_not (pe_callB call_isi (by rfl) T.m_isinstance (by decide +kernel) (pa_cons (pv 0) (pa_cons (pe_bltn (v := .ty "bool") (u := .type "bool") (by rfl) T.m_bool (by decide +kernel) rfl) pa_nil)))))))), ?_⟩
  refine at_start (σ := [some (v)]) rfl ?_; simp only [kx, kx', kb, mx, mx', kb', kh, mh]
  walk_at "rd"
  refine r_isi (.ty "int") ht.ty (kit_int t) ?_
  walk_at "rd"
  refine iteD (fun e => ?_) (fun e => ?_)
  · walk_at "rd"
    refine r_isi (.ty "bool") ht.ty (kit_bool t) ?_
    walk_at "rd"
    have z := k _ (Evl.Ex.refl _)
    rw [show decide (t = Ty.int) = !decide (t = Ty.bl) by rcases e with rfl | rfl <;> rfl] at z
    exact z
  · walk_at "rd"
    have z := k _ (Evl.Ex.refl _)
    rw [decide_eq_false fun q => e (.inl q)] at z
    exact z
def sp_w_is_stretch (K : PySem.W.Frag) : Sp := fun vs H Q _ => ∃ (v : V) (b : Bool), vs = [v] ∧ Stt H v b ∧ ∀ H', Ex H H' → Q (.bl b) H'
set_option maxHeartbeats 2000000 in
theorem w_is_stretch (T : Txt K mg) : Cal P w K mg base 2 "is_stretch" (sp_w_is_stretch K) := by
  refine cal T.d_is_stretch sc_is_stretch (by rintro vs H Q E ⟨_, _, rfl, _⟩; rfl) (fun f cdv A outer s H vs Q E hr h => ?_)
  obtain ⟨v, b, rfl, hs, k⟩ := h
  refine ⟨_, (pss_cons (ps_if (PW.pt (pw_or (pt_not (pt_val (pe_callB call_isi (by rfl) T.m_isinstance (by decide +kernel) (pa_cons (pv 0) (pa_cons (pe_bltn (v := .ty "tuple") (u := .type "tuple") (by rfl) T.m_tuple (by decide +kernel) rfl) pa_nil))))) (pw_or (pt_cmpR op_ne (pe_callB cr_len (by rfl) T.m_len (by decide +kernel) (pa_cons (pv 0) pa_nil)) pe_int (nomark _)) (pw_or1 (pt_not (pt_val (pe_callB call_isi (by rfl) T.m_isinstance (by decide +kernel) (pa_cons (pe_ix ix_tup (pv 0) pe_int (fun _ _ => rfl)) (pa_cons (pe_bltn (v := .ty "str") (u := .type "str") (by rfl) T.m_str (by decide +kernel) rfl) pa_nil))))))))) (pss_one (ps_ret pe_bl)) pss_nil)
        (pss_one (ps_ret (pe_and (pe_cmpR op_in_seq (pe_ix ix_tup (pv 0) pe_int (fun _ _ => rfl)) (pe_tup (pa_cons pe_str (pa_cons pe_str pa_nil))) (by rfl)) (pe_and (pe_c (w_is_whole T) hr (by decide) (by rfl) (pa_cons (pe_ix ix_tup (pv 0) pe_int (fun _ _ => rfl)) pa_nil)) (pe_one (pe_cmpR op_gt (pe_ix ix_tup (pv 0) pe_int (fun _ _ => rfl)) pe_int (nomark _)))))))), ?_⟩
  refine at_start (σ := [some (v)]) rfl ?_; simp only [kx, kx', kb, mx, mx', kb', kh, mh]
  cases hs with
  | no h n =>
    walk_at "rd"
    refine r_isi (.ty "tuple") h.ty (kit_tuple _) ?_
    rw [decide_eq_false n]
    walk_at "rd"
    exact k _ (Evl.Ex.refl _)
  | len h n =>
    walk_at "rd"
    refine r_isi (.ty "tuple") (IsT.tup h).ty (kit_tuple _) ?_
    rw [decide_eq_true rfl]
    walk_at "rd"
    refine r_lenU (.of h) rfl ?_
    walk_at "rd"
    refine iteN (fun _ => ?_) (fun e => absurd (by omega) n)
    walk_at "rd"
    exact k _ (Evl.Ex.refl _)
  | @fst a x y t h hx n =>
    walk_at "rd"
    refine r_isi (.ty "tuple") (IsT.tup h).ty (kit_tuple _) ?_
    rw [decide_eq_true rfl]
    walk_at "rd"
    refine r_lenU (n := 2) (.of h) rfl ?_
    walk_at "rd"
    refine iteN (fun e => absurd rfl e) (fun _ => ?_)
    walk_at "rd"
    refine r_ixT (i := 0) (v := x) (.of h) rfl ?_
    walk_at "rd"
    refine r_isi (.ty "str") hx.ty (kit_str _) ?_
    rw [decide_eq_false n]
    walk_at "rd"
    exact k _ (Evl.Ex.refl _)
  | @letter a s y h n =>
    walk_at "rd"
    refine r_isi (.ty "tuple") (IsT.tup h).ty (kit_tuple _) ?_
    rw [decide_eq_true rfl]
    walk_at "rd"
    refine r_lenU (n := 2) (.of h) rfl ?_
    walk_at "rd"
    refine iteN (fun e => absurd rfl e) (fun _ => ?_)
    walk_at "rd"
    refine r_ixT (i := 0) (v := .str s) (.of h) rfl ?_
    walk_at "rd"
    refine r_isi (.ty "str") (.base (.str _)) (kit_ty (r := true) (by decide +kernel)) ?_
    walk_at "rd"
    refine r_ixT (i := 0) (v := .str s) (.of h) rfl ?_
    walk_at "rd"
    refine r_mkU (by show 2 ≤ sizeLine; decide) fun p H1 n1 e1 h1 => ?_
    refine r_in (.inr (.of h1)) rfl rfl ?_
    rw [n]
    walk_at "rd"
    exact k _ e1
  | @snd a kk y t h hy n =>
    walk_at "rd"
    refine r_isi (.ty "tuple") (IsT.tup h).ty (kit_tuple _) ?_
    rw [decide_eq_true rfl]
    walk_at "rd"
    refine r_lenU (n := 2) (.of h) rfl ?_
    walk_at "rd"
    refine iteN (fun e => absurd rfl e) (fun _ => ?_)
    walk_at "rd"
    refine r_ixT (i := 0) (v := .str (kS kk)) (.of h) rfl ?_
    walk_at "rd"
    refine r_isi (.ty "str") (.base (.str _)) (kit_ty (r := true) (by decide +kernel)) ?_
    walk_at "rd"
    refine r_ixT (i := 0) (v := .str (kS kk)) (.of h) rfl ?_
    walk_at "rd"
    refine r_mkU (by show 2 ≤ sizeLine; decide) fun p H1 n1 e1 h1 => ?_
    refine r_in (.inr (.of h1)) rfl rfl ?_
    rw [show inV (V.str (kS kk)) [V.str "a", V.str "b"] = true by cases kk <;> decide +kernel]
    walk_at "rd"
    refine r_ixT (i := 1) (v := y) (exU e1 (.of h)) rfl ?_
    walk_at "rd"
    refine ⟨y, t, false, rfl, hy.ex e1, (decide_eq_false n).symm, fun H2 e2 => ?_⟩
    walk_at "rd"
    exact k _ (exT e2 e1)
  | @low a kk m h n =>
    walk_at "rd"
    refine r_isi (.ty "tuple") (IsT.tup h).ty (kit_tuple _) ?_
    rw [decide_eq_true rfl]
    walk_at "rd"
    refine r_lenU (n := 2) (.of h) rfl ?_
    walk_at "rd"
    refine iteN (fun e => absurd rfl e) (fun _ => ?_)
    walk_at "rd"
    refine r_ixT (i := 0) (v := .str (kS kk)) (.of h) rfl ?_
    walk_at "rd"
    refine r_isi (.ty "str") (.base (.str _)) (kit_ty (r := true) (by decide +kernel)) ?_
    walk_at "rd"
    refine r_ixT (i := 0) (v := .str (kS kk)) (.of h) rfl ?_
    walk_at "rd"
    refine r_mkU (by show 2 ≤ sizeLine; decide) fun p H1 n1 e1 h1 => ?_
    refine r_in (.inr (.of h1)) rfl rfl ?_
    rw [show inV (V.str (kS kk)) [V.str "a", V.str "b"] = true by cases kk <;> decide +kernel]
    walk_at "rd"
    refine r_ixT (i := 1) (v := .int m) (exU e1 (.of h)) rfl ?_
    walk_at "rd"
    refine ⟨_, _, true, rfl, .int m, rfl, fun H2 e2 => ?_⟩
    walk_at "rd"
    refine r_ixT (i := 1) (v := .int m) (exU e2 (exU e1 (.of h))) rfl ?_
    walk_at "rd"
    rw [decide_eq_false (show ¬ (0 : Int) < m by omega)]
    exact k _ (exT e2 e1)
  | @ok a kk m h n =>
    walk_at "rd"
    refine r_isi (.ty "tuple") (IsT.tup h).ty (kit_tuple _) ?_
    rw [decide_eq_true rfl]
    walk_at "rd"
    refine r_lenU (n := 2) (.of h) rfl ?_
    walk_at "rd"
    refine iteN (fun e => absurd rfl e) (fun _ => ?_)
    walk_at "rd"
    refine r_ixT (i := 0) (v := .str (kS kk)) (.of h) rfl ?_
    walk_at "rd"
    refine r_isi (.ty "str") (.base (.str _)) (kit_ty (r := true) (by decide +kernel)) ?_
    walk_at "rd"
    refine r_ixT (i := 0) (v := .str (kS kk)) (.of h) rfl ?_
    walk_at "rd"
    refine r_mkU (by show 2 ≤ sizeLine; decide) fun p H1 n1 e1 h1 => ?_
    refine r_in (.inr (.of h1)) rfl rfl ?_
    rw [show inV (V.str (kS kk)) [V.str "a", V.str "b"] = true by cases kk <;> decide +kernel]
    walk_at "rd"
    refine r_ixT (i := 1) (v := .int m) (exU e1 (.of h)) rfl ?_
    walk_at "rd"
    refine ⟨_, _, true, rfl, .int m, rfl, fun H2 e2 => ?_⟩
    walk_at "rd"
    refine r_ixT (i := 1) (v := .int m) (exU e2 (exU e1 (.of h))) rfl ?_
    walk_at "rd"
    rw [decide_eq_true (show (0 : Int) < m by omega)]
    exact k _ (exT e2 e1)
def sp_table_of (K : PySem.W.Frag) : Sp := fun vs H Q _ => ∃ (a : Addr) (r : Ring), vs = [.ref a] ∧ RingAt K H a r ∧ r.length ≤ 10000 ∧ ∀ t H', Ex H H' → TabAt K H' t r → Q (.ref t) H'
theorem c_table_of (T : Txt K mg) : Cal P w K mg base 1 "table_of" (sp_table_of K) := by
  refine cal T.d_table_of sc_table_of (by rintro vs H Q E ⟨_, _, rfl, _⟩; rfl) (fun f cdv A outer s H vs Q E hr h => ?_)
  obtain ⟨a, r, rfl, hR, hl, k⟩ := h
  refine ⟨_, (pss_cons (ps_set (i := 1) sc_table_of.nd rfl (by first | exact Or.inl rfl | exact Or.inr rfl) (pe_lst (pa_cons pe_int pa_nil)))
        (pss_cons (ps_set (i := 2) sc_table_of.nd rfl (by first | exact Or.inl rfl | exact Or.inr rfl) (pe_lst (pa_cons pe_int pa_nil)))
        (pss_cons (ps_for PassesOwn.never rfl (pi_list (pv 0)) (pg_tup (n := 2) rfl (pgs_cons (pg_name (i := 3) sc_table_of.nd rfl (by first | exact Or.inl rfl | exact Or.inr rfl)) (pgs_cons (pg_name (i := 4) sc_table_of.nd rfl (by first | exact Or.inl rfl | exact Or.inr rfl)) pgs_nil)))
          (pss_cons (ps_expr (pe_bm PySem.F.plainAttrs_list PySem.F.slot_list_append PySem.F.type_list_append mt_append (pv 1) (pa_cons (pe_op op_add (pe_ix ix_list (pv 1) (pe_un un_neg pe_int) (fun _ _ => rfl)) (pv 4)) pa_nil)))
          (pss_one (ps_expr (pe_bm PySem.F.plainAttrs_list PySem.F.slot_list_append PySem.F.type_list_append mt_append (pv 2) (pa_cons (pe_op op_add (pe_ix ix_list (pv 2) (pe_un un_neg pe_int) (fun _ _ => rfl)) (pe_ifExp (pt_cmpR op_eq (pv 3) pe_str (nomark _)) (pv 4) pe_int)) pa_nil))))))
        (pss_one (ps_ret (pe_tup (pa_cons (pv 1) (pa_cons (pv 2) pa_nil)))))))), ?_⟩
  refine at_start (σ := [some (.ref a), none, none, none, none]) rfl ?_; simp only [kx, kx', kb, mx, mx', kb', kh, mh]
  walk_at "rd"
  refine r_mkL (by decide) fun p H1 n1 e1 h1 => ?_
  walk_at "rd"
  refine r_mkL (by decide) fun q H2 n2 e2 h2 => ?_
  walk_at "rd"
  have npq : p ≠ q := ne_of_none h1 n2
  have ep : Ex H H2 := exT e2 e1
  refine forK_ring H hR (fun n σ' H' => ∃ x y, σ' = [some (.ref a), some (.ref p), some (.ref q), x, y] ∧ Ex H H' ∧ H' p = some (.lst ((ends (r.take n)).map V.int)) ∧ H' q = some (.lst ((sums (r.take n)).map V.int)))
    ⟨none, none, rfl, ep, e2 _ _ h1, h2⟩ (fun n σ' H' ⟨_, _, _, e, _⟩ => e) ?_ ?_
  · rintro n kk m σ' H' hn ⟨x, y, rfl, e, hp, hq⟩
    have hln : n < r.length := (List.getElem?_eq_some_iff.mp hn).1
    walk_at "rd"
    refine r_app1 hp ?_
    walk_at "rd"
    refine r_ixL (SqL.of hp) (ends_last_at _) ?_
    walk_at "rd"
    refine r_app2 hp (Evl.sz_lt (by rw [List.length_map, ends_len, List.length_take]; omega)) ?_
    have hq' : (upd H' p (.lst ((ends (r.take n)).map V.int ++ [.int (size (r.take n) + m)]))) q = some (.lst ((sums (r.take n)).map V.int)) := by
      rw [upd_ne npq.symm]; exact hq
    walk_at "rd"
    refine r_app1 hq' ?_
    walk_at "rd"
    refine r_ixL (SqL.of hq') (sums_last_at _) ?_
    walk_at "rdI"
    rw [kS_a]
    cases kk
    all_goals
      walk_at "rd"
      refine r_app2 hq' (Evl.sz_lt (by rw [List.length_map, sums_len, List.length_take]; omega)) ?_
      refine ⟨_, _, rfl, exM (exM e n1) (exB e1 n2), ?_, ?_⟩
      · rw [upd_ne npq, upd_same, ends_snoc hn, List.map_append]
        rfl
      · rw [upd_same, sums_snoc hn, List.map_append]
        rfl
  · rintro σ' H' ⟨x, y, rfl, e, hp, hq⟩
    rw [List.take_length] at hp hq
    walk_at "rd"
    refine r_mkU (by show 2 ≤ sizeLine; decide) fun t H3 n3 e3 h3 => ?_
    exact k t H3 (exT e3 e) ⟨p, q, SqT.of h3, SqL.of (e3 _ _ hp), SqL.of (e3 _ _ hq)⟩
def sp_law_table (K : PySem.W.Frag) : Sp := fun vs H Q _ => ∃ (a : Addr) (r : Ring), vs = [.ref a] ∧ RingAt K H a r ∧ r.length ≤ 10000 ∧ ∀ t H', Ex H H' → TabAt K H' t r → Q (.ref t) H'
theorem c_law_table (T : Txt K mg) : Cal P w K mg base 1 "_law_table" (sp_law_table K) := by
  refine cal T.d__law_table sc_law_table (by rintro vs H Q E ⟨_, _, rfl, _⟩; rfl) (fun f cdv A outer s H vs Q E hr h => ?_)
  obtain ⟨a, r, rfl, hR, hl, k⟩ := h
  refine ⟨_, (pss_cons (ps_par (i := 1) (j := 2) rfl sc_law_table.nd rfl rfl (by decide) rfl rfl (pa_cons (pe_lst (pa_cons pe_int pa_nil)) (pa_cons (pe_lst (pa_cons pe_int pa_nil)) pa_nil)) rfl)
        (pss_cons (ps_for PassesOwn.never rfl (pi_list (pv 0)) (pg_tup (n := 2) rfl (pgs_cons (pg_name (i := 3) sc_law_table.nd rfl (by first | exact Or.inl rfl | exact Or.inr rfl)) (pgs_cons (pg_name (i := 4) sc_law_table.nd rfl (by first | exact Or.inl rfl | exact Or.inr rfl)) pgs_nil)))
          (pss_cons (ps_expr (pe_bm PySem.F.plainAttrs_list PySem.F.slot_list_append PySem.F.type_list_append mt_append (pv 1) (pa_cons (pe_op op_add (pe_ix ix_list (pv 1) (pe_un un_neg pe_int) (fun _ _ => rfl)) (pv 4)) pa_nil)))
          (pss_one (ps_expr (pe_bm PySem.F.plainAttrs_list PySem.F.slot_list_append PySem.F.type_list_append mt_append (pv 2) (pa_cons (pe_op op_add (pe_ix ix_list (pv 2) (pe_un un_neg pe_int) (fun _ _ => rfl)) (pe_ifExp (pt_cmpR op_eq (pv 3) pe_str (nomark _)) (pv 4) pe_int)) pa_nil))))))
        (pss_one (ps_ret (pe_tup (pa_cons (pv 1) (pa_cons (pv 2) pa_nil))))))), ?_⟩
  refine at_start (σ := [some (.ref a), none, none, none, none]) rfl ?_; simp only [kx, kx', kb, mx, mx', kb', kh, mh]
  walk_at "rd"
  refine r_mkL (by decide) fun p H1 n1 e1 h1 => ?_
  walk_at "rd"
  refine r_mkL (by decide) fun q H2 n2 e2 h2 => ?_
  walk_at "rd"
  have npq : p ≠ q := ne_of_none h1 n2
  have ep : Ex H H2 := exT e2 e1
  refine forK_ring H hR (fun n σ' H' => ∃ x y, σ' = [some (.ref a), some (.ref p), some (.ref q), x, y] ∧ Ex H H' ∧ H' p = some (.lst ((ends (r.take n)).map V.int)) ∧ H' q = some (.lst ((sums (r.take n)).map V.int)))
    ⟨none, none, rfl, ep, e2 _ _ h1, h2⟩ (fun n σ' H' ⟨_, _, _, e, _⟩ => e) ?_ ?_
  · rintro n kk m σ' H' hn ⟨x, y, rfl, e, hp, hq⟩
    have hln : n < r.length := (List.getElem?_eq_some_iff.mp hn).1
    walk_at "rd"
    refine r_app1 hp ?_
    walk_at "rd"
    refine r_ixL (SqL.of hp) (ends_last_at _) ?_
    walk_at "rd"
    refine r_app2 hp (Evl.sz_lt (by rw [List.length_map, ends_len, List.length_take]; omega)) ?_
    have hq' : (upd H' p (.lst ((ends (r.take n)).map V.int ++ [.int (size (r.take n) + m)]))) q = some (.lst ((sums (r.take n)).map V.int)) := by
      rw [upd_ne npq.symm]; exact hq
    walk_at "rd"
    refine r_app1 hq' ?_
    walk_at "rd"
    refine r_ixL (SqL.of hq') (sums_last_at _) ?_
    walk_at "rdI"
    rw [kS_a]
    cases kk
    all_goals
      walk_at "rd"
      refine r_app2 hq' (Evl.sz_lt (by rw [List.length_map, sums_len, List.length_take]; omega)) ?_
      refine ⟨_, _, rfl, exM (exM e n1) (exB e1 n2), ?_, ?_⟩
      · rw [upd_ne npq, upd_same, ends_snoc hn, List.map_append]
        rfl
      · rw [upd_same, sums_snoc hn, List.map_append]
        rfl
  · rintro σ' H' ⟨x, y, rfl, e, hp, hq⟩
    rw [List.take_length] at hp hq
    walk_at "rd"
    refine r_mkU (by show 2 ≤ sizeLine; decide) fun t H3 n3 e3 h3 => ?_
    exact k t H3 (exT e3 e) ⟨p, q, SqT.of h3, SqL.of (e3 _ _ hp), SqL.of (e3 _ _ hq)⟩
def sp_check_times (K : PySem.W.Frag) : Sp := fun vs H Q _ => ∃ (t : Int), vs = [.int t] ∧ 1 ≤ t ∧ ∀ H', Ex H H' → Q .non H'
theorem c_check_times (T : Txt K mg) : Cal P w K mg base 2 "check_times" (sp_check_times K) := by
  refine cal T.d_check_times sc_check_times (by rintro vs H Q E ⟨_, rfl, _⟩; rfl) (fun f cdv A outer s H vs Q E hr h => ?_)
  obtain ⟨t, rfl, h0, k⟩ := h
  refine ⟨_, (pss_one (ps_if (PW.pt (pw_or (pt_not (pt_val (pe_c (c_is_whole T) hr (by decide) (by rfl) (pa_cons (pv 0) pa_nil)))) (pw_or1 (pt_cmpR op_lt (pv 0) pe_int (nomark _))))) (pss_one ps_never) pss_nil)), ?_⟩
  refine at_start (σ := [some (.int t)]) rfl ?_; simp only [kx, kx', kb, mx, mx', kb', kh, mh]
  walk_at "rd"
  refine ⟨t, rfl, fun H1 e1 => ?_⟩
  walk_at "rd"
  refine iteD (fun e => absurd e (by omega)) (fun _ => ?_)
  walk_at "rd"
  exact k _ e1
/-- times, not too far for what they are multiplied with -/
abbrev Tm (t : Int) : Prop := 1 ≤ t ∧ t ≤ 100000000000000000000000000000000000000000000000000000000000
def sp_more_of (K : PySem.W.Frag) : Sp := fun vs H Q _ => ∃ (a : Addr) (r : Ring) (t : Int), vs = [.ref a, .int t] ∧ RingAt K H a r ∧ Ok r ∧ Tm t ∧ ∀ H', Ex H H' → Q (.int (hgt t r)) H'
theorem c_more_of (T : Txt K mg) : Cal P w K mg base 2 "more_of" (sp_more_of K) := by
  refine cal T.d_more_of sc_more_of (by rintro vs H Q E ⟨_, _, _, rfl, _⟩; rfl) (fun f cdv A outer s H vs Q E hr h => ?_)
  obtain ⟨a, r, t, rfl, hR, ok, ht, k⟩ := h
  have few := ok.few
  have W1 := ok.size_lt
  have m := mine_le r ok.pos
  refine ⟨_, (pss_cons (ps_set (i := 2) sc_more_of.nd rfl (by first | exact Or.inl rfl | exact Or.inr rfl) (pe_ix ix_list (pe_ix ix_tup (pe_c (c_table_of T) hr (by decide) (by rfl) (pa_cons (pv 0) pa_nil)) pe_int (fun _ _ => rfl)) (pe_un un_neg pe_int) (fun _ _ => rfl)))
        (pss_one (ps_ret (pe_op op_sub (pv 2) (pe_op op_mulX (pv 1) (pe_op op_sub (pe_c (c_whole_of T) hr (by decide) (by rfl) (pa_cons (pv 0) pa_nil)) (pv 2))))))), ?_⟩
  refine at_start (σ := [some (.ref a), some (.int t), none]) rfl ?_; simp only [kx, kx', kb, mx, mx', kb', kh, mh]
  walk_at "rd"
  refine ⟨a, r, rfl, hR, by omega, fun tb H1 e1 hT => ?_⟩
  obtain ⟨p, q, z1, z2, z3⟩ := hT
  walk_at "rd"
  refine r_ixT (i := 1) (v := .ref q) z1 rfl ?_
  walk_at "rd"
  refine r_ixL z3 (sums_last_at r) ?_
  walk_at "rd"
  refine ⟨a, r, rfl, hR.ex e1, by omega, fun H2 e2 => ?_⟩
  walk_at "rd"
  refine r_I (mulx_60 (by omega) (by omega)) ?_
  walk_at "rd"
  rw [surplus_eq]
  exact k _ (exT e2 e1)
def unii (f : Int × Int → V) : V × V → V
  | (.int a, .int b) => f (a, b)
  | _ => .non
theorem forK_parts {a : Addr} {ps : List (Int × Int)} {i j : Nat} {tb : TS} {nx : L2.St → Hp → Prop} {rt : VK} {bk ct : L2.St → Hp → Prop} {σ : L2.St} {H : Hp} (H0 : Hp) (h0 : PartsAt K H0 a ps) (Pv : Nat → L2.St → Hp → Prop) (p0 : Pv 0 σ H)
    (hx : ∀ n σ' H', Pv n σ' H' → Ex H0 H')
    (hs : ∀ n x y σ' H', ps[n]? = some (x, y) → Pv n σ' H' → tb ⟨Pv (n + 1), rt, nx, Pv (n + 1)⟩ ((σ'.set i (some (.int x))).set j (some (.int y))) H')
    (hd : ∀ σ' H', Pv ps.length σ' H' → nx σ' H') : ∃ a', V.ref a = .ref a' ∧ (∃ xs, SqL K H a' xs) ∧ ForK (gPair K i j) tb ⟨nx, rt, bk, ct⟩ σ (Itl K a') H := by
  refine forK_pairs H0 h0 Pv p0 hx (fun n x σ' H' hn p => ?_) (fun σ' H' p => hd σ' H' (by rw [List.length_map] at p; exact p))
  rw [List.getElem?_map] at hn
  cases e : ps[n]? with
  | none => rw [e] at hn; cases hn
  | some y =>
    rw [e] at hn
    cases hn
    exact hs n y.1 y.2 σ' H' e p
theorem lcK_parts {a : Addr} {ps : List (Int × Int)} {te : TE} {i j : Nat} {ws : List Nat} {σ : L2.St} {H : Hp} {Q : VK} (f : Int × Int → V) (h0 : PartsAt K H a ps) (hz : ps.length ≤ 40000)
    (hw : ∀ x y, wipe (((wipe σ ws).set i (some x)).set j (some y)) ws = wipe σ ws)
    (he : ∀ x y, (x, y) ∈ ps → ∀ H1, Ex H H1 → ∀ Q : VK, (∀ H2, Ex H1 H2 → Q (f (x, y)) H2) → te (((wipe σ ws).set i (some (.int x))).set j (some (.int y))) H1 Q)
    (q : ∀ p H', H p = none → Ex H H' → H' p = some (.lst (ps.map f)) → Q (.ref p) H') : ∃ a', V.ref a = .ref a' ∧ (∃ xs, SqL K H a' xs) ∧ LcK (gPair K i j) tYes te ws σ Q (Itl K a') H := by
  have em : (ps.map iiV).map (unii f) = ps.map f := by
    rw [List.map_map]
    exact List.map_congr_left fun x _ => rfl
  refine lcK_pairs (unii f) h0 (by rw [List.length_map]; exact hz) hw (fun x hx H1 e1 Q1 k1 => ?_) (fun p H' n e h => q p H' n e (by rw [h, em]))
  obtain ⟨y, hy, rfl⟩ := List.mem_map.mp hx
  exact he y.1 y.2 hy H1 e1 Q1 fun H2 e2 => k1 H2 e2
theorem Low.one {t : Int} {r : Ring} {b b' : Int} (h : Low t r b) (h' : Low t r b') : b = b' := by
  obtain ⟨i, i1, i2, rfl⟩ := h.at_
  obtain ⟨j, j1, j2, rfl⟩ := h'.at_
  have z1 := h.le j j1 j2
  have z2 := h'.le i i1 i2
  omega
def sp_starts (K : PySem.W.Frag) : Sp := fun vs H Q _ => ∃ (a : Addr) (r : Ring) (t : Int), vs = [.ref a, .int t] ∧ RingAt K H a r ∧ Ok r ∧ Tm t ∧ ∀ H', Ex H H' → Q (.int (max 0 (hgt t r))) H'
theorem c_starts (T : Txt K mg) : Cal P w K mg base 4 "starts" (sp_starts K) := by
  refine cal T.d_starts sc_starts (by rintro vs H Q E ⟨_, _, _, rfl, _⟩; rfl) (fun f cdv A outer s H vs Q E hr h => ?_)
  obtain ⟨a, r, t, rfl, hR, ok, ht, k⟩ := h
  refine ⟨_, (pss_cons (ps_expr (pe_c (c_check_ring T) hr (by decide) (by rfl) (pa_cons (pv 0) pa_nil)))
        (pss_cons (ps_expr (pe_c (c_check_times T) hr (by decide) (by rfl) (pa_cons (pv 1) pa_nil)))
        (pss_one (ps_ret (pe_callB (cr_max2 rfl) (by rfl) T.m_max (by decide +kernel) (pa_cons pe_int (pa_cons (pe_c (c_more_of T) hr (by decide) (by rfl) (pa_cons (pv 0) (pa_cons (pv 1) pa_nil))) pa_nil))))))), ?_⟩
  refine at_start (σ := [some (.ref a), some (.int t)]) rfl ?_; simp only [kx, kx', kb, mx, mx', kb', kh, mh]
  walk_at "rd"
  refine ⟨a, r, rfl, hR, ok, fun H1 e1 => ?_⟩
  walk_at "rd"
  refine ⟨t, rfl, ht.1, fun H2 e2 => ?_⟩
  walk_at "rd"
  refine ⟨a, r, t, rfl, hR.ex (exT e2 e1), ok, ht, fun H3 e3 => ?_⟩
  walk_at "rd"
  exact k H3 (exT e3 (exT e2 e1))
def sp_x_check_ring (K : PySem.W.Frag) (mg : Str → Option Value) : Sp := fun vs H Q E => ∃ (v : V), vs = [v] ∧ ((∃ (a : Addr) (r : Ring), v = .ref a ∧ RingAt K H a r ∧ Ok r ∧ ∀ H', Ex H H' → Q .non H') ∨ (NoRing H v ∧ Rs mg E "BadRing" H))
set_option maxHeartbeats 1000000 in
theorem x_check_ring (T : Txt K mg) : CalX P w K mg base 3 "check_ring" (sp_x_check_ring K mg) := by
  refine calX T.d_check_ring sc_check_ring (by rintro vs H Q E ⟨_, rfl, _⟩; rfl) (fun f cdv A outer s H vs Q E hr h => ?_)
  obtain ⟨v, rfl, h⟩ := h
  refine ⟨_, (pss_one (ps_if (PW.pt (pw_or (pt_not (pt_val (pe_callB call_isi (by rfl) T.m_isinstance (by decide +kernel) (pa_cons (pv 0) (pa_cons (pe_bltn (v := .ty "list") (u := .type "list") (by rfl) T.m_list (by decide +kernel) rfl) pa_nil))))) (pw_or (pt_cmpR op_eq (pe_callB cr_len (by rfl) T.m_len (by decide +kernel) (pa_cons (pv 0) pa_nil)) pe_int (nomark _)) (pw_or1 (pt_not (pt_val (pe_callB (cr_all rfl) (by rfl) T.m_all (by decide +kernel) (pa_cons (pe_lc (own := [("stretch", 1)]) (g := (gName 1)) rfl sc_check_ring.nd (pi_list (pv 0)) (blkOk_by (own := [("stretch", 1)]) (N := ["ring", "stretch"]) (sc := defScope s_check_ring) (by decide +kernel)) (fun _ _ _ _ _ => (pg_name (i := 1) sc_check_ring.nd rfl (by first | exact Or.inl rfl | exact Or.inr rfl))) (fun _ _ _ _ _ => pts_nil) (fun _ _ _ _ _ => (pe_c (w_is_stretch T) hr (by decide) (by rfl) (pa_cons (pv 1) pa_nil)))) pa_nil)))))))) (pss_one (ps_rs rfl (takes_of rfl rfl rfl rfl) T.e_BadRing (by rfl))) pss_nil)), ?_⟩
  refine at_start (σ := [some (v), none]) rfl ?_; simp only [kx, kx', kb, mx, mx', kb', kh, mh]
  rcases h with ⟨a, r, rfl, hR, ok, k⟩ | ⟨no, k⟩
  · obtain ⟨xs, h1, h2, h3⟩ := id hR
    rw [List.length_map] at h2
    walk_at "rd"
    refine r_isi (.ty "list") (.base (.lst h1)) (kit_ty (r := true) (by decide +kernel)) ?_
    walk_at "rd"
    refine r_len (n := r.length) (.of h1) h2 ?_
    walk_at "rd"
    refine iteD (fun e => absurd e (by have := ok.len; omega)) (fun _ => ?_)
    walk_at "rd"
    refine lcK_list ((r.map fun _ => true).map V.bl) (by simp [h2]) (.of h1) (by have := ok.few; omega) (fun _ => rfl) (fun i x y hx hy H1 e1 Q1 k1 => ?_) fun p H1 n1 e1 g1 => ?_
    · have hi : i < r.length := by have := (List.getElem?_eq_some_iff.mp hx).1; omega
      obtain ⟨q, z1, z2⟩ := h3 i (prV r[i]) (by rw [List.getElem?_map, List.getElem?_eq_getElem hi]; rfl)
      have ex : x = .ref q := Option.some.inj (hx.symm.trans z1)
      have ey : y = .bl true := by
        rw [List.getElem?_map, List.getElem?_map, List.getElem?_eq_getElem hi] at hy
        exact (Option.some.inj hy).symm
      subst ex ey
      walk_at "rd"
      exact ⟨_, true, rfl, .ok (e1 _ _ z2) (ok.pos _ (List.getElem_mem hi)), k1⟩
    · walk_at "rd"
      refine r_all (.of g1) ?_
      rw [show (r.map fun _ => true).all id = true by simp]
      walk_at "rd"
      exact k _ e1
  · cases no with
    | no h n =>
      walk_at "rd"
      refine r_isi (.ty "list") h.ty (kit_list _) ?_
      rw [decide_eq_false n]
      walk_at "rd"
      exact k.at (Evl.Ex.refl _)
    | nil h =>
      walk_at "rd"
      refine r_isi (.ty "list") (.base (.lst h)) (kit_ty (r := true) (by decide +kernel)) ?_
      walk_at "rd"
      refine r_len (n := 0) (.of h) rfl ?_
      walk_at "rd"
      refine iteD (fun _ => ?_) (fun e => absurd rfl e)
      walk_at "rd"
      exact k.at (Evl.Ex.refl _)
    | @bad a xs bs h l few s fa =>
      walk_at "rd"
      refine r_isi (.ty "list") (.base (.lst h)) (kit_ty (r := true) (by decide +kernel)) ?_
      walk_at "rd"
      have l0 : 0 < bs.length := List.length_pos_of_mem fa
      refine r_len (n := bs.length) (.of h) l.symm ?_
      walk_at "rd"
      refine iteD (fun e => absurd e (by omega)) (fun _ => ?_)
      walk_at "rd"
      refine lcK_list (bs.map V.bl) (by simp [l]) (.of h) (by omega) (fun _ => rfl) (fun i x y hx hy H1 e1 Q1 k1 => ?_) fun p H1 n1 e1 g1 => ?_
      · rw [List.getElem?_map] at hy
        obtain ⟨b, hb, ey⟩ := Option.map_eq_some_iff.mp hy
        subst ey
        walk_at "rd"
        exact ⟨x, b, rfl, (s i x b hx hb).ex e1, k1⟩
      · walk_at "rd"
        refine r_all (.of g1) ?_
        rw [show bs.all id = false by
          rw [List.all_eq_false]
          exact ⟨false, fa, by simp⟩]
        walk_at "rd"
        exact k.at e1
def sp_x_check_place (K : PySem.W.Frag) (mg : Str → Option Value) : Sp := fun vs H Q E => ∃ (a : Addr) (r : Ring) (p : V), vs = [.ref a, p] ∧ RingAt K H a r ∧ r.length ≤ 10000 ∧
  ((∃ i : Int, p = .int i ∧ 0 ≤ i ∧ i < size r ∧ ∀ H', Ex H H' → Q .non H') ∨ (Off H p (fun i => ¬ (0 ≤ i ∧ i < size r)) ∧ Rs mg E "BadPlace" H))
theorem x_check_place (T : Txt K mg) : CalX P w K mg base 2 "check_place" (sp_x_check_place K mg) := by
  refine calX T.d_check_place sc_check_place (by rintro vs H Q E ⟨_, _, _, rfl, _⟩; rfl) (fun f cdv A outer s H vs Q E hr h => ?_)
  obtain ⟨a, r, p, rfl, hR, hl, h⟩ := h
  refine ⟨_, (pss_one (ps_if (PW.pt (pw_or (pt_not (pt_val (pe_c (w_is_whole T) hr (by decide) (by rfl) (pa_cons (pv 1) pa_nil)))) (pw_or1 (pt_not (pt_chain op_le op_lt pe_int (pv 1) (pe_c (c_whole_of T) hr (by decide) (by rfl) (pa_cons (pv 0) pa_nil))))))) (pss_one (ps_rs rfl (takes_of rfl rfl rfl rfl) T.e_BadPlace (by rfl))) pss_nil)), ?_⟩
  refine at_start (σ := [some (.ref a), some (p)]) rfl ?_; simp only [kx, kx', kb, mx, mx', kb', kh, mh]
  walk_at "rd"
  rcases h with ⟨i, rfl, h0, h1, k⟩ | ⟨⟨t, ht, n⟩ | ⟨i, rfl, no⟩, k⟩
  · refine ⟨_, _, true, rfl, .int i, rfl, fun H1 e1 => ?_⟩
    walk_at "rd"
    refine iteD (fun _ => ?_) (fun e => absurd h0 e)
    walk_at "rd"
    refine ⟨a, r, rfl, hR.ex e1, hl, fun H2 e2 => ?_⟩
    walk_at "rd"
    rw [decide_eq_true h1]
    walk_at "rd"
    exact k _ (exT e2 e1)
  · refine ⟨_, t, false, rfl, ht, (decide_eq_false n).symm, fun H1 e1 => ?_⟩
    walk_at "rd"
    exact k.at e1
  · refine ⟨_, _, true, rfl, .int i, rfl, fun H1 e1 => ?_⟩
    walk_at "rd"
    refine iteD (fun h0 => ?_) (fun _ => ?_)
    · walk_at "rd"
      refine ⟨a, r, rfl, hR.ex e1, hl, fun H2 e2 => ?_⟩
      walk_at "rd"
      rw [decide_eq_false fun h1 => no ⟨h0, h1⟩]
      walk_at "rd"
      exact k.at (exT e2 e1)
    · walk_at "rd"
      exact k.at e1
def sp_x_check_count (K : PySem.W.Frag) (mg : Str → Option Value) : Sp := fun vs H Q E => ∃ (p : V), vs = [p] ∧ ((∃ i : Int, p = .int i ∧ 0 ≤ i ∧ ∀ H', Ex H H' → Q .non H') ∨ (Off H p (fun i => i < 0) ∧ Rs mg E "BadCount" H))
theorem x_check_count (T : Txt K mg) : CalX P w K mg base 2 "check_count" (sp_x_check_count K mg) := by
  refine calX T.d_check_count sc_check_count (by rintro vs H Q E ⟨_, rfl, _⟩; rfl) (fun f cdv A outer s H vs Q E hr h => ?_)
  obtain ⟨p, rfl, h⟩ := h
  refine ⟨_, (pss_one (ps_if (PW.pt (pw_or (pt_not (pt_val (pe_c (w_is_whole T) hr (by decide) (by rfl) (pa_cons (pv 0) pa_nil)))) (pw_or1 (pt_cmpR op_lt (pv 0) pe_int (nomark _))))) (pss_one (ps_rs rfl (takes_of rfl rfl rfl rfl) T.e_BadCount (by rfl))) pss_nil)), ?_⟩
  refine at_start (σ := [some (p)]) rfl ?_; simp only [kx, kx', kb, mx, mx', kb', kh, mh]
  walk_at "rd"
  rcases h with ⟨i, rfl, h0, k⟩ | ⟨⟨t, ht, n⟩ | ⟨i, rfl, no⟩, k⟩
  · refine ⟨_, _, true, rfl, .int i, rfl, fun H1 e1 => ?_⟩
    walk_at "rd"
    refine iteD (fun e => absurd e (by omega)) (fun _ => ?_)
    walk_at "rd"
    exact k _ e1
  · refine ⟨_, t, false, rfl, ht, (decide_eq_false n).symm, fun H1 e1 => ?_⟩
    walk_at "rd"
    exact k.at e1
  · refine ⟨_, _, true, rfl, .int i, rfl, fun H1 e1 => ?_⟩
    walk_at "rd"
    refine iteD (fun _ => ?_) (fun e => absurd no e)
    walk_at "rd"
    exact k.at e1
def sp_x_check_times (K : PySem.W.Frag) (mg : Str → Option Value) : Sp := fun vs H Q E => ∃ (p : V), vs = [p] ∧ ((∃ i : Int, p = .int i ∧ 1 ≤ i ∧ ∀ H', Ex H H' → Q .non H') ∨ (Off H p (fun i => i < 1) ∧ Rs mg E "BadTimes" H))
theorem x_check_times (T : Txt K mg) : CalX P w K mg base 2 "check_times" (sp_x_check_times K mg) := by
  refine calX T.d_check_times sc_check_times (by rintro vs H Q E ⟨_, rfl, _⟩; rfl) (fun f cdv A outer s H vs Q E hr h => ?_)
  obtain ⟨p, rfl, h⟩ := h
  refine ⟨_, (pss_one (ps_if (PW.pt (pw_or (pt_not (pt_val (pe_c (w_is_whole T) hr (by decide) (by rfl) (pa_cons (pv 0) pa_nil)))) (pw_or1 (pt_cmpR op_lt (pv 0) pe_int (nomark _))))) (pss_one (ps_rs rfl (takes_of rfl rfl rfl rfl) T.e_BadTimes (by rfl))) pss_nil)), ?_⟩
  refine at_start (σ := [some (p)]) rfl ?_; simp only [kx, kx', kb, mx, mx', kb', kh, mh]
  walk_at "rd"
  rcases h with ⟨i, rfl, h0, k⟩ | ⟨⟨t, ht, n⟩ | ⟨i, rfl, no⟩, k⟩
  · refine ⟨_, _, true, rfl, .int i, rfl, fun H1 e1 => ?_⟩
    walk_at "rd"
    refine iteD (fun e => absurd e (by omega)) (fun _ => ?_)
    walk_at "rd"
    exact k _ e1
  · refine ⟨_, t, false, rfl, ht, (decide_eq_false n).symm, fun H1 e1 => ?_⟩
    walk_at "rd"
    exact k.at e1
  · refine ⟨_, _, true, rfl, .int i, rfl, fun H1 e1 => ?_⟩
    walk_at "rd"
    refine iteD (fun _ => ?_) (fun e => absurd no e)
    walk_at "rd"
    exact k.at e1
def sp_x_beads (K : PySem.W.Frag) (mg : Str → Option Value) : Sp := fun vs H _ E => ∃ (v : V), vs = [v] ∧ NoRing H v ∧ Rs mg E "BadRing" H
theorem x_beads (T : Txt K mg) : CalX P w K mg base 4 "beads" (sp_x_beads K mg) := by
  refine calX T.d_beads sc_beads (by rintro vs H Q E ⟨_, rfl, _⟩; rfl) (fun f cdv A outer s H vs Q E hr h => ?_)
  obtain ⟨v, rfl, no, k⟩ := h
  refine ⟨_, (pss_cons (ps_expr (pe_cx (takes_of rfl rfl rfl rfl) (x_check_ring T) hr (by decide) (by rfl) (pa_cons (pv 0) pa_nil)))
        pss_never), ?_⟩
  refine at_start (σ := [some (v), none]) rfl ?_; simp only [kx, kx', kb, mx, mx', kb', kh, mh]
  walk_at "rd"
  exact ⟨v, rfl, .inr ⟨no, k⟩⟩
/-- a ring and what is no place of it -/
def NoPlaceOf (K : PySem.W.Frag) (H : Hp) (v p : V) : Prop := ∃ (a : Addr) (r : Ring), v = .ref a ∧ RingAt K H a r ∧ Ok r ∧ Off H p (fun i => ¬ (0 ≤ i ∧ i < size r))
def sp_x_kind_at (K : PySem.W.Frag) (mg : Str → Option Value) : Sp := fun vs H _ E => ∃ (v p : V), vs = [v, p] ∧ ((NoRing H v ∧ Rs mg E "BadRing" H) ∨ (NoPlaceOf K H v p ∧ Rs mg E "BadPlace" H))
theorem x_kind_at (T : Txt K mg) : CalX P w K mg base 4 "kind_at" (sp_x_kind_at K mg) := by
  refine calX T.d_kind_at sc_kind_at (by rintro vs H Q E ⟨_, _, rfl, _⟩; rfl) (fun f cdv A outer s H vs Q E hr h => ?_)
  obtain ⟨v, p, rfl, h⟩ := h
  refine ⟨_, (pss_cons (ps_expr (pe_cx (takes_of rfl rfl rfl rfl) (x_check_ring T) hr (by decide) (by rfl) (pa_cons (pv 0) pa_nil)))
        (pss_cons (ps_expr (pe_cx (takes_of rfl rfl rfl rfl) (x_check_place T) hr (by decide) (by rfl) (pa_cons (pv 0) (pa_cons (pv 1) pa_nil))))
        pss_never)), ?_⟩
  refine at_start (σ := [some (v), some (p)]) rfl ?_; simp only [kx, kx', kb, mx, mx', kb', kh, mh]
  walk_at "rd"
  rcases h with ⟨no, k⟩ | ⟨⟨a, r, rfl, hR, ok, no⟩, k⟩
  · exact ⟨v, rfl, .inr ⟨no, k⟩⟩
  refine ⟨_, rfl, .inl ⟨a, r, rfl, hR, ok, fun H1 e1 => ?_⟩⟩
  walk_at "rd"
  exact ⟨a, r, p, rfl, hR.ex e1, by have := ok.few; omega, .inr ⟨no.ex e1, k.ex e1⟩⟩
/-- a ring, a place of it, and what is no count -/
def NoCountOf (K : PySem.W.Frag) (H : Hp) (v p n : V) : Prop := ∃ (a : Addr) (r : Ring) (i : Int), v = .ref a ∧ RingAt K H a r ∧ Ok r ∧ p = .int i ∧ 0 ≤ i ∧ i < size r ∧ Off H n (fun i => i < 0)
def sp_x_among (K : PySem.W.Frag) (mg : Str → Option Value) : Sp := fun vs H _ E => ∃ (v p n : V), vs = [v, p, n] ∧ ((NoRing H v ∧ Rs mg E "BadRing" H) ∨ (NoPlaceOf K H v p ∧ Rs mg E "BadPlace" H) ∨ (NoCountOf K H v p n ∧ Rs mg E "BadCount" H))
theorem x_among (T : Txt K mg) : CalX P w K mg base 4 "among" (sp_x_among K mg) := by
  refine calX T.d_among sc_among (by rintro vs H Q E ⟨_, _, _, rfl, _⟩; rfl) (fun f cdv A outer s H vs Q E hr h => ?_)
  obtain ⟨v, p, n, rfl, h⟩ := h
  refine ⟨_, (pss_cons (ps_expr (pe_cx (takes_of rfl rfl rfl rfl) (x_check_ring T) hr (by decide) (by rfl) (pa_cons (pv 0) pa_nil)))
        (pss_cons (ps_expr (pe_cx (takes_of rfl rfl rfl rfl) (x_check_place T) hr (by decide) (by rfl) (pa_cons (pv 0) (pa_cons (pv 1) pa_nil))))
        (pss_cons (ps_expr (pe_cx (takes_of rfl rfl rfl rfl) (x_check_count T) hr (by decide) (by rfl) (pa_cons (pv 2) pa_nil)))
        pss_never))), ?_⟩
  refine at_start (σ := [some (v), some (p), some (n)]) rfl ?_; simp only [kx, kx', kb, mx, mx', kb', kh, mh]
  walk_at "rd"
  rcases h with ⟨no, k⟩ | ⟨⟨a, r, rfl, hR, ok, no⟩, k⟩ | ⟨⟨a, r, i, rfl, hR, ok, rfl, h0, h1, no⟩, k⟩
  · exact ⟨v, rfl, .inr ⟨no, k⟩⟩
  · refine ⟨_, rfl, .inl ⟨a, r, rfl, hR, ok, fun H1 e1 => ?_⟩⟩
    walk_at "rd"
    exact ⟨a, r, p, rfl, hR.ex e1, by have := ok.few; omega, .inr ⟨no.ex e1, k.ex e1⟩⟩
  · refine ⟨_, rfl, .inl ⟨a, r, rfl, hR, ok, fun H1 e1 => ?_⟩⟩
    walk_at "rd"
    refine ⟨a, r, _, rfl, hR.ex e1, by have := ok.few; omega, .inl ⟨i, rfl, h0, h1, fun H2 e2 => ?_⟩⟩
    walk_at "rd"
    exact ⟨n, rfl, .inr ⟨no.ex (exT e2 e1), k.ex (exT e2 e1)⟩⟩
/-- a ring and what are no times -/
def NoTimesOf (K : PySem.W.Frag) (H : Hp) (v t : V) : Prop := ∃ (a : Addr) (r : Ring), v = .ref a ∧ RingAt K H a r ∧ Ok r ∧ Off H t (fun i => i < 1)
def sp_x_starts (K : PySem.W.Frag) (mg : Str → Option Value) : Sp := fun vs H _ E => ∃ (v t : V), vs = [v, t] ∧ ((NoRing H v ∧ Rs mg E "BadRing" H) ∨ (NoTimesOf K H v t ∧ Rs mg E "BadTimes" H))
theorem x_starts (T : Txt K mg) : CalX P w K mg base 4 "starts" (sp_x_starts K mg) := by
  refine calX T.d_starts sc_starts (by rintro vs H Q E ⟨_, _, rfl, _⟩; rfl) (fun f cdv A outer s H vs Q E hr h => ?_)
  obtain ⟨v, t, rfl, h⟩ := h
  refine ⟨_, (pss_cons (ps_expr (pe_cx (takes_of rfl rfl rfl rfl) (x_check_ring T) hr (by decide) (by rfl) (pa_cons (pv 0) pa_nil)))
        (pss_cons (ps_expr (pe_cx (takes_of rfl rfl rfl rfl) (x_check_times T) hr (by decide) (by rfl) (pa_cons (pv 1) pa_nil)))
        pss_never)), ?_⟩
  refine at_start (σ := [some (v), some (t)]) rfl ?_; simp only [kx, kx', kb, mx, mx', kb', kh, mh]
  walk_at "rd"
  rcases h with ⟨no, k⟩ | ⟨⟨a, r, rfl, hR, ok, no⟩, k⟩
  · exact ⟨v, rfl, .inr ⟨no, k⟩⟩
  refine ⟨_, rfl, .inl ⟨a, r, rfl, hR, ok, fun H1 e1 => ?_⟩⟩
  walk_at "rd"
  exact ⟨t, rfl, .inr ⟨no.ex e1, k.ex e1⟩⟩
/-- a ring and what is no number of a start once over -/
def NoStartOf (K : PySem.W.Frag) (H : Hp) (v t n : V) : Prop := ∃ (a : Addr) (r : Ring) (i : Int), v = .ref a ∧ RingAt K H a r ∧ Ok r ∧ t = .int i ∧ Tm i ∧ Off H n (fun j => ¬ (0 ≤ j ∧ j < hgt i r))
def sp_x_start_at (K : PySem.W.Frag) (mg : Str → Option Value) : Sp := fun vs H _ E => ∃ (v t n : V), vs = [v, t, n] ∧ ((NoRing H v ∧ Rs mg E "BadRing" H) ∨ (NoTimesOf K H v t ∧ Rs mg E "BadTimes" H) ∨ (NoStartOf K H v t n ∧ Rs mg E "BadCount" H))
theorem x_start_at (T : Txt K mg) : CalX P w K mg base 4 "start_at" (sp_x_start_at K mg) := by
  refine calX T.d_start_at sc_start_at (by rintro vs H Q E ⟨_, _, _, rfl, _⟩; rfl) (fun f cdv A outer s H vs Q E hr h => ?_)
  obtain ⟨v, t, n, rfl, h⟩ := h
  refine ⟨_, (pss_cons (ps_expr (pe_cx (takes_of rfl rfl rfl rfl) (x_check_ring T) hr (by decide) (by rfl) (pa_cons (pv 0) pa_nil)))
        (pss_cons (ps_expr (pe_cx (takes_of rfl rfl rfl rfl) (x_check_times T) hr (by decide) (by rfl) (pa_cons (pv 1) pa_nil)))
        (pss_cons (ps_if (PW.pt (pw_or (pt_not (pt_val (pe_c (w_is_whole T) hr (by decide) (by rfl) (pa_cons (pv 2) pa_nil)))) (pw_or1 (pt_not (pt_chain op_le op_lt pe_int (pv 2) (pe_c (c_more_of T) hr (by decide) (by rfl) (pa_cons (pv 0) (pa_cons (pv 1) pa_nil)))))))) (pss_one (ps_rs rfl (takes_of rfl rfl rfl rfl) T.e_BadCount (by rfl))) pss_nil)
        pss_never))), ?_⟩
  refine at_start (σ := [some (v), some (t), some (n), none, none, none]) rfl ?_; simp only [kx, kx', kb, mx, mx', kb', kh, mh]
  walk_at "rd"
  rcases h with ⟨no, k⟩ | ⟨⟨a, r, rfl, hR, ok, no⟩, k⟩ | ⟨⟨a, r, i, rfl, hR, ok, rfl, ht, no⟩, k⟩
  · exact ⟨v, rfl, .inr ⟨no, k⟩⟩
  · refine ⟨_, rfl, .inl ⟨a, r, rfl, hR, ok, fun H1 e1 => ?_⟩⟩
    walk_at "rd"
    exact ⟨t, rfl, .inr ⟨no.ex e1, k.ex e1⟩⟩
  · refine ⟨_, rfl, .inl ⟨a, r, rfl, hR, ok, fun H1 e1 => ?_⟩⟩
    walk_at "rd"
    refine ⟨_, rfl, .inl ⟨i, rfl, ht.1, fun H2 e2 => ?_⟩⟩
    walk_at "rd"
    have e12 := exT e2 e1
    rcases no with ⟨ty, hty, nt⟩ | ⟨j, rfl, no⟩
    · refine ⟨_, ty, false, rfl, hty.ex e12, (decide_eq_false nt).symm, fun H3 e3 => ?_⟩
      walk_at "rd"
      exact k.at (exT e3 e12)
    · refine ⟨_, _, true, rfl, .int j, rfl, fun H3 e3 => ?_⟩
      walk_at "rd"
      refine iteD (fun h0 => ?_) (fun _ => ?_)
      · walk_at "rd"
        refine ⟨a, r, i, rfl, hR.ex (exT e3 e12), ok, ht, fun H4 e4 => ?_⟩
        walk_at "rd"
        rw [decide_eq_false fun h1 => no ⟨h0, h1⟩]
        walk_at "rd"
        exact k.at (exT e4 (exT e3 e12))
      · walk_at "rd"
        exact k.at (exT e3 e12)
def sp_x_is_start (K : PySem.W.Frag) (mg : Str → Option Value) : Sp := fun vs H _ E => ∃ (v t p : V), vs = [v, t, p] ∧ ((NoRing H v ∧ Rs mg E "BadRing" H) ∨ (NoTimesOf K H v t ∧ Rs mg E "BadTimes" H) ∨ (NoPlaceOf K H v p ∧ (∃ i : Int, t = .int i ∧ 1 ≤ i) ∧ Rs mg E "BadPlace" H))
theorem x_is_start (T : Txt K mg) : CalX P w K mg base 4 "is_start" (sp_x_is_start K mg) := by
  refine calX T.d_is_start sc_is_start (by rintro vs H Q E ⟨_, _, _, rfl, _⟩; rfl) (fun f cdv A outer s H vs Q E hr h => ?_)
  obtain ⟨v, t, p, rfl, h⟩ := h
  refine ⟨_, (pss_cons (ps_expr (pe_cx (takes_of rfl rfl rfl rfl) (x_check_ring T) hr (by decide) (by rfl) (pa_cons (pv 0) pa_nil)))
        (pss_cons (ps_expr (pe_cx (takes_of rfl rfl rfl rfl) (x_check_times T) hr (by decide) (by rfl) (pa_cons (pv 1) pa_nil)))
        (pss_cons (ps_expr (pe_cx (takes_of rfl rfl rfl rfl) (x_check_place T) hr (by decide) (by rfl) (pa_cons (pv 0) (pa_cons (pv 2) pa_nil))))
        pss_never))), ?_⟩
  refine at_start (σ := [some (v), some (t), some (p), none, none]) rfl ?_; simp only [kx, kx', kb, mx, mx', kb', kh, mh]
  walk_at "rd"
  rcases h with ⟨no, k⟩ | ⟨⟨a, r, rfl, hR, ok, no⟩, k⟩ | ⟨⟨a, r, rfl, hR, ok, no⟩, ⟨i, rfl, h1⟩, k⟩
  · exact ⟨v, rfl, .inr ⟨no, k⟩⟩
  · refine ⟨_, rfl, .inl ⟨a, r, rfl, hR, ok, fun H1 e1 => ?_⟩⟩
    walk_at "rd"
    exact ⟨t, rfl, .inr ⟨no.ex e1, k.ex e1⟩⟩
  · refine ⟨_, rfl, .inl ⟨a, r, rfl, hR, ok, fun H1 e1 => ?_⟩⟩
    walk_at "rd"
    refine ⟨_, rfl, .inl ⟨i, rfl, h1, fun H2 e2 => ?_⟩⟩
    walk_at "rd"
    have e12 := exT e2 e1
    exact ⟨a, r, p, rfl, hR.ex e12, by have := ok.few; omega, .inr ⟨no.ex e12, k.ex e12⟩⟩
/-- a ring and what is no count of its beads; a count and what is no number -/
def NoManyOf (K : PySem.W.Frag) (H : Hp) (v m : V) : Prop := ∃ (a : Addr) (r : Ring), v = .ref a ∧ RingAt K H a r ∧ Ok r ∧ Off H m (fun i => i < 0 ∨ size r < i)
def NoNumberOf (K : PySem.W.Frag) (H : Hp) (v m n : V) : Prop := ∃ (a : Addr) (r : Ring) (i : Int), v = .ref a ∧ RingAt K H a r ∧ Ok r ∧ m = .int i ∧ 0 ≤ i ∧ i ≤ size r ∧ Off H n (fun _ => False)
def sp_x_sought (K : PySem.W.Frag) (mg : Str → Option Value) : Sp := fun vs H _ E => ∃ (v m n : V), vs = [v, m, n] ∧ ((NoRing H v ∧ Rs mg E "BadRing" H) ∨ (NoManyOf K H v m ∧ Rs mg E "BadCount" H) ∨ (NoNumberOf K H v m n ∧ Rs mg E "BadCount" H))
theorem x_sought (T : Txt K mg) : CalX P w K mg base 4 "sought" (sp_x_sought K mg) := by
  refine calX T.d_sought sc_sought (by rintro vs H Q E ⟨_, _, _, rfl, _⟩; rfl) (fun f cdv A outer s H vs Q E hr h => ?_)
  obtain ⟨v, m, n, rfl, h⟩ := h
  refine ⟨_, (pss_cons (ps_expr (pe_cx (takes_of rfl rfl rfl rfl) (x_check_ring T) hr (by decide) (by rfl) (pa_cons (pv 0) pa_nil)))
        (pss_cons (ps_expr (pe_cx (takes_of rfl rfl rfl rfl) (x_check_count T) hr (by decide) (by rfl) (pa_cons (pv 1) pa_nil)))
        (pss_cons (ps_if (PW.pt (pw_or (pt_cmpR op_gt (pv 1) (pe_c (c_whole_of T) hr (by decide) (by rfl) (pa_cons (pv 0) pa_nil)) (nomark _)) (pw_or1 (pt_not (pt_val (pe_c (w_is_whole T) hr (by decide) (by rfl) (pa_cons (pv 2) pa_nil))))))) (pss_one (ps_rs rfl (takes_of rfl rfl rfl rfl) T.e_BadCount (by rfl))) pss_nil)
        pss_never))), ?_⟩
  refine at_start (σ := [some (v), some (m), some (n), none, none, none, none, none, none, none, none]) rfl ?_; simp only [kx, kx', kb, mx, mx', kb', kh, mh]
  walk_at "rd"
  rcases h with ⟨no, k⟩ | ⟨⟨a, r, rfl, hR, ok, no⟩, k⟩ | ⟨⟨a, r, i, rfl, hR, ok, rfl, h0, h1, no⟩, k⟩
  · exact ⟨v, rfl, .inr ⟨no, k⟩⟩
  · have few : r.length ≤ 10000 := by have := ok.few; omega
    refine ⟨_, rfl, .inl ⟨a, r, rfl, hR, ok, fun H1 e1 => ?_⟩⟩
    walk_at "rd"
    rcases no with ⟨ty, hty, nt⟩ | ⟨i, rfl, no⟩
    · exact ⟨m, rfl, .inr ⟨.inl ⟨ty, hty.ex e1, nt⟩, k.ex e1⟩⟩
    · by_cases low : i < 0
      · exact ⟨_, rfl, .inr ⟨.inr ⟨i, rfl, low⟩, k.ex e1⟩⟩
      · refine ⟨_, rfl, .inl ⟨i, rfl, by omega, fun H2 e2 => ?_⟩⟩
        walk_at "rd"
        have e12 := exT e2 e1
        refine ⟨a, r, rfl, hR.ex e12, few, fun H3 e3 => ?_⟩
        walk_at "rd"
        refine iteD (fun _ => ?_) (fun e => absurd (by omega) e)
        walk_at "rd"
        exact k.at (exT e3 e12)
  · have few : r.length ≤ 10000 := by have := ok.few; omega
    refine ⟨_, rfl, .inl ⟨a, r, rfl, hR, ok, fun H1 e1 => ?_⟩⟩
    walk_at "rd"
    refine ⟨_, rfl, .inl ⟨i, rfl, h0, fun H2 e2 => ?_⟩⟩
    walk_at "rd"
    have e12 := exT e2 e1
    refine ⟨a, r, rfl, hR.ex e12, few, fun H3 e3 => ?_⟩
    walk_at "rd"
    refine iteD (fun e => absurd e (by omega)) (fun _ => ?_)
    walk_at "rd"
    rcases no with ⟨ty, hty, nt⟩ | ⟨j, rfl, no⟩
    · refine ⟨_, ty, false, rfl, hty.ex (exT e3 e12), (decide_eq_false nt).symm, fun H4 e4 => ?_⟩
      walk_at "rd"
      exact k.at (exT e4 (exT e3 e12))
    · exact no.elim
/-- what is asked of the four that ask: the name, the two things handed over, the refusal -/
inductive Ask (K : PySem.W.Frag) (H : Hp) : Str → V → V → Str → Prop
  | ring {i : Int} {v : V} (h0 : 0 ≤ i) (h1 : i < 7) (no : NoRing H v) : Ask K H "_law_with_ring" (.int i) v "BadRing"
  | place {v p : V} {t : Addr} {i : Int} (h0 : 0 ≤ i) (h1 : i < 3) (h : H t = some (.tup [.int i, p])) (no : NoPlaceOf K H v p) : Ask K H "_law_with_place" v (.ref t) "BadPlace"
  | times {v p : V} {t : Addr} {i : Int} (h0 : 0 ≤ i) (h1 : i < 3) (h : H t = some (.tup [.int i, p])) (no : NoTimesOf K H v p) : Ask K H "_law_with_times" v (.ref t) "BadTimes"
  | count0 {v n : V} {t : Addr} (h : H t = some (.tup [.int 0, n])) (no : NoCountOf K H v (.int 0) n) : Ask K H "_law_with_count" v (.ref t) "BadCount"
  | count1 {v n : V} {t : Addr} (h : H t = some (.tup [.int 1, n])) (no : NoStartOf K H v (.int 1) n) : Ask K H "_law_with_count" v (.ref t) "BadCount"
  | count2 {v n : V} {t : Addr} (h : H t = some (.tup [.int 2, n])) (no : NoManyOf K H v n) : Ask K H "_law_with_count" v (.ref t) "BadCount"
  | count3 {v n : V} {t : Addr} (h : H t = some (.tup [.int 3, n])) (no : NoNumberOf K H v (.int 0) n) : Ask K H "_law_with_count" v (.ref t) "BadCount"
def sp_ask (K : PySem.W.Frag) (mg : Str → Option Value) (x : Str) : Sp := fun vs H _ E => ∃ (y z : V) (c : Str), vs = [y, z] ∧ Ask K H x y z c ∧ Rs mg E c H
theorem x_law_with_ring (T : Txt K mg) : CalX P w K mg base 5 "_law_with_ring" (sp_ask K mg "_law_with_ring") := by
  refine calX T.d__law_with_ring sc_law_with_ring (by rintro vs H Q E ⟨_, _, _, rfl, _⟩; rfl) (fun f cdv A outer s H vs Q E hr h => ?_)
  obtain ⟨y, v, c, rfl, ask, k⟩ := h
  refine ⟨_, (pss_cons (ps_if (pt_cmpR op_lt (pv 0) pe_int (nomark _)) (pss_one (ps_ret (pe_ifExp (pt_cmpR op_eq (pv 0) pe_int (nomark _)) (pe_cx (takes_of rfl rfl rfl rfl) (x_beads T) hr (by decide) (by rfl) (pa_cons (pv 1) pa_nil)) (pe_ifExp (pt_cmpR op_eq (pv 0) pe_int (nomark _)) (pe_cx (takes_of rfl rfl rfl rfl) (x_kind_at T) hr (by decide) (by rfl) (pa_cons (pv 1) (pa_cons (pe_un un_neg pe_int) pa_nil))) (pe_cx (takes_of rfl rfl rfl rfl) (x_among T) hr (by decide) (by rfl) (pa_cons (pv 1) (pa_cons pe_non (pa_cons (pe_un un_neg pe_int) pa_nil)))))))) pss_nil)
        (pss_cons (ps_if (pt_cmpR op_lt (pv 0) pe_int (nomark _)) (pss_one (ps_ret (pe_ifExp (pt_cmpR op_eq (pv 0) pe_int (nomark _)) (pe_cx (takes_of rfl rfl rfl rfl) (x_starts T) hr (by decide) (by rfl) (pa_cons (pv 1) (pa_cons pe_int pa_nil))) (pe_ifExp (pt_cmpR op_eq (pv 0) pe_int (nomark _)) (pe_cx (takes_of rfl rfl rfl rfl) (x_start_at T) hr (by decide) (by rfl) (pa_cons (pv 1) (pa_cons pe_non (pa_cons (pe_un un_neg pe_int) pa_nil)))) (pe_cx (takes_of rfl rfl rfl rfl) (x_is_start T) hr (by decide) (by rfl) (pa_cons (pv 1) (pa_cons pe_int (pa_cons (pe_un un_neg pe_int) pa_nil)))))))) pss_nil)
        (pss_one (ps_ret (pe_cx (takes_of rfl rfl rfl rfl) (x_sought T) hr (by decide) (by rfl) (pa_cons (pv 1) (pa_cons (pe_un un_neg pe_int) (pa_cons pe_non pa_nil)))))))), ?_⟩
  cases ask with
  | @ring i _ h0 h1 no =>
  refine at_start (σ := [some (.int i), some (v)]) rfl ?_; simp only [kx, kx', kb, mx, mx', kb', kh, mh]
  walk_at "rd"
  refine iteD (fun c1 => ?_) (fun c1 => ?_)
  · walk_at "rdI"
    refine iteD (fun _ => ?_) (fun _ => ?_)
    · walk_at "rd"
      exact ⟨v, rfl, no, k⟩
    walk_at "rdI"
    refine iteD (fun _ => ?_) (fun _ => ?_)
    · walk_at "rd"
      exact ⟨v, _, rfl, .inl ⟨no, k⟩⟩
    · walk_at "rd"
      exact ⟨v, _, _, rfl, .inl ⟨no, k⟩⟩
  walk_at "rd"
  refine iteD (fun c2 => ?_) (fun c2 => ?_)
  · walk_at "rdI"
    refine iteD (fun _ => ?_) (fun _ => ?_)
    · walk_at "rd"
      exact ⟨v, _, rfl, .inl ⟨no, k⟩⟩
    walk_at "rdI"
    refine iteD (fun _ => ?_) (fun _ => ?_)
    · walk_at "rd"
      exact ⟨v, _, _, rfl, .inl ⟨no, k⟩⟩
    · walk_at "rd"
      exact ⟨v, _, _, rfl, .inl ⟨no, k⟩⟩
  walk_at "rd"
  exact ⟨v, _, _, rfl, .inl ⟨no, k⟩⟩
theorem x_law_with_place (T : Txt K mg) : CalX P w K mg base 5 "_law_with_place" (sp_ask K mg "_law_with_place") := by
  refine calX T.d__law_with_place sc_law_with_place (by rintro vs H Q E ⟨_, _, _, rfl, _⟩; rfl) (fun f cdv A outer s H vs Q E hr h => ?_)
  obtain ⟨v, z, c, rfl, ask, k⟩ := h
  refine ⟨_, (pss_cons (ps_asg (pv 1) (pg_tup (n := 2) rfl (pgs_cons (pg_name (i := 2) sc_law_with_place.nd rfl (by first | exact Or.inl rfl | exact Or.inr rfl)) (pgs_cons (pg_name (i := 3) sc_law_with_place.nd rfl (by first | exact Or.inl rfl | exact Or.inr rfl)) pgs_nil))))
        (pss_cons (ps_if (pt_cmpR op_lt (pv 2) pe_int (nomark _)) (pss_one (ps_ret (pe_ifExp (pt_cmpR op_eq (pv 2) pe_int (nomark _)) (pe_cx (takes_of rfl rfl rfl rfl) (x_kind_at T) hr (by decide) (by rfl) (pa_cons (pv 0) (pa_cons (pv 3) pa_nil))) (pe_cx (takes_of rfl rfl rfl rfl) (x_among T) hr (by decide) (by rfl) (pa_cons (pv 0) (pa_cons (pv 3) (pa_cons (pe_un un_neg pe_int) pa_nil))))))) pss_nil)
        (pss_one (ps_ret (pe_cx (takes_of rfl rfl rfl rfl) (x_is_start T) hr (by decide) (by rfl) (pa_cons (pv 0) (pa_cons pe_int (pa_cons (pv 3) pa_nil)))))))), ?_⟩
  cases ask with
  | @place _ p t i h0 h1 h no =>
  refine at_start (σ := [some (v), some (.ref t), none, none]) rfl ?_; simp only [kx, kx', kb, mx, mx', kb', kh, mh]
  walk_at "rd"
  refine iteD (fun c1 => ?_) (fun c1 => ?_)
  · walk_at "rdI"
    refine iteD (fun _ => ?_) (fun _ => ?_)
    · walk_at "rd"
      exact ⟨v, p, rfl, .inr ⟨no, k⟩⟩
    · walk_at "rd"
      exact ⟨v, p, _, rfl, .inr (.inl ⟨no, k⟩)⟩
  walk_at "rd"
  exact ⟨v, _, p, rfl, .inr (.inr ⟨no, ⟨1, rfl, by decide⟩, k⟩)⟩
theorem x_law_with_times (T : Txt K mg) : CalX P w K mg base 5 "_law_with_times" (sp_ask K mg "_law_with_times") := by
  refine calX T.d__law_with_times sc_law_with_times (by rintro vs H Q E ⟨_, _, _, rfl, _⟩; rfl) (fun f cdv A outer s H vs Q E hr h => ?_)
  obtain ⟨v, z, c, rfl, ask, k⟩ := h
  refine ⟨_, (pss_cons (ps_asg (pv 1) (pg_tup (n := 2) rfl (pgs_cons (pg_name (i := 2) sc_law_with_times.nd rfl (by first | exact Or.inl rfl | exact Or.inr rfl)) (pgs_cons (pg_name (i := 3) sc_law_with_times.nd rfl (by first | exact Or.inl rfl | exact Or.inr rfl)) pgs_nil))))
        (pss_cons (ps_if (pt_cmpR op_lt (pv 2) pe_int (nomark _)) (pss_one (ps_ret (pe_ifExp (pt_cmpR op_eq (pv 2) pe_int (nomark _)) (pe_cx (takes_of rfl rfl rfl rfl) (x_starts T) hr (by decide) (by rfl) (pa_cons (pv 0) (pa_cons (pv 3) pa_nil))) (pe_cx (takes_of rfl rfl rfl rfl) (x_start_at T) hr (by decide) (by rfl) (pa_cons (pv 0) (pa_cons (pv 3) (pa_cons (pe_un un_neg pe_int) pa_nil))))))) pss_nil)
        (pss_one (ps_ret (pe_cx (takes_of rfl rfl rfl rfl) (x_is_start T) hr (by decide) (by rfl) (pa_cons (pv 0) (pa_cons (pv 3) (pa_cons pe_non pa_nil)))))))), ?_⟩
  cases ask with
  | @times _ p t i h0 h1 h no =>
  refine at_start (σ := [some (v), some (.ref t), none, none]) rfl ?_; simp only [kx, kx', kb, mx, mx', kb', kh, mh]
  walk_at "rd"
  refine iteD (fun c1 => ?_) (fun c1 => ?_)
  · walk_at "rdI"
    refine iteD (fun _ => ?_) (fun _ => ?_)
    · walk_at "rd"
      exact ⟨v, p, rfl, .inr ⟨no, k⟩⟩
    · walk_at "rd"
      exact ⟨v, p, _, rfl, .inr (.inl ⟨no, k⟩)⟩
  walk_at "rd"
  exact ⟨v, p, _, rfl, .inr (.inl ⟨no, k⟩)⟩
theorem x_law_with_count (T : Txt K mg) : CalX P w K mg base 5 "_law_with_count" (sp_ask K mg "_law_with_count") := by
  refine calX T.d__law_with_count sc_law_with_count (by rintro vs H Q E ⟨_, _, _, rfl, _⟩; rfl) (fun f cdv A outer s H vs Q E hr h => ?_)
  obtain ⟨v, z, c, rfl, ask, k⟩ := h
  refine ⟨_, (pss_cons (ps_asg (pv 1) (pg_tup (n := 2) rfl (pgs_cons (pg_name (i := 2) sc_law_with_count.nd rfl (by first | exact Or.inl rfl | exact Or.inr rfl)) (pgs_cons (pg_name (i := 3) sc_law_with_count.nd rfl (by first | exact Or.inl rfl | exact Or.inr rfl)) pgs_nil))))
        (pss_cons (ps_if (pt_cmpR op_lt (pv 2) pe_int (nomark _)) (pss_one (ps_ret (pe_ifExp (pt_cmpR op_eq (pv 2) pe_int (nomark _)) (pe_cx (takes_of rfl rfl rfl rfl) (x_among T) hr (by decide) (by rfl) (pa_cons (pv 0) (pa_cons pe_int (pa_cons (pv 3) pa_nil)))) (pe_cx (takes_of rfl rfl rfl rfl) (x_start_at T) hr (by decide) (by rfl) (pa_cons (pv 0) (pa_cons pe_int (pa_cons (pv 3) pa_nil))))))) pss_nil)
        (pss_one (ps_ret (pe_ifExp (pt_cmpR op_eq (pv 2) pe_int (nomark _)) (pe_cx (takes_of rfl rfl rfl rfl) (x_sought T) hr (by decide) (by rfl) (pa_cons (pv 0) (pa_cons (pv 3) (pa_cons pe_int pa_nil)))) (pe_cx (takes_of rfl rfl rfl rfl) (x_sought T) hr (by decide) (by rfl) (pa_cons (pv 0) (pa_cons pe_int (pa_cons (pv 3) pa_nil))))))))), ?_⟩
  cases ask with
  | @count0 _ n t h no =>
    refine at_start (σ := [some (v), some (.ref t), none, none]) rfl ?_; simp only [kx, kx', kb, mx, mx', kb', kh, mh]
    walk_at "rd"
    refine iteD (fun _ => ?_) (fun c1 => absurd (by decide) c1)
    walk_at "rdI"
    refine iteD (fun _ => ?_) (fun c1 => absurd rfl c1)
    walk_at "rd"
    exact ⟨v, _, n, rfl, .inr (.inr ⟨no, k⟩)⟩
  | @count1 _ n t h no =>
    refine at_start (σ := [some (v), some (.ref t), none, none]) rfl ?_; simp only [kx, kx', kb, mx, mx', kb', kh, mh]
    walk_at "rd"
    refine iteD (fun _ => ?_) (fun c1 => absurd (by decide) c1)
    walk_at "rdI"
    refine iteD (fun c1 => absurd c1 (by decide)) (fun _ => ?_)
    walk_at "rd"
    exact ⟨v, _, n, rfl, .inr (.inr ⟨no, k⟩)⟩
  | @count2 _ n t h no =>
    refine at_start (σ := [some (v), some (.ref t), none, none]) rfl ?_; simp only [kx, kx', kb, mx, mx', kb', kh, mh]
    walk_at "rd"
    refine iteD (fun c1 => absurd c1 (by decide)) (fun _ => ?_)
    walk_at "rdI"
    refine iteD (fun _ => ?_) (fun c1 => absurd rfl c1)
    walk_at "rd"
    exact ⟨v, n, _, rfl, .inr (.inl ⟨no, k⟩)⟩
  | @count3 _ n t h no =>
    refine at_start (σ := [some (v), some (.ref t), none, none]) rfl ?_; simp only [kx, kx', kb, mx, mx', kb', kh, mh]
    walk_at "rd"
    refine iteD (fun c1 => absurd c1 (by decide)) (fun _ => ?_)
    walk_at "rdI"
    refine iteD (fun c1 => absurd c1 (by decide)) (fun _ => ?_)
    walk_at "rd"
    exact ⟨v, _, n, rfl, .inr (.inr ⟨no, k⟩)⟩
/-- the refusals, and what is told of each -/
def fourX : List Str := ["BadRing", "BadPlace", "BadTimes", "BadCount"]
def kindsM (c : Str) : List Bool := [decide (c = "BadRing"), decide (c = "BadPlace"), decide (c = "BadTimes"), decide (c = "BadCount"), true]
def sp_kinds (c : Str) (a : Addr) : Sp := fun vs H Q _ => vs = [.ref a] ∧ ∀ q H', Ex H H' → H' q = some (.lst ((kindsM c).map V.bl)) → Q (.ref q) H'
theorem excT_of (T : Txt K mg) {c : Str} (hc : c ∈ fourX) : ExcT K mg c ∧ PySem.W.exmOne K (.ref (adr mg c)) (.ref (adr mg "RingError")) = some true ∧ PySem.W.kitOne K (.ref (adr mg c)) (.type "ValueError") = some true ∧
    PySem.W.kitOne K (.ref (adr mg c)) (.ref (adr mg "BadRing")) = some (decide (c = "BadRing")) ∧ PySem.W.kitOne K (.ref (adr mg c)) (.ref (adr mg "BadPlace")) = some (decide (c = "BadPlace")) ∧
    PySem.W.kitOne K (.ref (adr mg c)) (.ref (adr mg "BadTimes")) = some (decide (c = "BadTimes")) ∧ PySem.W.kitOne K (.ref (adr mg c)) (.ref (adr mg "BadCount")) = some (decide (c = "BadCount")) := by
  have hc' : c = "BadRing" ∨ c = "BadPlace" ∨ c = "BadTimes" ∨ c = "BadCount" := by simpa [fourX] using hc
  rcases hc' with rfl | rfl | rfl | rfl
  · exact ⟨T.e_BadRing, T.x_BadRing, T.v_BadRing, T.k_BadRing_BadRing, T.k_BadRing_BadPlace, T.k_BadRing_BadTimes, T.k_BadRing_BadCount⟩
  · exact ⟨T.e_BadPlace, T.x_BadPlace, T.v_BadPlace, T.k_BadPlace_BadRing, T.k_BadPlace_BadPlace, T.k_BadPlace_BadTimes, T.k_BadPlace_BadCount⟩
  · exact ⟨T.e_BadTimes, T.x_BadTimes, T.v_BadTimes, T.k_BadTimes_BadRing, T.k_BadTimes_BadPlace, T.k_BadTimes_BadTimes, T.k_BadTimes_BadCount⟩
  · exact ⟨T.e_BadCount, T.x_BadCount, T.v_BadCount, T.k_BadCount_BadRing, T.k_BadCount_BadPlace, T.k_BadCount_BadTimes, T.k_BadCount_BadCount⟩
theorem f_law_kinds (T : Txt K mg) {f : Addr} {fd : FuncData} (F : Fun K "_law_kinds" "_law_kinds" s_law_kinds f fd) {c : Str} (hm : c ∈ fourX) {pin : Addr × Obj} (hz : Zc (.ref (adr mg c)) none pin.2) (hf : ∃ vs, pin.2.data = .fields vs) :
    FnP P w K mg base 1 f fd ["_law_error"] pin (sp_kinds c pin.1) := by
  obtain ⟨eT, _, v, k1, k2, k3, k4⟩ := excT_of T hm
  have hC := eT.c
  refine fnP F sc_law_kinds (by rintro vs H Q E ⟨rfl, _⟩; rfl) (fun cdv A outer s H vs Q E hr h => ?_)
  obtain ⟨rfl, k⟩ := h
  refine ⟨_, (pss_cons (ps_set (i := 1) sc_law_kinds.nd rfl (by first | exact Or.inl rfl | exact Or.inr rfl) (pe_lst (pa_cons (pe_callB (call_isP (pin := pin) List.mem_cons_self hC hz hf) (by rfl) T.m_isinstance (by decide +kernel) (pa_cons (pv 0) (pa_cons (pe_glob (v := .ref (adr mg "BadRing")) (by rfl) T.e_BadRing.g rfl) pa_nil))) (pa_cons (pe_callB (call_isP (pin := pin) List.mem_cons_self hC hz hf) (by rfl) T.m_isinstance (by decide +kernel) (pa_cons (pv 0) (pa_cons (pe_glob (v := .ref (adr mg "BadPlace")) (by rfl) T.e_BadPlace.g rfl) pa_nil))) (pa_cons (pe_callB (call_isP (pin := pin) List.mem_cons_self hC hz hf) (by rfl) T.m_isinstance (by decide +kernel) (pa_cons (pv 0) (pa_cons (pe_glob (v := .ref (adr mg "BadTimes")) (by rfl) T.e_BadTimes.g rfl) pa_nil))) pa_nil)))))
        (pss_one (ps_ret (pe_op op_cat (pv 1) (pe_lst (pa_cons (pe_callB (call_isP (pin := pin) List.mem_cons_self hC hz hf) (by rfl) T.m_isinstance (by decide +kernel) (pa_cons (pv 0) (pa_cons (pe_glob (v := .ref (adr mg "BadCount")) (by rfl) T.e_BadCount.g rfl) pa_nil))) (pa_cons (pe_callB (call_isP (pin := pin) List.mem_cons_self hC hz hf) (by rfl) T.m_isinstance (by decide +kernel) (pa_cons (pv 0) (pa_cons (pe_bltn (v := .ty "ValueError") (u := .type "ValueError") (by rfl) T.m_ValueError (by decide +kernel) rfl) pa_nil))) pa_nil))))))), ?_⟩
  refine at_start (σ := [some (.ref pin.1), none]) rfl ?_; simp only [kx, kx', kb, mx, mx', kb', kh, mh]
  walk_at "rd"
  refine r_isE (.own _) k1 ?_
  walk_at "rd"
  refine r_isE (.own _) k2 ?_
  walk_at "rd"
  refine r_isE (.own _) k3 ?_
  walk_at "rd"
  refine r_mkL (by show 3 ≤ sizeLine; decide) fun q H1 n1 e1 h1 => ?_
  walk_at "rd"
  refine r_isE (.own _) k4 ?_
  walk_at "rd"
  refine r_isE (.ty "ValueError") v ?_
  walk_at "rd"
  refine r_mkL (by show 2 ≤ sizeLine; decide) fun q2 H2 n2 e2 h2 => ?_
  refine r_cat (e2 _ _ h1) h2 (by show 3 + 2 ≤ sizeLine; decide) fun q3 H3 n3 e3 h3 => ?_
  exact k q3 H3 (exT e3 (exT e2 e1)) h3
/-- the four that ask -/
def SAsk (K : PySem.W.Frag) (mg : Str → Option Value) (f : Addr) (sp : Sp) : Prop := ∃ x : Str, (x = "_law_with_ring" ∨ x = "_law_with_place" ∨ x = "_law_with_times" ∨ x = "_law_with_count") ∧ f = adr mg x ∧ sp = sp_ask K mg x
theorem ask_all (T : Txt K mg) (f : Addr) (sp : Sp) (h : SAsk K mg f sp) : ∃ fd ps, FnOk P w K mg base (L2.CX P w) 5 f fd ps sp ∧ PySem.W.keepIn K (.ref f) = true ∧ Binds K fd ps [] := by
  have go : ∀ {x : Str} {k : Nat}, k ≤ 5 → f = adr mg x → CalX P w K mg base k x sp → ∃ fd ps, FnOk P w K mg base (L2.CX P w) 5 f fd ps sp ∧ PySem.W.keepIn K (.ref f) = true ∧ Binds K fd ps [] := by
    rintro x k hk rfl ⟨f, fd, ps, F, g, kp, b⟩
    rw [adr_of g]
    exact ⟨fd, ps, F.mono hk, kp, b⟩
  obtain ⟨x, hx, e, rfl⟩ := h
  rcases hx with rfl | rfl | rfl | rfl
  · exact go (by decide) e (x_law_with_ring T)
  · exact go (by decide) e (x_law_with_place T)
  · exact go (by decide) e (x_law_with_times T)
  · exact go (by decide) e (x_law_with_count T)
theorem Ask.name {K : PySem.W.Frag} {H : Hp} {x c : Str} {y z : V} (h : Ask K H x y z c) : (x = "_law_with_ring" ∨ x = "_law_with_place" ∨ x = "_law_with_times" ∨ x = "_law_with_count") ∧ c ∈ fourX := by
  cases h <;> exact ⟨by simp, by simp [fourX]⟩
/-- what the suite asks of the caught error -/
def SKinds (mg : Str → Option Value) (a : Addr) (cls : Value) (d : Option Addr) (sp : Sp) : Prop := ∃ c : Str, c ∈ fourX ∧ cls = .ref (adr mg c) ∧ d = none ∧ sp = sp_kinds c a
def tTryAs (K : PySem.W.Frag) (c : Value) (i : Nat) (ts : Addr → Value → Option Addr → TS) (tb : WX → TS) : TS := fun D σ H => tb (wAs K c i ts (fun _ _ _ _ => False) D) D σ H
theorem r_tryAs {K : PySem.W.Frag} {c : Value} {i : Nat} {ts : Addr → Value → Option Addr → TS} {tb : WX → TS} {D : Ends} {σ : L2.St} {H : Hp} (q : tb (wAs K c i ts (fun _ _ _ _ => False) D) D σ H) : tTryAs K c i ts tb D σ H := q
theorem r_ask {i : Nat} {S : Addr → Sp → Prop} {W : WX} {t : TA} {σ : L2.St} {H : Hp} {Q : VK} (f : Addr) (sp : Sp) (hs : σ[i]? = some (some (.ref f))) (hf : S f sp) (q : t σ H fun vs H1 => sp vs H1 Q (WE W σ)) : tAsk i S W t σ H Q := ⟨f, sp, hs, hf, q⟩
def sp_law_told (K : PySem.W.Frag) (mg : Str → Option Value) : Sp := fun vs H Q _ => ∃ (x c : Str) (y z : V), vs = [.ref (adr mg x), y, z] ∧ Ask K H x y z c ∧ ∀ q H', Ex H H' → H' q = some (.lst ((kindsM c).map V.bl)) → Q (.ref q) H'
theorem c_law_told (T : Txt K mg) : Cal P w K mg base 6 "_law_told" (sp_law_told K mg) := by
  refine cal T.d__law_told sc_law_told (by rintro vs H Q E ⟨_, _, _, _, rfl, _⟩; rfl) (fun f cdv A outer s H vs Q E hr h => ?_)
  obtain ⟨x, c, y, z, rfl, ask, k⟩ := h
  obtain ⟨fk, fdk, Fk, bk, gk⟩ := T.d__law_kinds
  obtain ⟨hx, hc⟩ := ask.name
  obtain ⟨_, exm, _⟩ := excT_of T hc
  refine ⟨_, (pss_cons (show PS _ _ (tTryAs _ _ 3 _ _) from ps_try_as (i := 3) rfl rfl sc_law_told.nd rfl rfl ⟨by rfl, by decide, .inl T.g_RingError⟩ takes0
      (fun W pn xe tk _ => (pss_one (ps_expr (pe_ask (i := 0) (k := 5) (SAsk K mg) tk (ask_all T) (hr.mono (by decide)) rfl (.inl rfl) (pa_cons (pv 1) (pa_cons (pv 2) pa_nil))))))
      (fun a oe cls d pn hz hf => (pss_one (ps_ret (pe_callP (pin := (a, oe)) (k := 1) (SKinds mg a cls d) List.mem_cons_self (by
        rintro sp ⟨c', hc', rfl, rfl, rfl⟩
        exact ⟨fdk, _, f_law_kinds (c := c') T Fk hc' hz hf, bk⟩) ⟨(hr.mono (by decide : 1 ≤ 5)).dp, (hr.mono (by decide : 1 ≤ 5)).un⟩ (by rfl) gk Fk.kp (pa_cons (pv 3) pa_nil))))))
    pss_never), ?_⟩
  refine at_start (σ := [some (.ref (adr mg x)), some (y), some (z), none]) rfl ?_; simp only [kx, kx', kb, mx, mx', kb', kh, mh]
  walk_at "rd"
  refine r_tryAs ?_
  walk_at "rd"
  refine r_ask (adr mg x) (sp_ask K mg x) rfl ⟨x, hx, rfl, rfl⟩ ?_
  walk_at "rd"
  refine ⟨y, z, c, rfl, ask, fun H1 e1 => ⟨true, exm, fun _ a na => ?_, fun q => nomatch q⟩⟩
  walk_at "rd"
  exact ⟨_, ⟨c, hc, rfl, rfl, rfl⟩, rfl, fun q H2 e2 h2 => k q H2 (exT e2 e1) h2⟩
/-- lists of true and false as data -/
def bsD (bs : List Bool) : PyData := .list (bs.map PyData.bool)
theorem bsD_all (bs : List Bool) : PyData.canLayAll0 (bs.map PyData.bool) = true ∧ PyData.depthAll (bs.map PyData.bool) ≤ 0 := by
  induction bs with
  | nil => exact ⟨by simp [PyData.canLayAll0], by simp [PyData.depthAll]⟩
  | cons x r ih =>
    refine ⟨?_, ?_⟩
    · rw [List.map_cons, PyData.canLayAll0, ih.1, PyData.canLay0]
      rfl
    · rw [List.map_cons, PyData.depthAll, PyData.depth]
      have := ih.2
      omega
theorem bsD_shaped (bs : List Bool) : SeqAt.shaped (bsD bs) = true := by
  have h := bsD_all bs
  unfold SeqAt.shaped bsD
  rw [PyData.canLay0, h.1, PyData.depth]
  have := h.2
  exact decide_eq_true (by omega)
theorem bsD_same (bs : List Bool) : PyData.eqv (bsD bs) (bsD bs) = true := SeqAt.eqv_refl _ (by
  unfold bsD
  rw [PyData.canLay0]
  exact (bsD_all bs).1)
theorem dp_bs {H : Hp} {p : Addr} {bs : List Bool} (h : SqL K H p (bs.map V.bl)) : Dp K H (.ref p) (bsD bs) := by
  refine Dp.lst h ?_
  clear h
  induction bs with
  | nil => exact .nil
  | cons n ns ih => exact .cons (.bl _) ih
theorem r_sameBs {H : Hp} {p q : Addr} {bs : List Bool} {Q : VK} (h1 : H p = some (.lst (bs.map V.bl))) (h2 : H q = some (.lst (bs.map V.bl))) (k : Q (.bl true) H) : rEqD K (.ref p) (.ref q) H Q :=
  r_eqD _ _ (dp_bs (.of h1)) (dp_bs (.of h2)) (bsD_shaped _) (bsD_shaped _) (by rw [bsD_same]; exact k)
def sp_law_all (K : PySem.W.Frag) (mg : Str → Option Value) : Sp := fun vs H Q _ => ∃ (x c : Str) (v : V) (ds ts du : Addr) (doors : List Int) (things : List V), vs = [.ref (adr mg x), v, .ref ds, .ref ts, .ref du] ∧
  SqL K H ds (doors.map V.int) ∧ H ts = some (.lst things) ∧ H du = some (.lst ((kindsM c).map V.bl)) ∧ things.length ≤ 1000 ∧ (∀ d ∈ doors, ∀ y ∈ things, ∀ t H', Ex H H' → H' t = some (.tup [.int d, y]) → Ask K H' x v (.ref t) c) ∧ ∀ H', Ex H H' → Q (.bl true) H'
theorem c_law_all (T : Txt K mg) : Cal P w K mg base 7 "_law_all" (sp_law_all K mg) := by
  refine cal T.d__law_all sc_law_all (by rintro vs H Q E ⟨_, _, _, _, _, _, _, _, rfl, _⟩; rfl) (fun f cdv A outer s H vs Q E hr h => ?_)
  obtain ⟨x, c, v, ds, ts, du, doors, things, rfl, hds, hts, hdu, few, ask, k⟩ := h
  refine ⟨_, (pss_cons (ps_for PassesOwn.never rfl (pi_list (pv 2)) (pg_name (i := 5) sc_law_all.nd rfl (by first | exact Or.inl rfl | exact Or.inr rfl))
          (pss_one (ps_if (pt_not (pt_val (pe_callB (cr_all rfl) (by rfl) T.m_all (by decide +kernel) (pa_cons (pe_lc (own := [("_law_thing", 6)]) (g := (gName 6)) rfl sc_law_all.nd (pi_list (pv 3)) (blkOk_by (own := [("_law_thing", 6)]) (N := ["_law_ask", "_law_ring_here", "_law_doors", "_law_things", "_law_due", "_law_door", "_law_thing"]) (sc := defScope s_law_all) (by decide +kernel)) (fun _ _ _ _ _ => (pg_name (i := 6) sc_law_all.nd rfl (by first | exact Or.inl rfl | exact Or.inr rfl))) (fun _ _ _ _ _ => pts_nil) (fun _ _ _ _ _ => (pe_cmpR (show OpR _ _ (rEqD K) from op_eqD hr.units) (pe_c (c_law_told T) hr (by decide) (by rfl) (pa_cons (pv 0) (pa_cons (pv 1) (pa_cons (pe_tup (pa_cons (pv 5) (pa_cons (pv 6) pa_nil))) pa_nil)))) (pv 4) (nomark _)))) pa_nil)))) (pss_one (ps_ret pe_bl)) pss_nil)))
        (pss_one (ps_ret pe_bl))), ?_⟩
  refine at_start (σ := [some (.ref (adr mg x)), some (v), some (.ref ds), some (.ref ts), some (.ref du), none, none]) rfl ?_; simp only [kx, kx', kb, mx, mx', kb', kh, mh]
  walk_at "rd"
  refine forK_listI H hds (fun n σ' H' => ∃ x5 x6, σ' = [some (.ref (adr mg x)), some v, some (.ref ds), some (.ref ts), some (.ref du), x5, x6] ∧ Ex H H') ⟨_, _, rfl, Evl.Ex.refl _⟩ (fun n σ' H' ⟨_, _, _, e⟩ => e) ?_ ?_
  · rintro n d σ' H1 hn ⟨x5, x6, rfl, e1⟩
    have hd := List.mem_of_getElem? hn
    walk_at "rd"
    refine lcK_list (things.map fun _ => V.bl true) (by simp) (.of (e1 _ _ hts)) (by omega) (fun _ => rfl) (fun i y b hy hb H2 e2 Q1 k1 => ?_) fun p H2 n2 e2 g2 => ?_
    · have eb : b = .bl true := by
        rw [List.getElem?_map, hy] at hb
        exact (Option.some.inj hb).symm
      subst eb
      walk_at "rd"
      refine r_mkU (by show 2 ≤ sizeLine; decide) fun t H3 n3 e3 h3 => ?_
      walk_at "rd"
      have e03 : Ex H H3 := exT e3 (exT e2 e1)
      refine ⟨x, c, v, _, rfl, ask d hd y (List.mem_of_getElem? hy) t H3 e03 h3, fun q H4 e4 h4 => ?_⟩
      walk_at "rd"
      exact r_sameBs h4 (exT e4 e03 _ _ hdu) (k1 _ (exT e4 e3))
    · walk_at "rd"
      refine r_all (bs := things.map fun _ => true) (.of (by rw [List.map_map]; exact g2)) ?_
      rw [show (things.map fun _ => true).all id = true by simp]
      walk_at "rd"
      exact ⟨_, _, rfl, exT e2 e1⟩
  · rintro σ' H1 ⟨x5, x6, rfl, e1⟩
    walk_at "rd"
    exact k _ e1
theorem r_dnew2 {σ : L2.St} {H : Hp} {Q : VK} (q : ∀ p H', H p = none → Ex H H' → H' p = some (.dK []) → Q (.ref p) H') : tDNewK σ H Q := fun p hp => q p _ hp (exN hp) upd_same
theorem hide_mono {q : Addr} {H H' : Hp} (e : Ex H H') : Ex (hide q H) (hide q H') := fun a o h => by
  unfold hide at h ⊢
  split at h
  · cases h
  · rename_i ne
    rw [if_neg ne]
    exact e _ _ h
theorem hide_upd {q : Addr} {H : Hp} {o : HO} : hide q (upd H q o) = hide q H := by
  funext a
  unfold hide
  split
  · rfl
  · rename_i ne
    exact upd_ne ne
/-- things, each with its answer -/
inductive SttAll (H : Hp) : List V → List Bool → Prop
  | nil : SttAll H [] []
  | cons {x : V} {b : Bool} {xs : List V} {bs : List Bool} (h : Stt H x b) (t : SttAll H xs bs) : SttAll H (x :: xs) (b :: bs)
theorem SttAll.app {H : Hp} {xs ys : List V} {bs cs : List Bool} (h : SttAll H xs bs) (g : SttAll H ys cs) : SttAll H (xs ++ ys) (bs ++ cs) := by
  induction h with
  | nil => exact g
  | cons h _ ih => exact .cons h ih
theorem SttAll.len {H : Hp} {xs : List V} {bs : List Bool} (h : SttAll H xs bs) : bs.length = xs.length := by
  induction h with
  | nil => rfl
  | cons _ _ ih => simp [ih]
theorem SttAll.at {H : Hp} {xs : List V} {bs : List Bool} (h : SttAll H xs bs) : ∀ (i : Nat) (x : V) (b : Bool), xs[i]? = some x → bs[i]? = some b → Stt H x b := by
  induction h with
  | nil =>
    intro i x b hx
    simp at hx
  | cons h _ ih =>
    intro i x b hx hb
    cases i with
    | zero =>
      cases hx
      cases hb
      exact h
    | succ i => exact ih i x b (by simpa using hx) (by simpa using hb)
theorem SttAll.good {H : Hp} {xs : List V} (h : ∀ x ∈ xs, Stt H x true) : SttAll H xs (xs.map fun _ => true) := by
  induction xs with
  | nil => exact .nil
  | cons x xs ih => exact .cons (h x List.mem_cons_self) (ih fun y hy => h y (List.mem_cons_of_mem _ hy))
theorem ring_stt {H : Hp} {a : Addr} {r : Ring} {vs : List V} (hR : RingAt K H a r) (ok : Ok r) (hv : H a = some (.lst vs)) : ∀ x ∈ vs, Stt H x true := by
  obtain ⟨ws, h1, h2, h3⟩ := hR
  rw [hv] at h1
  cases h1
  rw [List.length_map] at h2
  intro x hx
  obtain ⟨i, hi⟩ := List.getElem?_of_mem hx
  have hl : i < r.length := by have := (List.getElem?_eq_some_iff.mp hi).1; omega
  obtain ⟨q, z1, z2⟩ := h3 i (prV r[i]) (by rw [List.getElem?_map, List.getElem?_eq_getElem hl]; rfl)
  have ex : x = .ref q := Option.some.inj (hi.symm.trans z1)
  subst ex
  exact .ok z2 (ok.pos _ (List.getElem_mem hl))
/-- a ring with a strange stretch in it -/
theorem NoRing.strange {H : Hp} {a l : Addr} {r : Ring} {vs : List V} {x : V} {j : Nat} (hR : RingAt K H a r) (ok : Ok r) (hv : H a = some (.lst vs)) (hx : Stt H x false) (hl : H l = some (.lst (vs.take j ++ [x] ++ vs.drop (j + 1)))) : NoRing H (.ref l) := by
  have good := ring_stt hR ok hv
  have few := ok.few
  obtain ⟨us, hu, lu⟩ := hR.lst
  rw [hv] at hu
  cases hu
  have all : SttAll H (vs.take j ++ [x] ++ vs.drop (j + 1)) (((vs.take j).map fun _ => true) ++ [false] ++ (vs.drop (j + 1)).map fun _ => true) :=
    ((SttAll.good fun y hy => good y (List.mem_of_mem_take hy)).app (.cons hx .nil)).app (SttAll.good fun y hy => good y (List.mem_of_mem_drop hy))
  refine .bad _ hl all.len ?_ all.at (by simp)
  rw [List.length_append, List.length_append, List.length_take, List.length_drop, List.length_singleton]
  omega
/-- the steps over a ring's places -/
theorem rg63 : ∀ L : Fin 64, 1 ≤ L.val → RgC 0 (L.val : Int) (1 + (L.val : Int) / 6) ((L.val - 1) / (1 + L.val / 6) + 1) := by
  have h : ∀ L : Fin 64, 1 ≤ L.val → (1 + (L.val : Int) / 6 ≠ 0 ∧ (1 + (L.val : Int) / 6).natAbs < 1073741824 ∧ Builtin.Range.small 0 (L.val : Int) (1 + (L.val : Int) / 6) = true ∧ Builtin.Range.rangeSize 0 (L.val : Int) (1 + (L.val : Int) / 6) = (((L.val - 1) / (1 + L.val / 6) + 1 : Nat) : Int)) := by decide +kernel
  exact h
theorem step63 {L t : Nat} (h1 : 1 ≤ L) (ht : t < (L - 1) / (1 + L / 6) + 1) : t * (1 + L / 6) < L := by
  have z := (Nat.le_div_iff_mul_le (show 0 < 1 + L / 6 by omega)).mp (show t ≤ (L - 1) / (1 + L / 6) by omega)
  omega
theorem r_rng3c {i j c : Int} {n : Nat} {H : Hp} {R : It → Hp → Prop} (h : RgC i j c n) (q : R (Itc i c n) H) : ∃ (i' j' c' : Int) (n' : Nat), [V.int i, V.int j, V.int c] = [.int i', .int j', .int c'] ∧ RgC i' j' c' n' ∧ R (Itc i' c' n') H := ⟨i, j, c, n, rfl, h, q⟩
theorem forK_step {lo c : Int} {n : Nat} {j : Nat} {tb : TS} {nx : L2.St → Hp → Prop} {rt : VK} {bk ct : L2.St → Hp → Prop} {σ : L2.St} {H : Hp} (Pv : Nat → L2.St → Hp → Prop) (p0 : Pv 0 σ H)
    (hs : ∀ i σ' H', i < n → Pv i σ' H' → tb ⟨Pv (i + 1), rt, nx, Pv (i + 1)⟩ (σ'.set j (some (.int (lo + (i : Nat) * c)))) H')
    (hd : ∀ σ' H', Pv n σ' H' → nx σ' H') : ForK (gName j) tb ⟨nx, rt, bk, ct⟩ σ (Itc lo c n) H :=
  for_rangeC (lo := lo) (c := c) (n := n) Pv p0 (fun i σ' H' hi p => hs i σ' H' hi p) hd
/-- the refusals' lists -/
def kkM (i : Nat) : List Bool := [decide ((i : Int) = 0), decide ((i : Int) = 1), decide ((i : Int) = 2), decide ((i : Int) = 3), true]
def DueAt (n : Nat) (H : Hp) (du : Addr) : Prop := ∃ ps : List Addr, ps.length = n ∧ H du = some (.lst (ps.map V.ref)) ∧ ∀ i p, ps[i]? = some p → H p = some (.lst ((kkM i).map V.bl))
theorem DueAt.ex {n : Nat} {H H' : Hp} {du : Addr} (e : Ex H H') (h : DueAt n H du) : DueAt n H' du := by
  obtain ⟨ps, h1, h2, h3⟩ := h
  exact ⟨ps, h1, e _ _ h2, fun i p hp => e _ _ (h3 i p hp)⟩
theorem DueAt.at {n : Nat} {H : Hp} {du : Addr} (h : DueAt n H du) {i : Nat} (hi : i < n) : ∃ p vs, SqL K H du vs ∧ atI vs (i : Int) = some (.ref p) ∧ H p = some (.lst ((kkM i).map V.bl)) := by
  obtain ⟨ps, h1, h2, h3⟩ := h
  have hp : ps[i]? = some ps[i] := List.getElem?_eq_getElem (by omega)
  exact ⟨_, _, .of h2, atI_nat (by rw [List.getElem?_map, hp]; rfl), h3 i _ hp⟩
theorem DueAt.snoc {n : Nat} {H : Hp} {du p : Addr} {vs : List V} (h : DueAt n H du) (hv : H du = some (.lst vs)) (hp : H p = some (.lst ((kkM n).map V.bl))) (ne : p ≠ du) (nes : ∀ q, (V.ref q) ∈ vs → q ≠ du) : DueAt (n + 1) (upd H du (.lst (vs ++ [.ref p]))) du := by
  obtain ⟨ps, h1, h2, h3⟩ := h
  rw [hv] at h2
  cases h2
  refine ⟨ps ++ [p], by simp [h1], by rw [upd_same, List.map_append]; rfl, fun i q hq => ?_⟩
  by_cases hi : i < ps.length
  · rw [List.getElem?_append_left hi] at hq
    rw [upd_ne (nes q (List.mem_map.mpr ⟨q, List.mem_of_getElem? hq, rfl⟩))]
    exact h3 i q hq
  · have e : i = ps.length := by
      have := (List.getElem?_eq_some_iff.mp hq).1
      simp at this
      omega
    subst e
    rw [List.getElem?_append_right (by omega)] at hq
    have eq : q = p := by simpa using hq.symm
    subst eq
    rw [upd_ne ne, h1]
    exact hp
theorem kk0 : kkM 0 = kindsM "BadRing" := by decide +kernel
theorem kk1 : kkM 1 = kindsM "BadPlace" := by decide +kernel
theorem kk2 : kkM 2 = kindsM "BadTimes" := by decide +kernel
theorem kk3 : kkM 3 = kindsM "BadCount" := by decide +kernel
theorem among_zero {r : Ring} (p : Int) : among r p 0 = 0 := by
  unfold among
  rw [Int.add_zero]
  omega
def sp_law_cell_at (K : PySem.W.Frag) : Sp := fun vs H Q _ => ∃ (a : Addr) (ns : List Int) (i : Nat), vs = [.ref a, .int i] ∧ SqL K H a (ns.map V.int) ∧ ∀ H', Ex H H' → Q (.int (cellM ns i)) H'
theorem c_law_cell_at (T : Txt K mg) : Cal P w K mg base 1 "_law_cell_at" (sp_law_cell_at K) := by
  refine cal T.d__law_cell_at sc_law_cell_at (by rintro vs H Q E ⟨_, _, _, rfl, _⟩; rfl) (fun f cdv A outer s H vs Q E hr h => ?_)
  obtain ⟨a, ns, i, rfl, hS, k⟩ := h
  refine ⟨_, (pss_cons (ps_if (pt_cmpR op_lt (pv 1) (pe_callB cr_len (by rfl) T.m_len (by decide +kernel) (pa_cons (pv 0) pa_nil)) (nomark _)) (pss_one (ps_ret (pe_ix ix_list (pv 0) (pv 1) (fun _ _ => rfl)))) pss_nil)
        (pss_one (ps_ret pe_int))), ?_⟩
  refine at_start (σ := [some (.ref a), some (.int i)]) rfl ?_; simp only [kx, kx', kb, mx, mx', kb', kh, mh]
  walk_at "rd"
  refine r_len (n := ns.length) hS (by rw [List.length_map]) ?_
  walk_at "rd"
  refine iteD (fun e => ?_) (fun e => ?_)
  · have hi : i < ns.length := by omega
    walk_at "rd"
    refine r_ixL hS (atI_nat (v := .int (cellM ns i)) (by
      rw [List.getElem?_map, List.getElem?_eq_getElem hi]
      unfold cellM
      rw [List.getD_eq_getElem?_getD, List.getElem?_eq_getElem hi]
      rfl)) ?_
    exact k _ (Evl.Ex.refl _)
  · walk_at "rd"
    have e0 : cellM ns i = 0 := by
      unfold cellM
      rw [List.getD_eq_getElem?_getD, List.getElem?_eq_none (by omega)]
      rfl
    have q := k H (Evl.Ex.refl _)
    rw [e0] at q
    exact q
def sp_law_draw (K : PySem.W.Frag) : Sp := fun vs H Q _ => ∃ (c i m : Int), vs = [.int c, .int i, .int m] ∧ Builtin.Int.intBits c ≤ 4000000 ∧ 0 ≤ i ∧ i ≤ 100000 ∧ 0 < m ∧ ∀ H', Ex H H' → Q (.int (drawM c i m)) H'
theorem c_law_draw (T : Txt K mg) : Cal P w K mg base 1 "_law_draw" (sp_law_draw K) := by
  refine cal T.d__law_draw sc_law_draw (by rintro vs H Q E ⟨_, _, _, rfl, _⟩; rfl) (fun f cdv A outer s H vs Q E hr h => ?_)
  obtain ⟨c, i, m, rfl, hc, h0, h1, hm, k⟩ := h
  refine ⟨_, (pss_cons (ps_set (i := 3) sc_law_draw.nd rfl (by first | exact Or.inl rfl | exact Or.inr rfl) (pe_tup (pa_cons pe_int (pa_cons pe_int (pa_cons pe_int (pa_cons pe_int (pa_cons pe_int (pa_cons pe_int (pa_cons pe_int (pa_cons pe_int (pa_cons pe_int (pa_cons pe_int (pa_cons pe_int (pa_cons pe_int (pa_cons pe_int (pa_cons pe_int (pa_cons pe_int (pa_cons pe_int pa_nil))))))))))))))))))
        (pss_one (ps_ret (pe_op op_mod (pe_op op_mod (pe_op op_add (pe_op op_mulX (pv 0) pe_int) (pe_op op_mulX (pv 1) pe_int)) (pe_ix ix_tup (pv 3) (pe_op op_mod (pv 1) pe_int) (fun _ _ => rfl))) (pv 2))))), ?_⟩
  refine at_start (σ := [some (.int c), some (.int i), some (.int m), none]) rfl ?_; simp only [kx, kx', kb, mx, mx', kb', kh, mh]
  walk_at "rd"
  refine r_mkU (by show 16 ≤ sizeLine; decide) fun t H1 n1 e1 h1 => ?_
  walk_at "rd"
  refine r_I (by
    have z : Builtin.Int.intBits 48271 ≤ 16 := by decide
    unfold CMulX
    omega) ?_
  walk_at "rd"
  refine r_I (mulx_60 (by omega) (by omega)) ?_
  walk_at "rd"
  refine r_I (show (0 : Int) < 16 by decide) ?_
  walk_at "rd"
  have i0 : 0 ≤ i % 16 := Int.emod_nonneg _ (by decide)
  have i1 : i % 16 < 16 := Int.emod_lt_of_pos _ (by decide)
  refine r_ixT (.of h1) (prime_ix i0 i1) ?_
  refine r_I (prime_pos i0 i1) ?_
  walk_at "rd"
  refine r_I hm ?_
  exact k _ e1
def sp_law_number (K : PySem.W.Frag) : Sp := fun vs H Q _ => ∃ (c i m : Int), vs = [.int c, .int i, .int m] ∧ Builtin.Int.intBits c ≤ 1048576 ∧ 0 ≤ i ∧ i ≤ 10000 ∧ 0 < m ∧ ∀ H', Ex H H' → Q (.int (numM c i m)) H'
theorem c_law_number (T : Txt K mg) : Cal P w K mg base 2 "_law_number" (sp_law_number K) := by
  refine cal T.d__law_number sc_law_number (by rintro vs H Q E ⟨_, _, _, rfl, _⟩; rfl) (fun f cdv A outer s H vs Q E hr h => ?_)
  obtain ⟨c, i, m, rfl, hc, h0, h1, hm, k⟩ := h
  have p18 : (10 : Int) ^ (18 : Int).toNat = 1000000000000000000 := by decide
  have p40 : (10 : Int) ^ (40 : Int).toNat = 10000000000000000000000000000000000000000 := by decide
  refine ⟨_, (pss_cons (ps_if (pt_cmpR op_ge (pv 0) (pe_op op_pow pe_int pe_int) (nomark _)) (pss_one (ps_ret (pe_op op_mod (pe_op op_sub (pv 0) (pe_op op_pow pe_int pe_int)) (pe_op op_pow pe_int pe_int)))) pss_nil)
        (pss_one (ps_ret (pe_c (c_law_draw T) hr (by decide) (by rfl) (pa_cons (pe_op op_mulX (pe_op op_add (pv 0) (pe_op op_mulX pe_int (pv 1))) (pe_op op_add (pe_op op_add (pv 0) (pe_op op_mulX pe_int (pv 1))) pe_int)) (pa_cons (pe_op op_add (pe_op op_mod (pv 1) pe_int) pe_int) (pa_cons (pv 2) pa_nil))))))), ?_⟩
  refine at_start (σ := [some (.int c), some (.int i), some (.int m)]) rfl ?_; simp only [kx, kx', kb, mx, mx', kb', kh, mh]
  walk_at "rd"
  refine r_I ⟨by decide, by decide, by decide⟩ ?_
  rw [p18]
  walk_at "rd"
  refine iteD (fun e => ?_) (fun e => ?_)
  · walk_at "rd"
    refine r_I ⟨by decide, by decide, by decide⟩ ?_
    rw [p18]
    walk_at "rd"
    refine r_I ⟨by decide, by decide, by decide⟩ ?_
    rw [p40]
    refine r_I (by decide) ?_
    have q := k H (Evl.Ex.refl _)
    unfold numM at q
    rw [if_pos e] at q
    exact q
  · walk_at "rd"
    refine r_I (mulx_60 (by omega) (by omega)) ?_
    walk_at "rd"
    refine r_I (mulx_60 (by omega) (by omega)) ?_
    walk_at "rd"
    have b1 : Builtin.Int.intBits (c + 977 * i) ≤ 1048577 := bits_add hc (Nat.le_trans (bits_60 (by omega)) (by decide))
    have b2 : Builtin.Int.intBits (c + 31 * i + 5) ≤ 1048578 := bits_add (bits_add hc (Nat.le_trans (bits_60 (by omega)) (by decide))) (Nat.le_trans (bits_60 (by omega)) (by decide))
    have b3 := bits_mul b1 b2
    refine r_I (by unfold CMulX; omega) ?_
    walk_at "rd"
    refine r_I (by decide) ?_
    walk_at "rd"
    have i0 : 0 ≤ i % 9 := Int.emod_nonneg _ (by decide)
    have i1 : i % 9 < 9 := Int.emod_lt_of_pos _ (by decide)
    refine ⟨_, _, _, rfl, Nat.le_trans b3 (by decide), by omega, by omega, hm, fun H1 e1 => ?_⟩
    have q := k H1 e1
    unfold numM at q
    rw [if_neg e] at q
    exact q
def sp_law_ring (K : PySem.W.Frag) : Sp := fun vs H Q _ => ∃ (a : Addr) (ns : List Int), vs = [.ref a] ∧ SqL K H a (ns.map V.int) ∧ ns.length ≤ 63 ∧ (∀ z ∈ ns, Builtin.Int.intBits z ≤ 1048576) ∧ ∀ p H', Ex H H' → RingAt K H' p (ringM ns) → Q (.ref p) H'
theorem c_law_ring (T : Txt K mg) : Cal P w K mg base 3 "_law_ring" (sp_law_ring K) := by
  refine cal T.d__law_ring sc_law_ring (by rintro vs H Q E ⟨_, _, rfl, _⟩; rfl) (fun f cdv A outer s H vs Q E hr h => ?_)
  obtain ⟨a, ns, rfl, hS, hl, hb, k⟩ := h
  have lim0 := limM_range ns
  have sl0 : 0 ≤ slantM ns ∧ slantM ns < 4 := drawM_range (by decide)
  refine ⟨_, (pss_cons (ps_set (i := 0) sc_law_ring.nd rfl (by first | exact Or.inl rfl | exact Or.inr rfl) (pe_slice sl_list (pv 0) po_none (po_some pe_int)))
        (pss_cons (ps_set (i := 1) sc_law_ring.nd rfl (by first | exact Or.inl rfl | exact Or.inr rfl) (pe_ix ix_tup (pe_tup (pa_cons pe_int (pa_cons pe_int (pa_cons pe_int (pa_cons pe_int pa_nil))))) (pe_c (c_law_draw T) hr (by decide) (by rfl) (pa_cons (pe_c (c_law_cell_at T) hr (by decide) (by rfl) (pa_cons (pv 0) (pa_cons pe_int pa_nil))) (pa_cons pe_int (pa_cons pe_int pa_nil)))) (fun _ _ => rfl)))
        (pss_cons (ps_set (i := 2) sc_law_ring.nd rfl (by first | exact Or.inl rfl | exact Or.inr rfl) (pe_c (c_law_draw T) hr (by decide) (by rfl) (pa_cons (pe_c (c_law_cell_at T) hr (by decide) (by rfl) (pa_cons (pv 0) (pa_cons pe_int pa_nil))) (pa_cons pe_int (pa_cons pe_int pa_nil)))))
        (pss_cons (ps_set (i := 3) sc_law_ring.nd rfl (by first | exact Or.inl rfl | exact Or.inr rfl) (pe_lst pa_nil))
        (pss_cons (ps_for PassesOwn.never rfl (pi_enum (by rfl) T.m_enumerate (pa_cons (pv 0) pa_nil)) (pg_tup (n := 2) rfl (pgs_cons (pg_name (i := 4) sc_law_ring.nd rfl (by first | exact Or.inl rfl | exact Or.inr rfl)) (pgs_cons (pg_name (i := 5) sc_law_ring.nd rfl (by first | exact Or.inl rfl | exact Or.inr rfl)) pgs_nil)))
          (pss_cons (ps_set (i := 6) sc_law_ring.nd rfl (by first | exact Or.inl rfl | exact Or.inr rfl) (pe_c (c_law_number T) hr (by decide) (by rfl) (pa_cons (pv 5) (pa_cons (pv 4) (pa_cons (pe_op op_mulX pe_int (pv 1)) pa_nil)))))
          (pss_cons (ps_set (i := 7) sc_law_ring.nd rfl (by first | exact Or.inl rfl | exact Or.inr rfl) (pe_ifExp (pt_cmpR op_lt (pv 2) pe_int (nomark _)) (pe_ix ix_str pe_str (pe_op op_mod (pv 6) pe_int) (fun _ _ => rfl)) (pe_ix ix_str pe_str (pe_op op_mod (pv 4) pe_int) (fun _ _ => rfl))))
          (pss_one (ps_expr (pe_bm PySem.F.plainAttrs_list PySem.F.slot_list_append PySem.F.type_list_append mt_append (pv 3) (pa_cons (pe_tup (pa_cons (pv 7) (pa_cons (pe_op op_add pe_int (pe_op op_mulX (pe_op op_fdivW (pv 6) pe_int) (pe_ifExp (PW.pt (pw_and (pt_cmpR op_eq (pv 2) pe_int (nomark _)) (pw_and1 (pt_cmpR op_eq (pv 7) pe_str (nomark _))))) pe_int pe_int))) pa_nil))) pa_nil)))))))
        (pss_one (ps_ret (pe_ifExp (pt_cmpR (op_neD hr.units) (pv 3) (pe_lst pa_nil) (nomark _)) (pv 3) (pe_lst (pa_cons (pe_tup (pa_cons pe_str (pa_cons pe_int pa_nil))) pa_nil)))))))))), ?_⟩
  refine at_start (σ := [some (.ref a), none, none, none, none, none, none, none]) rfl ?_; simp only [kx, kx', kb, mx, mx', kb', kh, mh]
  walk_at "rd"
  refine r_slL hS fun l H1 n1 e1 h1 => ?_
  rw [show cutV (ns.map V.int) none (some 63) = ns.map V.int from (cut_to _ 63).trans (List.take_of_length_le (by rw [List.length_map]; exact hl))] at h1
  walk_at "rd"
  refine r_mkU (by show 4 ≤ sizeLine; decide) fun t H2 n2 e2 h2 => ?_
  walk_at "rd"
  have hS2 : SqL K H2 l (ns.map V.int) := exL e2 (.of h1)
  refine ⟨l, ns, 0, rfl, hS2, fun H3 e3 => ?_⟩
  walk_at "rd"
  refine ⟨_, _, _, rfl, Nat.le_trans (cell_bits hb 0) (by decide), by decide, by decide, by decide, fun H4 e4 => ?_⟩
  have ex4 : Ex H2 H4 := exT e4 e3
  refine r_ixT (exU ex4 (.of h2)) (lim_ix ns) ?_
  walk_at "rd"
  refine ⟨l, ns, 1, rfl, exL ex4 hS2, fun H5 e5 => ?_⟩
  walk_at "rd"
  refine ⟨_, _, _, rfl, Nat.le_trans (cell_bits hb 1) (by decide), by decide, by decide, by decide, fun H6 e6 => ?_⟩
  walk_at "rd"
  refine r_mkL (by decide) fun q H7 n7 e7 h7 => ?_
  have ex6 : Ex H2 H6 := exT e6 (exT e5 ex4)
  have exA : Ex H H6 := exT ex6 (exT e2 e1)
  walk_at "rd"
  refine forK_enum H6 (exL ex6 hS2) (fun n σ' H' => ∃ x1 x2 x3 x4, σ' = [some (.ref l), some (.int (limM ns)), some (.int (slantM ns)), some (.ref q), x1, x2, x3, x4] ∧ Ex H6 H' ∧ RingAt K H' q ((mapK (strM (limM ns) (slantM ns)) ns).take n))
    ⟨_, _, _, _, rfl, e7, .nil h7⟩ (fun n σ' H' ⟨_, _, _, _, _, e, _⟩ => e) (fun m σ' H' H'' e ⟨x1, x2, x3, x4, z, e', hR⟩ => ⟨x1, x2, x3, x4, z, exT e e', hR.ex e⟩) ?_ ?_
  · rintro n z σ' H' hn ⟨x1, x2, x3, x4, rfl, e, hR⟩
    have hln : n < ns.length := (List.getElem?_eq_some_iff.mp hn).1
    walk_at "rd"
    refine r_I (mulx_60 (by omega) (by omega)) ?_
    walk_at "rd"
    refine ⟨z, n, _, rfl, hb z (List.mem_of_getElem? hn), by omega, by omega, by omega, fun H8 e8 => ?_⟩
    have nr := numM_range (cell := z) (k := (n : Int)) (lim := 2 * limM ns) (by omega) (by omega)
    walk_at "rd"
    obtain ⟨vs, hv, hvl⟩ := (hR.ex e8).lst
    have key : ∀ (kd : Bool), kd = (if slantM ns < 2 then decide (numM z n (2 * limM ns) % 2 = 0) else decide ((n : Int) % 2 = 0)) → strM (limM ns) (slantM ns) n z = (kd, 1 + numM z n (2 * limM ns) / 2 * (if slantM ns = 3 ∧ kd = true then 3 else 1)) := fun kd e => by
      rw [e]; rfl
    have fin : ∀ (kd : Bool) (m : Int) (p : Addr) (H9 : Hp), Ex H8 H9 → H9 p = some (.tup [.str (kS kd), .int m]) → strM (limM ns) (slantM ns) n z = (kd, m) →
        ∃ vs', H9 q = some (.lst vs') ∧ vs'.length < sizeLine ∧ ∀ y1 y2 y3 y4, (∃ x1 x2 x3 x4, [some (V.ref l), some (V.int (limM ns)), some (V.int (slantM ns)), some (V.ref q), y1, y2, y3, y4] = [some (.ref l), some (.int (limM ns)), some (.int (slantM ns)), some (.ref q), x1, x2, x3, x4] ∧ Ex H6 (upd H9 q (.lst (vs' ++ [.ref p]))) ∧ RingAt K (upd H9 q (.lst (vs' ++ [.ref p]))) q ((mapK (strM (limM ns) (slantM ns)) ns).take (n + 1))) := fun kd m p H9 e9 hp es => by
      obtain ⟨vs', hv', hvl'⟩ := ((hR.ex e8).ex e9).lst
      refine ⟨vs', hv', Evl.sz_lt (by rw [hvl', List.length_take, mapK_len]; omega), fun y1 y2 y3 y4 => ⟨_, _, _, _, rfl, exM (exT e9 (exT e8 e)) n7, ?_⟩⟩
      rw [mapK_take hn, es]
      exact ((hR.ex e8).ex e9).snoc hv' hp
    refine r_val (.str (kS (if slantM ns < 2 then decide (numM z n (2 * limM ns) % 2 = 0) else decide ((n : Int) % 2 = 0)))) (fun R q => ?_) ?_
    · refine r_if ?_
      walk_at "rd"
      refine iteD (fun c => ?_) (fun c => ?_)
      · rw [if_pos c] at q
        walk_at "rd"
        refine r_I (by decide) ?_
        exact r_ab (Int.emod_nonneg _ (by decide)) (Int.emod_lt_of_pos _ (by decide)) q
      · rw [if_neg c] at q
        walk_at "rd"
        refine r_I (by decide) ?_
        exact r_ab (Int.emod_nonneg _ (by decide)) (Int.emod_lt_of_pos _ (by decide)) q
    · generalize hkd : (if slantM ns < 2 then decide (numM z n (2 * limM ns) % 2 = 0) else decide ((n : Int) % 2 = 0)) = kd
      walk_at "rd"
      refine r_app1 hv ?_
      walk_at "rd"
      refine r_I ⟨by decide, by decide⟩ ?_
      refine r_val (.int (if slantM ns = 3 ∧ kd = true then 3 else 1)) (fun R q => ?_) ?_
      · refine r_if ?_
        walk_at "rd"
        refine iteD (fun c => ?_) (fun c => ?_)
        · walk_at "rd"
          rw [kS_a]
          cases kd
          · rw [if_neg (fun z => Bool.false_ne_true z.2)] at q
            walk_at "rd"
            exact q
          · rw [if_pos ⟨c, rfl⟩] at q
            walk_at "rd"
            exact q
        · rw [if_neg (fun z => c z.1)] at q
          walk_at "rd"
          exact q
      · have three : ∀ c : Prop, [Decidable c] → (if c then (3 : Int) else 1) = 3 ∨ (if c then (3 : Int) else 1) = 1 := fun c _ => by split <;> simp
        have th := three (slantM ns = 3 ∧ kd = true)
        refine r_I (mulx_60 (by omega) (by omega)) ?_
        walk_at "rd"
        refine r_mkU (by show 2 ≤ sizeLine; decide) fun p H9 n9 e9 h9 => ?_
        walk_at "rd"
        obtain ⟨vs', g1, g2, g3⟩ := fin kd _ p H9 e9 h9 (key kd hkd.symm)
        refine r_app2 g1 g2 ?_
        exact g3 _ _ _ _
  · rintro σ' H' ⟨x1, x2, x3, x4, rfl, e, hR⟩
    rw [List.take_of_length_le (by rw [mapK_len]; exact Nat.le_refl _)] at hR
    walk_at "rdI"
    refine r_mkL (by decide) fun p H8 n8 e8 h8 => ?_
    refine r_neD _ _ (hR.ex e8).dp (dp_nil h8) (rdD_shaped _) (rdD_shaped _) ?_
    rw [rdD_nil]
    walk_at "rd"
    refine iteN (fun z => ?_) (fun z => ?_)
    · walk_at "rd"
      refine k q H8 (exT e8 (exT e exA)) ?_
      unfold ringM orOne
      rw [if_neg z]
      exact hR.ex e8
    · walk_at "rd"
      refine r_mkU (by show 2 ≤ sizeLine; decide) fun p9 H9 n9 e9 h9 => ?_
      walk_at "rd"
      refine r_mkL (by show 1 ≤ sizeLine; decide) fun p10 H10 n10 e10 h10 => ?_
      refine k p10 H10 (exT e10 (exT e9 (exT e8 (exT e exA)))) ?_
      unfold ringM orOne
      rw [if_pos z]
      exact .one (k := true) h10 (e10 _ _ h9)
/-- beads of the kind a ahead of a place -/
def sp_ahead_in (K : PySem.W.Frag) : Sp := fun vs H Q _ => ∃ (t : Addr) (r : Ring) (p : Int), vs = [.ref t, .int p] ∧ TabAt K H t r ∧ (∀ x ∈ r, 1 ≤ x.2) ∧ 0 ≤ p ∧ ∀ H', Ex H H' → Q (.int (ahead r p)) H'
theorem c_ahead_in (T : Txt K mg) : Cal P w K mg base 1 "ahead_in" (sp_ahead_in K) := by
  refine cal T.d_ahead_in sc_ahead_in (by rintro vs H Q E ⟨_, _, _, rfl, _⟩; rfl) (fun f cdv A outer s H vs Q E hr h => ?_)
  obtain ⟨t, r, p, rfl, ⟨e, s', ht, he, hs⟩, hpos, h0, k⟩ := h
  refine ⟨_, (pss_cons (ps_asg (pv 0) (pg_tup (n := 2) rfl (pgs_cons (pg_name (i := 2) sc_ahead_in.nd rfl (by first | exact Or.inl rfl | exact Or.inr rfl)) (pgs_cons (pg_name (i := 3) sc_ahead_in.nd rfl (by first | exact Or.inl rfl | exact Or.inr rfl)) pgs_nil))))
        (pss_cons (ps_set (i := 4) sc_ahead_in.nd rfl (by first | exact Or.inl rfl | exact Or.inr rfl) pe_int)
        (pss_cons (ps_set (i := 5) sc_ahead_in.nd rfl (by first | exact Or.inl rfl | exact Or.inr rfl) (pe_callB cr_len (by rfl) T.m_len (by decide +kernel) (pa_cons (pv 2) pa_nil)))
        (pss_cons (ps_while PassesOwn.never (pt_cmpR op_gt (pe_op op_sub (pv 5) (pv 4)) pe_int (nomark _))
          (pss_cons (ps_set (i := 6) sc_ahead_in.nd rfl (by first | exact Or.inl rfl | exact Or.inr rfl) (pe_op op_fdivW (pe_op op_add (pv 4) (pv 5)) pe_int))
          (pss_one (ps_if (pt_cmpR op_le (pe_ix ix_list (pv 2) (pv 6) (fun _ _ => rfl)) (pv 1) (nomark _)) (pss_one (ps_set (i := 4) sc_ahead_in.nd rfl (by first | exact Or.inl rfl | exact Or.inr rfl) (pv 6))) (pss_one (ps_set (i := 5) sc_ahead_in.nd rfl (by first | exact Or.inl rfl | exact Or.inr rfl) (pv 6)))))))
        (pss_cons (ps_if (PW.pt (pw_and (pt_cmpR op_lt (pv 5) (pe_callB cr_len (by rfl) T.m_len (by decide +kernel) (pa_cons (pv 2) pa_nil)) (nomark _)) (pw_and1 (pt_cmpR op_gt (pe_ix ix_list (pv 3) (pv 5) (fun _ _ => rfl)) (pe_ix ix_list (pv 3) (pv 4) (fun _ _ => rfl)) (nomark _))))) (pss_one (ps_ret (pe_op op_sub (pe_op op_add (pe_ix ix_list (pv 3) (pv 4) (fun _ _ => rfl)) (pv 1)) (pe_ix ix_list (pv 2) (pv 4) (fun _ _ => rfl))))) pss_nil)
        (pss_one (ps_ret (pe_ix ix_list (pv 3) (pv 4) (fun _ _ => rfl))))))))), ?_⟩
  refine at_start (σ := [some (.ref t), some (.int p), none, none, none, none, none]) rfl ?_; simp only [kx, kx', kb, mx, mx', kb', kh, mh]
  walk_at "rd"
  refine r_len (n := r.length + 1) he (by rw [List.length_map, ends_len]) ?_
  walk_at "rd"
  refine r_while (fun m σ' H' => ∃ (lo hi : Nat) (x : Option V), σ' = [some (.ref t), some (.int p), some (.ref e), some (.ref s'), some (.int lo), some (.int hi), x] ∧ Ex H H' ∧ m = hi - lo ∧ lo < hi ∧ hi ≤ r.length + 1 ∧ size (r.take lo) ≤ p ∧ (hi ≤ r.length → p < size (r.take hi)))
    (r.length + 1) ⟨0, r.length + 1, none, rfl, Evl.Ex.refl _, by omega, by omega, by omega, by simpa [size] using h0, by omega⟩ ?_
  rintro m σ' H' ⟨lo, hi, x, rfl, ex, rfl, h1, h2, h3, h4⟩
  walk_at "rd"
  refine iteD (fun hc => ?_) (fun hc => ?_)
  · refine r_turn ?_
    walk_at "rd"
    refine r_I ⟨by decide, by decide⟩ ?_
    rw [show ((lo : Int) + (hi : Int)) / 2 = (((lo + hi) / 2 : Nat) : Int) by omega]
    walk_at "rd"
    refine r_ixL (exL ex he) (ends_ix (by omega)) ?_
    walk_at "rd"
    refine iteD (fun hm => ?_) (fun hm => ?_)
    · walk_at "rd"
      exact ⟨hi - (lo + hi) / 2, by omega, (lo + hi) / 2, hi, _, rfl, ex, rfl, by omega, h2, hm, h4⟩
    · walk_at "rd"
      exact ⟨(lo + hi) / 2 - lo, by omega, lo, (lo + hi) / 2, _, rfl, ex, rfl, by omega, by omega, h3, fun _ => by omega⟩
  · have e1 : hi = lo + 1 := by omega
    subst e1
    walk_at "rd"
    refine r_len (n := r.length + 1) (exL ex he) (by rw [List.length_map, ends_len]) ?_
    walk_at "rd"
    refine iteD (fun hl => ?_) (fun hl => ?_)
    · have hlt : lo < r.length := by omega
      have hx := List.getElem?_eq_getElem hlt
      have hp1 := hpos _ (List.getElem_mem hlt)
      have z1 := size_take hx
      have z2 := mine_take hx
      have z3 := ahead_at (p := p) hpos hx h3 (by have := h4 (by omega); omega)
      walk_at "rd"
      refine r_ixL (exL ex hs) (sums_ix (j := lo + 1) (by omega)) ?_
      walk_at "rd"
      refine r_ixL (exL ex hs) (sums_ix (j := lo) (by omega)) ?_
      walk_at "rd"
      refine iteD (fun hg => ?_) (fun hg => ?_)
      · walk_at "rd"
        refine r_ixL (exL ex hs) (sums_ix (j := lo) (by omega)) ?_
        walk_at "rd"
        refine r_ixL (exL ex he) (ends_ix (j := lo) (by omega)) ?_
        walk_at "rd"
        have z4 : (r[lo]).1 = true := by
          cases q : (r[lo]).1
          · rw [q] at z2; simp at z2; omega
          · rfl
        rw [z4, if_pos rfl] at z3
        rw [show mine (r.take lo) + p - size (r.take lo) = ahead r p by omega]
        exact k _ ex
      · walk_at "rd"
        refine r_ixL (exL ex hs) (sums_ix (j := lo) (by omega)) ?_
        have z4 : (r[lo]).1 = false := by
          cases q : (r[lo]).1
          · rfl
          · rw [q] at z2; simp at z2; omega
        rw [z4] at z3
        rw [show mine (r.take lo) = ahead r p by simp at z3; omega]
        exact k _ ex
    · have e2 : lo = r.length := by omega
      subst e2
      rw [List.take_length] at h3
      walk_at "rd"
      refine r_ixL (exL ex hs) (sums_ix (j := r.length) (by omega)) ?_
      rw [List.take_length, ← ahead_all hpos h3]
      exact k _ ex
def sp_along_in (K : PySem.W.Frag) : Sp := fun vs H Q _ => ∃ (t : Addr) (r : Ring) (p n : Int), vs = [.ref t, .int p, .int n] ∧ TabAt K H t r ∧ Ok r ∧ 0 ≤ p ∧ p < size r ∧ 0 ≤ n ∧ n ≤ 100000000000000000000000000000000000000000000000000000000000 ∧ ∀ H', Ex H H' → Q (.int (among r p n)) H'
theorem c_along_in (T : Txt K mg) : Cal P w K mg base 2 "along_in" (sp_along_in K) := by
  refine cal T.d_along_in sc_along_in (by rintro vs H Q E ⟨_, _, _, _, rfl, _⟩; rfl) (fun f cdv A outer s H vs Q E hr h => ?_)
  obtain ⟨t, r, p, n, rfl, hT, ok, h0, h1, h2, h3, k⟩ := h
  obtain ⟨e, s', ht, he, hs⟩ := id hT
  have z1 := ok.size_pos
  have z2 := ok.size_lt
  have z3 := mine_le r ok.pos
  have z4 : 0 ≤ (p + n) / size r := Int.ediv_nonneg (by omega) (by omega)
  have z5 : (p + n) / size r ≤ p + n := Int.ediv_le_self _ (by omega)
  have z6 : 0 ≤ (p + n) % size r := Int.emod_nonneg _ (by omega)
  refine ⟨_, (pss_cons (ps_set (i := 3) sc_along_in.nd rfl (by first | exact Or.inl rfl | exact Or.inr rfl) (pe_ix ix_list (pe_ix ix_tup (pv 0) pe_int (fun _ _ => rfl)) (pe_un un_neg pe_int) (fun _ _ => rfl)))
        (pss_cons (ps_set (i := 4) sc_along_in.nd rfl (by first | exact Or.inl rfl | exact Or.inr rfl) (pe_op op_fdivW (pe_op op_add (pv 1) (pv 2)) (pv 3)))
        (pss_one (ps_ret (pe_op op_sub (pe_op op_add (pe_op op_mulX (pv 4) (pe_ix ix_list (pe_ix ix_tup (pv 0) pe_int (fun _ _ => rfl)) (pe_un un_neg pe_int) (fun _ _ => rfl))) (pe_c (c_ahead_in T) hr (by decide) (by rfl) (pa_cons (pv 0) (pa_cons (pe_op op_mod (pe_op op_add (pv 1) (pv 2)) (pv 3)) pa_nil)))) (pe_c (c_ahead_in T) hr (by decide) (by rfl) (pa_cons (pv 0) (pa_cons (pv 1) pa_nil)))))))), ?_⟩
  refine at_start (σ := [some (.ref t), some (.int p), some (.int n), none, none]) rfl ?_; simp only [kx, kx', kb, mx, mx', kb', kh, mh]
  walk_at "rd"
  refine r_ixT (i := 0) (v := .ref e) ht rfl ?_
  walk_at "rd"
  refine r_ixL he (ends_last_at _) ?_
  walk_at "rd"
  refine r_I (divw_60 (by omega) (by omega)) ?_
  walk_at "rd"
  refine r_ixT (i := 1) (v := .ref s') ht rfl ?_
  walk_at "rd"
  refine r_ixL hs (sums_last_at _) ?_
  walk_at "rd"
  refine r_I (mulx_60 (by omega) (by omega)) ?_
  walk_at "rd"
  refine r_I (show 0 < size r by omega) ?_
  walk_at "rd"
  refine ⟨t, r, _, rfl, hT, ok.pos, z6, fun H1 e1 => ?_⟩
  walk_at "rd"
  refine ⟨t, r, _, rfl, hT.ex e1, ok.pos, h0, fun H2 e2 => ?_⟩
  walk_at "rd"
  rw [← among_in h0 h1]
  exact k _ (exT e2 e1)
def sp_along (K : PySem.W.Frag) : Sp := fun vs H Q _ => ∃ (a : Addr) (r : Ring) (p n : Int), vs = [.ref a, .int p, .int n] ∧ RingAt K H a r ∧ Ok r ∧ 0 ≤ p ∧ p < size r ∧ 0 ≤ n ∧ n ≤ 100000000000000000000000000000000000000000000000000000000000 ∧ ∀ H', Ex H H' → Q (.int (among r p n)) H'
theorem c_along (T : Txt K mg) : Cal P w K mg base 3 "along" (sp_along K) := by
  refine cal T.d_along sc_along (by rintro vs H Q E ⟨_, _, _, _, rfl, _⟩; rfl) (fun f cdv A outer s H vs Q E hr h => ?_)
  obtain ⟨a, r, p, n, rfl, hR, ok, h0, h1, h2, h3, k⟩ := h
  refine ⟨_, (pss_one (ps_ret (pe_c (c_along_in T) hr (by decide) (by rfl) (pa_cons (pe_c (c_table_of T) hr (by decide) (by rfl) (pa_cons (pv 0) pa_nil)) (pa_cons (pv 1) (pa_cons (pv 2) pa_nil)))))), ?_⟩
  refine at_start (σ := [some (.ref a), some (.int p), some (.int n)]) rfl ?_; simp only [kx, kx', kb, mx, mx', kb', kh, mh]
  walk_at "rd"
  refine ⟨a, r, rfl, hR, by have := ok.few; omega, fun t H1 e1 hT => ?_⟩
  walk_at "rd"
  refine ⟨t, r, p, n, rfl, hT, ok, h0, h1, h2, h3, fun H2 e2 => ?_⟩
  exact k _ (exT e2 e1)
def sp_among (K : PySem.W.Frag) : Sp := fun vs H Q _ => ∃ (a : Addr) (r : Ring) (p n : Int), vs = [.ref a, .int p, .int n] ∧ RingAt K H a r ∧ Ok r ∧ 0 ≤ p ∧ p < size r ∧ 0 ≤ n ∧ n ≤ 100000000000000000000000000000000000000000000000000000000000 ∧ ∀ H', Ex H H' → Q (.int (among r p n)) H'
theorem c_among (T : Txt K mg) : Cal P w K mg base 4 "among" (sp_among K) := by
  refine cal T.d_among sc_among (by rintro vs H Q E ⟨_, _, _, _, rfl, _⟩; rfl) (fun f cdv A outer s H vs Q E hr h => ?_)
  obtain ⟨a, r, p, n, rfl, hR, ok, h0, h1, h2, h3, k⟩ := h
  have few : r.length ≤ 10000 := by have := ok.few; omega
  refine ⟨_, (pss_cons (ps_expr (pe_c (c_check_ring T) hr (by decide) (by rfl) (pa_cons (pv 0) pa_nil)))
        (pss_cons (ps_expr (pe_c (c_check_place T) hr (by decide) (by rfl) (pa_cons (pv 0) (pa_cons (pv 1) pa_nil))))
        (pss_cons (ps_expr (pe_c (c_check_count T) hr (by decide) (by rfl) (pa_cons (pv 2) pa_nil)))
        (pss_one (ps_ret (pe_c (c_along T) hr (by decide) (by rfl) (pa_cons (pv 0) (pa_cons (pv 1) (pa_cons (pv 2) pa_nil))))))))), ?_⟩
  refine at_start (σ := [some (.ref a), some (.int p), some (.int n)]) rfl ?_; simp only [kx, kx', kb, mx, mx', kb', kh, mh]
  walk_at "rd"
  refine ⟨a, r, rfl, hR, ok, fun H1 e1 => ?_⟩
  walk_at "rd"
  refine ⟨a, r, p, rfl, hR.ex e1, few, h0, h1, fun H2 e2 => ?_⟩
  walk_at "rd"
  refine ⟨n, rfl, h2, fun H3 e3 => ?_⟩
  walk_at "rd"
  refine ⟨a, r, p, n, rfl, ((hR.ex e1).ex e2).ex e3, ok, h0, h1, h2, h3, fun H4 e4 => ?_⟩
  exact k _ (exT e4 (exT e3 (exT e2 e1)))
def sp_law_surplus (K : PySem.W.Frag) : Sp := fun vs H Q _ => ∃ (tb : Addr) (r : Ring) (t : Int), vs = [.ref tb, .int t] ∧ TabAt K H tb r ∧ Ok r ∧ 1 ≤ t ∧ t ≤ 100000000000000000000000000000000000000000000000000000000000 ∧ ∀ H', Ex H H' → Q (.int (hgt t r)) H'
theorem c_law_surplus (T : Txt K mg) : Cal P w K mg base 1 "_law_surplus" (sp_law_surplus K) := by
  refine cal T.d__law_surplus sc_law_surplus (by rintro vs H Q E ⟨_, _, _, rfl, _⟩; rfl) (fun f cdv A outer s H vs Q E hr h => ?_)
  obtain ⟨tb, r, t, rfl, hT, ok, h0, h1, k⟩ := h
  have few := ok.few
  have W1 := ok.size_lt
  have m := mine_le r ok.pos
  obtain ⟨p, q, z1, z2, z3⟩ := hT
  refine ⟨_, (pss_one (ps_ret (pe_op op_sub (pe_ix ix_list (pe_ix ix_tup (pv 0) pe_int (fun _ _ => rfl)) (pe_un un_neg pe_int) (fun _ _ => rfl)) (pe_op op_mulX (pv 1) (pe_op op_sub (pe_ix ix_list (pe_ix ix_tup (pv 0) pe_int (fun _ _ => rfl)) (pe_un un_neg pe_int) (fun _ _ => rfl)) (pe_ix ix_list (pe_ix ix_tup (pv 0) pe_int (fun _ _ => rfl)) (pe_un un_neg pe_int) (fun _ _ => rfl))))))), ?_⟩
  refine at_start (σ := [some (.ref tb), some (.int t)]) rfl ?_; simp only [kx, kx', kb, mx, mx', kb', kh, mh]
  walk_at "rd"
  refine r_ixT (i := 1) (v := .ref q) z1 rfl ?_
  walk_at "rd"
  refine r_ixL z3 (sums_last_at r) ?_
  walk_at "rd"
  refine r_ixT (i := 0) (v := .ref p) z1 rfl ?_
  walk_at "rd"
  refine r_ixL z2 (ends_last_at r) ?_
  walk_at "rd"
  refine r_ixT (i := 1) (v := .ref q) z1 rfl ?_
  walk_at "rd"
  refine r_ixL z3 (sums_last_at r) ?_
  walk_at "rd"
  refine r_I (mulx_60 (by omega) (by omega)) ?_
  walk_at "rd"
  rw [surplus_eq]
  exact k _ (Evl.Ex.refl _)
def sp_law (K : PySem.W.Frag) : Sp := fun vs H Q _ => ∃ (a : Addr) (ns : List Int), vs = [.ref a] ∧ SqL K H a (ns.map V.int) ∧ ns.length ≤ 63 ∧ (∀ z ∈ ns, Builtin.Int.intBits z ≤ 1048576) ∧ ∀ H', Q (.bl true) H'
set_option maxHeartbeats 16000000 in
theorem ok_law {f : Addr} {fd : FuncData} (F : Fun K "law" "law" s_law f fd) (T : Txt K mg) : FnOk P w K mg base CX0 8 f fd ["_law_script"] (sp_law K) := by
  refine F.ok sc_law (by rintro vs H Q E ⟨_, _, rfl, _⟩; rfl) (fun cdv A outer s H vs Q E hr h => ?_)
  obtain ⟨a, ns, rfl, hS, hl, hb, k⟩ := h
  have p20 : (10 : Int) ^ (20 : Int).toNat = 100000000000000000000 := by decide
  refine ⟨_, (pss_cons (ps_set (i := 1) sc_law.nd rfl (by first | exact Or.inl rfl | exact Or.inr rfl) (pe_op op_mod (pe_c (c_law_cell_at T) hr (by decide) (by rfl) (pa_cons (pv 0) (pa_cons pe_int pa_nil))) (pe_op op_pow pe_int pe_int)))
        (pss_cons (ps_set (i := 2) sc_law.nd rfl (by first | exact Or.inl rfl | exact Or.inr rfl) (pe_lst pa_nil))
        (pss_cons (ps_for PassesOwn.never rfl (pi_range1 rfl T.m_range (pa_cons pe_int pa_nil)) (pg_name (i := 3) sc_law.nd rfl (by first | exact Or.inl rfl | exact Or.inr rfl))
          (pss_one (ps_expr (pe_bm PySem.F.plainAttrs_list PySem.F.slot_list_append PySem.F.type_list_append mt_append (pv 2) (pa_cons (pe_lst (pa_cons (pe_cmpR op_eq (pv 3) pe_int (nomark _)) (pa_cons (pe_cmpR op_eq (pv 3) pe_int (nomark _)) (pa_cons (pe_cmpR op_eq (pv 3) pe_int (nomark _)) (pa_cons (pe_cmpR op_eq (pv 3) pe_int (nomark _)) (pa_cons pe_bl pa_nil)))))) pa_nil)))))
        (pss_cons (ps_set (i := 4) sc_law.nd rfl (by first | exact Or.inl rfl | exact Or.inr rfl) (pe_c (c_law_ring T) hr (by decide) (by rfl) (pa_cons (pv 0) pa_nil)))
        (pss_cons (ps_par3 (i := 5) (j := 6) (l := 7) rfl sc_law.nd rfl rfl rfl (by decide) (by decide) (by decide) rfl rfl rfl (pa_cons (pe_callTy cr_listOf (by rfl) T.m_list (by decide +kernel) (pa_cons (pv 4) pa_nil)) (pa_cons (pe_c (c_law_size T) hr (by decide) (by rfl) (pa_cons (pv 4) pa_nil)) (pa_cons (pe_callB (cr_max2 rfl) (by rfl) T.m_max (by decide +kernel) (pa_cons pe_int (pa_cons (pe_c (c_law_surplus T) hr (by decide) (by rfl) (pa_cons (pe_c (c_law_table T) hr (by decide) (by rfl) (pa_cons (pv 4) pa_nil)) (pa_cons pe_int pa_nil))) pa_nil))) pa_nil))) rfl)
        (pss_cons (ps_set (i := 8) sc_law.nd rfl (by first | exact Or.inl rfl | exact Or.inr rfl) (pe_lst (pa_cons pe_non (pa_cons (pe_tup pa_nil) (pa_cons (pe_tup (pa_cons (pe_tup (pa_cons pe_str (pa_cons pe_int pa_nil))) pa_nil)) (pa_cons pe_str (pa_cons pe_dnewK (pa_cons pe_int (pa_cons (pe_lst pa_nil) (pa_cons (pe_lst (pa_cons pe_non pa_nil)) (pa_cons (pe_lst (pa_cons pe_str pa_nil)) (pa_cons (pe_lst (pa_cons (pe_tup (pa_cons pe_str pa_nil)) pa_nil)) (pa_cons (pe_lst (pa_cons (pe_tup (pa_cons pe_str (pa_cons pe_int (pa_cons pe_int pa_nil)))) pa_nil)) (pa_cons (pe_lst (pa_cons (pe_lst (pa_cons pe_str (pa_cons pe_int pa_nil))) pa_nil)) (pa_cons (pe_lst (pa_cons (pe_tup (pa_cons pe_str (pa_cons pe_int pa_nil))) pa_nil)) pa_nil)))))))))))))))
        (pss_cons (ps_set (i := 8) sc_law.nd rfl (by first | exact Or.inl rfl | exact Or.inr rfl) (pe_op op_cat (pv 8) (pe_lst (pa_cons (pe_lst (pa_cons (pe_tup (pa_cons pe_str (pa_cons pe_int pa_nil))) pa_nil)) (pa_cons (pe_lst (pa_cons (pe_tup (pa_cons pe_str (pa_cons pe_int pa_nil))) pa_nil)) (pa_cons (pe_lst (pa_cons (pe_tup (pa_cons pe_str (pa_cons pe_int pa_nil))) pa_nil)) (pa_cons (pe_lst (pa_cons (pe_tup (pa_cons pe_str (pa_cons pe_int pa_nil))) pa_nil)) (pa_cons (pe_lst (pa_cons (pe_tup (pa_cons pe_str (pa_cons (pe_op op_sub (pe_un un_neg pe_int) (pv 1)) pa_nil))) pa_nil)) (pa_cons (pe_lst (pa_cons (pe_tup (pa_cons pe_str (pa_cons pe_bl pa_nil))) pa_nil)) (pa_cons (pe_lst (pa_cons (pe_tup (pa_cons pe_str (pa_cons pe_str pa_nil))) pa_nil)) pa_nil))))))))))
        (pss_cons (ps_expr (pe_bm PySem.F.plainAttrs_list PySem.F.slot_list_append PySem.F.type_list_append mt_append (pv 8) (pa_cons (pe_lst (pa_cons (pe_tup (pa_cons pe_int (pa_cons pe_int pa_nil))) pa_nil)) pa_nil)))
        (pss_cons (ps_for PassesOwn.never rfl (pi_range3 rfl T.m_range (pa_cons pe_int (pa_cons (pe_callB cr_len (by rfl) T.m_len (by decide +kernel) (pa_cons (pv 4) pa_nil)) (pa_cons (pe_op op_add pe_int (pe_op op_fdivW (pe_callB cr_len (by rfl) T.m_len (by decide +kernel) (pa_cons (pv 4) pa_nil)) pe_int)) pa_nil)))) (pg_name (i := 9) sc_law.nd rfl (by first | exact Or.inl rfl | exact Or.inr rfl))
          (pss_cons (ps_set (i := 10) sc_law.nd rfl (by first | exact Or.inl rfl | exact Or.inr rfl) (pe_ix ix_tup (pe_tup (pa_cons pe_non (pa_cons (pe_tup (pa_cons pe_str (pa_cons pe_int pa_nil))) (pa_cons (pe_tup (pa_cons pe_str (pa_cons pe_bl pa_nil))) (pa_cons (pe_lst (pa_cons pe_str (pa_cons pe_int pa_nil))) (pa_cons (pe_tup (pa_cons pe_str (pa_cons pe_int pa_nil))) (pa_cons (pe_tup (pa_cons pe_non (pa_cons pe_int pa_nil))) (pa_cons (pe_tup (pa_cons pe_str (pa_cons (pe_op op_sub (pe_un un_neg pe_int) (pv 1)) pa_nil))) pa_nil)))))))) (pe_op op_mod (pv 9) pe_int) (fun _ _ => rfl)))
          (pss_one (ps_expr (pe_bm PySem.F.plainAttrs_list PySem.F.slot_list_append PySem.F.type_list_append mt_append (pv 8) (pa_cons (pe_op op_cat (pe_op op_cat (pe_slice sl_list (pv 4) po_none (po_some (pv 9))) (pe_lst (pa_cons (pv 10) pa_nil))) (pe_slice sl_list (pv 4) (po_some (pe_op op_add (pv 9) pe_int)) po_none)) pa_nil))))))
        (pss_cons (ps_for PassesOwn.never rfl (pi_range1 rfl T.m_range (pa_cons pe_int pa_nil)) (pg_name (i := 11) sc_law.nd rfl (by first | exact Or.inl rfl | exact Or.inr rfl))
          (pss_one (ps_if (pt_not (pt_val (pe_callB (cr_all rfl) (by rfl) T.m_all (by decide +kernel) (pa_cons (pe_lc (own := [("_law_thing", 12)]) (g := (gName 12)) rfl sc_law.nd (pi_list (pv 8)) (blkOk_by (own := [("_law_thing", 12)]) (N := ["_law_script", "_law_far", "_law_due", "_law_k", "_law_ring_here", "_law_kept", "_law_size_here", "_law_surplus_here", "_law_bad", "_law_at", "_law_strange", "_law_door", "_law_thing"]) (sc := defScope s_law) (by decide +kernel)) (fun _ _ _ _ _ => (pg_name (i := 12) sc_law.nd rfl (by first | exact Or.inl rfl | exact Or.inr rfl))) (fun _ _ _ _ _ => pts_nil) (fun _ _ _ _ _ => (pe_cmpR (show OpR _ _ (rEqD K) from op_eqD hr.units) (pe_c (c_law_told T) hr (by decide) (by rfl) (pa_cons (pe_glob (v := .ref (adr mg "_law_with_ring")) (by rfl) (dfn_g T.d__law_with_ring) rfl) (pa_cons (pv 11) (pa_cons (pv 12) pa_nil)))) (pe_ix (show IxR _ (rIxL K) from ix_list) (pv 2) pe_int (fun _ _ => rfl)) (nomark _)))) pa_nil)))) (pss_one (ps_ret pe_bl)) pss_nil)))
        (pss_cons (ps_set (i := 10) sc_law.nd rfl (by first | exact Or.inl rfl | exact Or.inr rfl) (pe_lst (pa_cons pe_non (pa_cons pe_str (pa_cons pe_bl (pa_cons pe_bl (pa_cons (pe_lst (pa_cons pe_int pa_nil)) (pa_cons (pe_tup (pa_cons pe_int pa_nil)) (pa_cons pe_dnewK (pa_cons (pe_un un_neg pe_int) (pa_cons (pe_op op_sub (pe_un un_neg pe_int) (pv 1)) pa_nil)))))))))))
        (pss_cons (ps_if (pt_not (pt_val (pe_c (c_law_all T) hr (by decide) (by rfl) (pa_cons (pe_glob (v := .ref (adr mg "_law_with_place")) (by rfl) (dfn_g T.d__law_with_place) rfl) (pa_cons (pv 4) (pa_cons (pe_lst (pa_cons pe_int (pa_cons pe_int (pa_cons pe_int pa_nil)))) (pa_cons (pe_op op_cat (pv 10) (pe_lst (pa_cons (pv 6) (pa_cons (pe_op op_add (pv 6) (pv 1)) pa_nil)))) (pa_cons (pe_ix ix_list (pv 2) pe_int (fun _ _ => rfl)) pa_nil)))))))) (pss_one (ps_ret pe_bl)) pss_nil)
        (pss_cons (ps_if (pt_not (pt_val (pe_c (c_law_all T) hr (by decide) (by rfl) (pa_cons (pe_glob (v := .ref (adr mg "_law_with_times")) (by rfl) (dfn_g T.d__law_with_times) rfl) (pa_cons (pv 4) (pa_cons (pe_lst (pa_cons pe_int (pa_cons pe_int (pa_cons pe_int pa_nil)))) (pa_cons (pe_op op_cat (pv 10) (pe_lst (pa_cons pe_int pa_nil))) (pa_cons (pe_ix ix_list (pv 2) pe_int (fun _ _ => rfl)) pa_nil)))))))) (pss_one (ps_ret pe_bl)) pss_nil)
        (pss_cons (ps_if (pt_not (pt_val (pe_c (c_law_all T) hr (by decide) (by rfl) (pa_cons (pe_glob (v := .ref (adr mg "_law_with_count")) (by rfl) (dfn_g T.d__law_with_count) rfl) (pa_cons (pv 4) (pa_cons (pe_lst (pa_cons pe_int pa_nil)) (pa_cons (pv 10) (pa_cons (pe_ix ix_list (pv 2) pe_int (fun _ _ => rfl)) pa_nil)))))))) (pss_one (ps_ret pe_bl)) pss_nil)
        (pss_cons (ps_if (pt_not (pt_val (pe_c (c_law_all T) hr (by decide) (by rfl) (pa_cons (pe_glob (v := .ref (adr mg "_law_with_count")) (by rfl) (dfn_g T.d__law_with_count) rfl) (pa_cons (pv 4) (pa_cons (pe_lst (pa_cons pe_int pa_nil)) (pa_cons (pe_op op_cat (pv 10) (pe_lst (pa_cons (pv 7) (pa_cons (pe_op op_add (pv 7) (pv 1)) pa_nil)))) (pa_cons (pe_ix ix_list (pv 2) pe_int (fun _ _ => rfl)) pa_nil)))))))) (pss_one (ps_ret pe_bl)) pss_nil)
        (pss_cons (ps_if (pt_not (pt_val (pe_c (c_law_all T) hr (by decide) (by rfl) (pa_cons (pe_glob (v := .ref (adr mg "_law_with_count")) (by rfl) (dfn_g T.d__law_with_count) rfl) (pa_cons (pv 4) (pa_cons (pe_lst (pa_cons pe_int pa_nil)) (pa_cons (pe_op op_cat (pv 10) (pe_lst (pa_cons (pe_op op_add (pv 6) pe_int) (pa_cons (pe_op op_add (pe_op op_add (pv 6) pe_int) (pv 1)) pa_nil)))) (pa_cons (pe_ix ix_list (pv 2) pe_int (fun _ _ => rfl)) pa_nil)))))))) (pss_one (ps_ret pe_bl)) pss_nil)
        (pss_cons (ps_if (pt_not (pt_val (pe_c (c_law_all T) hr (by decide) (by rfl) (pa_cons (pe_glob (v := .ref (adr mg "_law_with_count")) (by rfl) (dfn_g T.d__law_with_count) rfl) (pa_cons (pv 4) (pa_cons (pe_lst (pa_cons pe_int pa_nil)) (pa_cons (pe_slice sl_list (pv 10) po_none (po_some pe_int)) (pa_cons (pe_ix ix_list (pv 2) pe_int (fun _ _ => rfl)) pa_nil)))))))) (pss_one (ps_ret pe_bl)) pss_nil)
        (pss_one (ps_ret (pe_and (pe_cmpR (op_eqD hr.units) (pv 4) (pv 5) (nomark _)) (pe_and (pe_cmpR op_eq (pe_c (c_among T) hr (by decide) (by rfl) (pa_cons (pv 4) (pa_cons (pe_op op_sub (pv 6) pe_int) (pa_cons pe_int pa_nil)))) pe_int (nomark _)) (pe_one (pe_cmpR op_eq (pe_c (c_starts T) hr (by decide) (by rfl) (pa_cons (pe_lst (pa_cons (pe_tup (pa_cons pe_str (pa_cons pe_int pa_nil))) pa_nil)) (pa_cons pe_int pa_nil))) pe_int (nomark _)))))))))))))))))))))))), ?_⟩
  refine at_start (σ := [some (.ref a), none, none, none, none, none, none, none, none, none, none, none, none]) rfl ?_; simp only [kx, kx', kb, mx, mx', kb', kh, mh]
  walk_at "rd"
  refine ⟨a, ns, 0, rfl, hS, fun H1 e1 => ?_⟩
  walk_at "rd"
  refine r_I ⟨by decide, by decide, by decide⟩ ?_
  rw [p20]
  refine r_I (by decide) ?_
  have far0 : 0 ≤ cellM ns 0 % 100000000000000000000 := Int.emod_nonneg _ (by decide)
  generalize cellM ns 0 % 100000000000000000000 = far at far0
  walk_at "rd"
  refine r_mkL (by show 0 ≤ sizeLine; decide) fun du H2 n2 e2 h2 => ?_
  walk_at "rd"
  refine r_rng1b (n := 4) rfl (by decide) ?_
  refine forK_rng (fun n σ' H' => ∃ x3, σ' = [some (.ref a), some (.int far), some (.ref du), x3, none, none, none, none, none, none, none, none, none] ∧ Ex H H' ∧ DueAt n H' du) ⟨_, rfl, exT e2 e1, [], rfl, h2, fun i p hp => by simp at hp⟩ ?_ ?_
  · rintro n σ' H3 hn ⟨x3, rfl, e3, hdu⟩
    obtain ⟨ps, l, hps, items⟩ := id hdu
    rw [Int.zero_add]
    walk_at "rd"
    refine r_app1 hps ?_
    walk_at "rd"
    refine r_mkL (by show 5 ≤ sizeLine; decide) fun q H4 n4 e4 h4 => ?_
    walk_at "rd"
    refine r_app2 (e4 _ _ hps) (Evl.sz_lt (by rw [List.length_map]; omega)) ?_
    have nq : q ≠ du := fun z => by rw [z, hps] at n4; cases n4
    have Hdu : H du = none := exB e1 n2
    refine ⟨_, rfl, exM (exT e4 e3) Hdu, ?_⟩
    refine (hdu.ex e4).snoc (e4 _ _ hps) h4 nq fun t ht => ?_
    obtain ⟨t', ht', et⟩ := List.mem_map.mp ht
    cases et
    obtain ⟨i, hi⟩ := List.getElem?_of_mem ht'
    have z := items i t hi
    exact ne_of z hps (by
      intro z
      have z' : (kkM i).map V.bl = ps.map V.ref := by injection z
      unfold kkM at z'
      cases ps with
      | nil => simp at z'
      | cons p ps => simp at z')
  rintro σ' H3 ⟨x3, rfl, e3, hdu⟩
  clear h2 n2 e1 e2
  walk_at "rd"
  refine ⟨a, ns, rfl, exL e3 hS, hl, hb, fun p H4 e4 hR => ?_⟩
  have ok := ringM_ok hl
  have rl := ringM_len hl
  generalize ringM ns = r at *
  have few : r.length ≤ 10000 := by omega
  have len1 := ok.len
  have W0 := ok.size_pos
  have W1 := ok.size_lt
  obtain ⟨rv, hv, hvl⟩ := hR.lst
  walk_at "rd"
  refine r_listOf (.of hv) fun c H5 n5 e5 h5 => ?_
  have hC : RingAt K H5 c r := (hR.ex e5).copy (e5 _ _ hv) h5
  walk_at "rd"
  refine ⟨p, r, rfl, hR.ex e5, few, fun H6 e6 => ?_⟩
  walk_at "rd"
  refine ⟨p, r, rfl, (hR.ex e5).ex e6, few, fun tb H7 e7 hT => ?_⟩
  walk_at "rd"
  refine ⟨tb, r, 1, rfl, hT, ok, by decide, by decide, fun H8 e8 => ?_⟩
  walk_at "rd"
  have e58 : Ex H5 H8 := exT e8 (exT e7 e6)
  have hR8 : RingAt K H8 p r := hR.ex (exT e58 e5)
  have hv8 : H8 p = some (.lst rv) := exT e58 e5 _ _ hv
  have hC8 : RingAt K H8 c r := hC.ex e58
  have hdu8 : DueAt 4 H8 du := hdu.ex (exT e58 (exT e5 e4))
  clear hR hv hC hdu hT h5 n5 e58 e8 e7 e6 e5 e4 e3 hS
  walk_at "rd"
  refine r_mkU (by show 0 ≤ sizeLine; decide) fun pb1 Hb1 nb1 eb1 hb1 => ?_
  walk_at "rd"
  refine r_mkU (by show 2 ≤ sizeLine; decide) fun pb2 Hb2 nb2 eb2 hb2 => ?_
  walk_at "rd"
  refine r_mkU (by show 1 ≤ sizeLine; decide) fun pb3 Hb3 nb3 eb3 hb3 => ?_
  walk_at "rd"
  refine r_dnew2 fun pb4 Hb4 nb4 eb4 hb4 => ?_
  walk_at "rd"
  refine r_mkL (by show 0 ≤ sizeLine; decide) fun pb5 Hb5 nb5 eb5 hb5 => ?_
  walk_at "rd"
  refine r_mkL (by show 1 ≤ sizeLine; decide) fun pb6 Hb6 nb6 eb6 hb6 => ?_
  walk_at "rd"
  refine r_mkL (by show 1 ≤ sizeLine; decide) fun pb7 Hb7 nb7 eb7 hb7 => ?_
  walk_at "rd"
  refine r_mkU (by show 1 ≤ sizeLine; decide) fun pb8 Hb8 nb8 eb8 hb8 => ?_
  walk_at "rd"
  refine r_mkL (by show 1 ≤ sizeLine; decide) fun pb9 Hb9 nb9 eb9 hb9 => ?_
  walk_at "rd"
  refine r_mkU (by show 3 ≤ sizeLine; decide) fun pb10 Hb10 nb10 eb10 hb10 => ?_
  walk_at "rd"
  refine r_mkL (by show 1 ≤ sizeLine; decide) fun pb11 Hb11 nb11 eb11 hb11 => ?_
  walk_at "rd"
  refine r_mkL (by show 2 ≤ sizeLine; decide) fun pb12 Hb12 nb12 eb12 hb12 => ?_
  walk_at "rd"
  refine r_mkL (by show 1 ≤ sizeLine; decide) fun pb13 Hb13 nb13 eb13 hb13 => ?_
  walk_at "rd"
  refine r_mkU (by show 2 ≤ sizeLine; decide) fun pb14 Hb14 nb14 eb14 hb14 => ?_
  walk_at "rd"
  refine r_mkL (by show 1 ≤ sizeLine; decide) fun pb15 Hb15 nb15 eb15 hb15 => ?_
  walk_at "rd"
  refine r_mkL (by show 13 ≤ sizeLine; decide) fun pb16 Hb16 nb16 eb16 hb16 => ?_
  have fb16 : Ex Hb16 Hb16 := Evl.Ex.refl _
  have fb15 : Ex Hb15 Hb16 := exT fb16 eb16
  have fb14 : Ex Hb14 Hb16 := exT fb15 eb15
  have fb13 : Ex Hb13 Hb16 := exT fb14 eb14
  have fb12 : Ex Hb12 Hb16 := exT fb13 eb13
  have fb11 : Ex Hb11 Hb16 := exT fb12 eb12
  have fb10 : Ex Hb10 Hb16 := exT fb11 eb11
  have fb9 : Ex Hb9 Hb16 := exT fb10 eb10
  have fb8 : Ex Hb8 Hb16 := exT fb9 eb9
  have fb7 : Ex Hb7 Hb16 := exT fb8 eb8
  have fb6 : Ex Hb6 Hb16 := exT fb7 eb7
  have fb5 : Ex Hb5 Hb16 := exT fb6 eb6
  have fb4 : Ex Hb4 Hb16 := exT fb5 eb5
  have fb3 : Ex Hb3 Hb16 := exT fb4 eb4
  have fb2 : Ex Hb2 Hb16 := exT fb3 eb3
  have fb1 : Ex Hb1 Hb16 := exT fb2 eb2
  walk_at "rd"
  walk_at "rd"
  refine r_mkU (by show 2 ≤ sizeLine; decide) fun pc1 Hc1 nc1 ec1 hc1 => ?_
  walk_at "rd"
  refine r_mkL (by show 1 ≤ sizeLine; decide) fun pc2 Hc2 nc2 ec2 hc2 => ?_
  walk_at "rd"
  refine r_mkU (by show 2 ≤ sizeLine; decide) fun pc3 Hc3 nc3 ec3 hc3 => ?_
  walk_at "rd"
  refine r_mkL (by show 1 ≤ sizeLine; decide) fun pc4 Hc4 nc4 ec4 hc4 => ?_
  walk_at "rd"
  refine r_mkU (by show 2 ≤ sizeLine; decide) fun pc5 Hc5 nc5 ec5 hc5 => ?_
  walk_at "rd"
  refine r_mkL (by show 1 ≤ sizeLine; decide) fun pc6 Hc6 nc6 ec6 hc6 => ?_
  walk_at "rd"
  refine r_mkU (by show 2 ≤ sizeLine; decide) fun pc7 Hc7 nc7 ec7 hc7 => ?_
  walk_at "rd"
  refine r_mkL (by show 1 ≤ sizeLine; decide) fun pc8 Hc8 nc8 ec8 hc8 => ?_
  walk_at "rd"
  refine r_mkU (by show 2 ≤ sizeLine; decide) fun pc9 Hc9 nc9 ec9 hc9 => ?_
  walk_at "rd"
  refine r_mkL (by show 1 ≤ sizeLine; decide) fun pc10 Hc10 nc10 ec10 hc10 => ?_
  walk_at "rd"
  refine r_mkU (by show 2 ≤ sizeLine; decide) fun pc11 Hc11 nc11 ec11 hc11 => ?_
  walk_at "rd"
  refine r_mkL (by show 1 ≤ sizeLine; decide) fun pc12 Hc12 nc12 ec12 hc12 => ?_
  walk_at "rd"
  refine r_mkU (by show 2 ≤ sizeLine; decide) fun pc13 Hc13 nc13 ec13 hc13 => ?_
  walk_at "rd"
  refine r_mkL (by show 1 ≤ sizeLine; decide) fun pc14 Hc14 nc14 ec14 hc14 => ?_
  walk_at "rd"
  refine r_mkL (by show 7 ≤ sizeLine; decide) fun pc15 Hc15 nc15 ec15 hc15 => ?_
  have fc15 : Ex Hc15 Hc15 := Evl.Ex.refl _
  have fc14 : Ex Hc14 Hc15 := exT fc15 ec15
  have fc13 : Ex Hc13 Hc15 := exT fc14 ec14
  have fc12 : Ex Hc12 Hc15 := exT fc13 ec13
  have fc11 : Ex Hc11 Hc15 := exT fc12 ec12
  have fc10 : Ex Hc10 Hc15 := exT fc11 ec11
  have fc9 : Ex Hc9 Hc15 := exT fc10 ec10
  have fc8 : Ex Hc8 Hc15 := exT fc9 ec9
  have fc7 : Ex Hc7 Hc15 := exT fc8 ec8
  have fc6 : Ex Hc6 Hc15 := exT fc7 ec7
  have fc5 : Ex Hc5 Hc15 := exT fc6 ec6
  have fc4 : Ex Hc4 Hc15 := exT fc5 ec5
  have fc3 : Ex Hc3 Hc15 := exT fc4 ec4
  have fc2 : Ex Hc2 Hc15 := exT fc3 ec3
  have fc1 : Ex Hc1 Hc15 := exT fc2 ec2
  refine r_cat (fc1 _ _ (ec1 _ _ hb16)) hc15 (by show 13 + 7 ≤ sizeLine; decide) fun bq H9 n9 e9 h9 => ?_
  have fc0 : Ex Hb16 Hc15 := exT fc1 ec1
  have fb0 : Ex H8 Hc15 := exT fc0 (exT fb1 eb1)
  have items : ∀ x ∈ ([.non, .ref pb1, .ref pb3, .str "a", .ref pb4, .int 5, .ref pb5, .ref pb6, .ref pb7, .ref pb9, .ref pb11, .ref pb13, .ref pb15, .ref pc2, .ref pc4, .ref pc6, .ref pc8, .ref pc10, .ref pc12, .ref pc14] : List V), NoRing Hc15 x := by
    intro x hx
    simp only [List.mem_cons, List.not_mem_nil, or_false] at hx
    rcases hx with rfl | rfl | rfl | rfl | rfl | rfl | rfl | rfl | rfl | rfl | rfl | rfl | rfl | rfl | rfl | rfl | rfl | rfl | rfl | rfl
    · exact .no .non (by decide)
    · exact .no (.tup ((exT fc0 fb1) _ _ hb1)) (by decide)
    · exact .no (.tup ((exT fc0 fb3) _ _ hb3)) (by decide)
    · exact .no (.str _) (by decide)
    · exact .no (.dic ((exT fc0 fb4) _ _ hb4)) (by decide)
    · exact .no (.int _) (by decide)
    · exact .nil ((exT fc0 fb5) _ _ hb5)
    · exact .one ((exT fc0 fb6) _ _ hb6) (.no .non (by decide))
    · exact .one ((exT fc0 fb7) _ _ hb7) (.no (.str _) (by decide))
    · exact .one ((exT fc0 fb9) _ _ hb9) (.len ((exT fc0 fb8) _ _ hb8) (by decide))
    · exact .one ((exT fc0 fb11) _ _ hb11) (.len ((exT fc0 fb10) _ _ hb10) (by decide))
    · exact .one ((exT fc0 fb13) _ _ hb13) (.no (.lst ((exT fc0 fb12) _ _ hb12)) (by decide))
    · exact .one ((exT fc0 fb15) _ _ hb15) (.letter ((exT fc0 fb14) _ _ hb14) (by decide +kernel))
    · exact .one (fc2 _ _ hc2) (.letter (fc1 _ _ hc1) (by decide +kernel))
    · exact .one (fc4 _ _ hc4) (.letter (fc3 _ _ hc3) (by decide +kernel))
    · exact .one (fc6 _ _ hc6) (.letter (fc5 _ _ hc5) (by decide +kernel))
    · exact .one (fc8 _ _ hc8) (.low (k := true) (fc7 _ _ hc7) (by decide))
    · exact .one (fc10 _ _ hc10) (.low (k := false) (fc9 _ _ hc9) (by omega))
    · exact .one (fc12 _ _ hc12) (.snd (k := true) (fc11 _ _ hc11) (.bl _) (by decide))
    · exact .one (fc14 _ _ hc14) (.snd (k := true) (fc13 _ _ hc13) (.str _) (by decide))
  walk_at "rd"
  refine r_app1 h9 ?_
  walk_at "rd"
  refine r_mkU (by show 2 ≤ sizeLine; decide) fun q1 H10 n10 e10 h10 => ?_
  walk_at "rd"
  refine r_mkL (by show 1 ≤ sizeLine; decide) fun q2 H11 n11 e11 h11 => ?_
  have h9' := e11 _ _ (e10 _ _ h9)
  walk_at "rd"
  refine r_app2 h9' (by show 20 < sizeLine; decide) ?_
  have nbq : Hc15 bq = none := n9
  have e9b : Ex Hc15 H11 := exT e11 (exT e10 e9)
  have ne1 : q1 ≠ bq := fun z => by rw [z, h9] at n10; cases n10
  have ne2 : q2 ≠ bq := fun z => by rw [z, e10 _ _ h9] at n11; cases n11
  have items2 : ∀ x ∈ ([.non, .ref pb1, .ref pb3, .str "a", .ref pb4, .int 5, .ref pb5, .ref pb6, .ref pb7, .ref pb9, .ref pb11, .ref pb13, .ref pb15, .ref pc2, .ref pc4, .ref pc6, .ref pc8, .ref pc10, .ref pc12, .ref pc14] ++ [.ref q2] : List V), NoRing (hide bq H11) x := by
    intro x hx
    rcases List.mem_append.mp hx with hx | hx
    · exact (items x hx).ex (hide_up e9b nbq)
    · rw [List.mem_singleton.mp hx]
      exact .one (hide_at ne2 h11) (.fst (hide_at ne1 (e11 _ _ h10)) (.int 1) (by decide))
  -- what stands for good
  have hRg : RingAt K Hc15 p r := hR8.ex fb0
  have hvg := fb0 _ _ hv8
  have hCg := hC8.ex fb0
  have hdug := hdu8.ex fb0
  have base : ∃ vs : List V, (upd H11 bq (.lst (([.non, .ref pb1, .ref pb3, .str "a", .ref pb4, .int 5, .ref pb5, .ref pb6, .ref pb7, .ref pb9, .ref pb11, .ref pb13, .ref pb15] ++ [.ref pc2, .ref pc4, .ref pc6, .ref pc8, .ref pc10, .ref pc12, .ref pc14]) ++ [.ref q2]))) bq = some (.lst vs) ∧ vs.length ≤ 21 + 0 ∧ ∀ x ∈ vs, NoRing (hide bq (upd H11 bq (.lst (([.non, .ref pb1, .ref pb3, .str "a", .ref pb4, .int 5, .ref pb5, .ref pb6, .ref pb7, .ref pb9, .ref pb11, .ref pb13, .ref pb15] ++ [.ref pc2, .ref pc4, .ref pc6, .ref pc8, .ref pc10, .ref pc12, .ref pc14]) ++ [.ref q2])))) x :=
    ⟨_, upd_same, by show 21 ≤ 21 + 0; decide, by rw [hide_upd]; exact items2⟩
  have ebase : Ex Hc15 (upd H11 bq (.lst (([.non, .ref pb1, .ref pb3, .str "a", .ref pb4, .int 5, .ref pb5, .ref pb6, .ref pb7, .ref pb9, .ref pb11, .ref pb13, .ref pb15] ++ [.ref pc2, .ref pc4, .ref pc6, .ref pc8, .ref pc10, .ref pc12, .ref pc14]) ++ [.ref q2]))) := exM e9b nbq
  generalize upd H11 bq (.lst (([.non, .ref pb1, .ref pb3, .str "a", .ref pb4, .int 5, .ref pb5, .ref pb6, .ref pb7, .ref pb9, .ref pb11, .ref pb13, .ref pb15] ++ [.ref pc2, .ref pc4, .ref pc6, .ref pc8, .ref pc10, .ref pc12, .ref pc14]) ++ [.ref q2])) = Hs at base ebase ⊢
  clear items2 items nb1 eb1 hb1 fb1 nb2 eb2 hb2 fb2 nb3 eb3 hb3 fb3 nb4 eb4 hb4 fb4 nb5 eb5 hb5 fb5 nb6 eb6 hb6 fb6 nb7 eb7 hb7 fb7 nb8 eb8 hb8 fb8 nb9 eb9 hb9 fb9 nb10 eb10 hb10 fb10 nb11 eb11 hb11 fb11 nb12 eb12 hb12 fb12 nb13 eb13 hb13 fb13 nb14 eb14 hb14 fb14 nb15 eb15 hb15 fb15 nb16 eb16 hb16 fb16 nc1 ec1 hc1 fc1 nc2 ec2 hc2 fc2 nc3 ec3 hc3 fc3 nc4 ec4 hc4 fc4 nc5 ec5 hc5 fc5 nc6 ec6 hc6 fc6 nc7 ec7 hc7 fc7 nc8 ec8 hc8 fc8 nc9 ec9 hc9 fc9 nc10 ec10 hc10 fc10 nc11 ec11 hc11 fc11 nc12 ec12 hc12 fc12 nc13 ec13 hc13 fc13 nc14 ec14 hc14 fc14 nc15 ec15 hc15 fc15 h9 n9 e9 h10 n10 e10 h11 n11 e11 h9' ne1 ne2 e9b fc0 fb0 hR8 hv8 hC8 hdu8
  walk_at "rd"
  refine r_rng3 ?_
  walk_at "rd"
  refine r_len (n := r.length) (.of (ebase _ _ hvg)) hvl ?_
  walk_at "rd"
  refine r_len (n := r.length) (.of (ebase _ _ hvg)) hvl ?_
  walk_at "rd"
  refine r_I (divw_60 (by decide) (by decide)) ?_
  walk_at "rd"
  refine r_rng3c (rg63 ⟨r.length, by omega⟩ len1) ?_
  dsimp only
  refine forK_step (fun n σ' H' => ∃ x9 x10, σ' = [some (.ref a), some (.int far), some (.ref du), x3, some (.ref p), some (.ref c), some (.int (size r)), some (.int (max 0 (hgt 1 r))), some (.ref bq), x9, x10, none, none] ∧ Ex Hc15 H' ∧ ∃ vs : List V, H' bq = some (.lst vs) ∧ vs.length ≤ 21 + n ∧ ∀ x ∈ vs, NoRing (hide bq H') x) ⟨_, _, rfl, ebase, base⟩ ?_ ?_
  · rintro t σ' H1 ht ⟨x9, x10, rfl, e1, vs, hvs, lvs, nos⟩
    have stp := step63 len1 ht
    have cnt : t < 63 := by
      have z : t * 1 ≤ t * (1 + r.length / 6) := Nat.mul_le_mul_left t (by omega)
      omega
    have ej : (0 : Int) + (t : Int) * (1 + (r.length : Int) / 6) = ((t * (1 + r.length / 6) : Nat) : Int) := by
      rw [Int.zero_add, Int.natCast_mul, Int.natCast_add, Int.natCast_ediv]
      rfl
    rw [ej]
    generalize t * (1 + r.length / 6) = j at stp
    have nes : ∀ {q : Addr} {H0 : Hp}, Ex H1 H0 → H0 q = none → q ≠ bq := fun {q H0} e n z => by rw [z, e _ _ hvs] at n; cases n
    walk_at "rd"
    refine r_mkU (by show 2 ≤ sizeLine; decide) fun pd1 Hd1 nd1 ed1 hd1 => ?_
    walk_at "rd"
    refine r_mkU (by show 2 ≤ sizeLine; decide) fun pd2 Hd2 nd2 ed2 hd2 => ?_
    walk_at "rd"
    refine r_mkL (by show 2 ≤ sizeLine; decide) fun pd3 Hd3 nd3 ed3 hd3 => ?_
    walk_at "rd"
    refine r_mkU (by show 2 ≤ sizeLine; decide) fun pd4 Hd4 nd4 ed4 hd4 => ?_
    walk_at "rd"
    refine r_mkU (by show 2 ≤ sizeLine; decide) fun pd5 Hd5 nd5 ed5 hd5 => ?_
    walk_at "rd"
    refine r_mkU (by show 2 ≤ sizeLine; decide) fun pd6 Hd6 nd6 ed6 hd6 => ?_
    walk_at "rd"
    refine r_mkU (by show 7 ≤ sizeLine; decide) fun pd7 Hd7 nd7 ed7 hd7 => ?_
    have fd7 : Ex Hd7 Hd7 := Evl.Ex.refl _
    have fd6 : Ex Hd6 Hd7 := exT fd7 ed7
    have fd5 : Ex Hd5 Hd7 := exT fd6 ed6
    have fd4 : Ex Hd4 Hd7 := exT fd5 ed5
    have fd3 : Ex Hd3 Hd7 := exT fd4 ed4
    have fd2 : Ex Hd2 Hd7 := exT fd3 ed3
    have fd1 : Ex Hd1 Hd7 := exT fd2 ed2
    walk_at "rd"
    refine r_I (by decide) ?_
    have e17 : Ex H1 Hd7 := (exT ed7 (exT ed6 (exT ed5 (exT ed4 (exT ed3 (exT ed2 ed1))))))
    have strange : ∃ v, atI ([.non, .ref pd1, .ref pd2, .ref pd3, .ref pd4, .ref pd5, .ref pd6] : List V) ((j : Int) % 7) = some v ∧ Stt (hide bq Hd7) v false := by
      have h7 : (j : Int) % 7 = 0 ∨ (j : Int) % 7 = 1 ∨ (j : Int) % 7 = 2 ∨ (j : Int) % 7 = 3 ∨ (j : Int) % 7 = 4 ∨ (j : Int) % 7 = 5 ∨ (j : Int) % 7 = 6 := by omega
      rcases h7 with h | h | h | h | h | h | h <;> rw [h]
      · exact ⟨_, rfl, .no .non (by decide)⟩
      · exact ⟨_, rfl, .low (k := true) (hide_at (nes (Evl.Ex.refl _) nd1) (fd1 _ _ hd1)) (by decide)⟩
      · exact ⟨_, rfl, .snd (k := false) (hide_at (nes ed1 nd2) (fd2 _ _ hd2)) (.bl _) (by decide)⟩
      · exact ⟨_, rfl, .no (.lst (hide_at (nes (exT ed2 ed1) nd3) (fd3 _ _ hd3))) (by decide)⟩
      · exact ⟨_, rfl, .letter (hide_at (nes (exT ed3 (exT ed2 ed1)) nd4) (fd4 _ _ hd4)) (by decide +kernel)⟩
      · exact ⟨_, rfl, .fst (hide_at (nes (exT ed4 (exT ed3 (exT ed2 ed1))) nd5) (fd5 _ _ hd5)) .non (by decide)⟩
      · exact ⟨_, rfl, .low (k := false) (hide_at (nes (exT ed5 (exT ed4 (exT ed3 (exT ed2 ed1)))) nd6) (fd6 _ _ hd6)) (by omega)⟩
    obtain ⟨x, hx, sx⟩ := strange
    refine r_ixT (.of hd7) hx ?_
    walk_at "rd"
    have b7 := e17 _ _ hvs
    have v7 := (exT e17 e1) _ _ hvg
    refine r_app1 b7 ?_
    walk_at "rd"
    refine r_slL (.of v7) fun l1 I1 m1 w1 g1 => ?_
    rw [cut_to] at g1
    walk_at "rd"
    refine r_mkL (by show 1 ≤ sizeLine; decide) fun l2 I2 m2 w2 g2 => ?_
    refine r_cat (w2 _ _ g1) g2 (Evl.sz_of (by rw [List.length_take, List.length_singleton]; omega)) fun l3 I3 m3 w3 g3 => ?_
    walk_at "rd"
    have w13 : Ex Hd7 I3 := exT w3 (exT w2 w1)
    refine r_slL (.of (w13 _ _ v7)) fun l4 I4 m4 w4 g4 => ?_
    rw [show ((j : Int) + 1) = ((j + 1 : Nat) : Int) from rfl, cut_from] at g4
    refine r_cat (w4 _ _ g3) g4 (Evl.sz_of (by rw [List.length_append, List.length_take, List.length_drop, List.length_singleton]; omega)) fun l5 I5 m5 w5 g5 => ?_
    walk_at "rd"
    have w15 : Ex Hd7 I5 := exT w5 (exT w4 w13)
    have w05 : Ex H1 I5 := exT w15 e17
    refine r_app2 (w15 _ _ b7) (Evl.sz_lt (by omega)) ?_
    have e05 : Ex Hc15 (hide bq I5) := hide_up (exT w05 e1) nbq
    have nl5 : l5 ≠ bq := nes (exT w4 (exT w13 e17)) m5
    have new : NoRing (hide bq I5) (.ref l5) := .strange (hRg.ex e05) ok (e05 _ _ hvg) (sx.ex (hide_mono w15)) (hide_at nl5 g5)
    refine ⟨_, _, rfl, exM (exT w05 e1) nbq, _, upd_same, by rw [List.length_append, List.length_singleton]; omega, ?_⟩
    rw [hide_upd]
    intro y hy
    rcases List.mem_append.mp hy with hy | hy
    · exact (nos y hy).ex (hide_mono w05)
    · rw [List.mem_singleton.mp hy]
      exact new
  · rintro σ' H1 ⟨x9, x10, rfl, e1, vs, hvs, lvs, nos'⟩
    have nos : ∀ x ∈ vs, NoRing H1 x := fun x hx => (nos' x hx).ex hide_ex
    have lvs' : vs.length ≤ 1000 := by
      have z := Nat.div_le_self (r.length - 1) (1 + r.length / 6)
      omega
    have hR := hRg.ex e1
    have hC := hCg.ex e1
    have hdu := hdug.ex e1
    clear base ebase hRg hvg hCg hdug nos' lvs nbq e1
    obtain ⟨u0, dv0, hd0, hi0, hu0⟩ := hdu.at (K := K) (i := 0) (by decide)
    obtain ⟨u1, dv1, hd1, hi1, hu1⟩ := hdu.at (K := K) (i := 1) (by decide)
    obtain ⟨u2, dv2, hd2, hi2, hu2⟩ := hdu.at (K := K) (i := 2) (by decide)
    obtain ⟨u3, dv3, hd3, hi3, hu3⟩ := hdu.at (K := K) (i := 3) (by decide)
    rw [kk0] at hu0
    rw [kk1] at hu1
    rw [kk2] at hu2
    rw [kk3] at hu3
    walk_at "rd"
    refine r_rng1b (n := 7) rfl (by decide) ?_
    refine forK_rng (fun n σ' H' => ∃ x11 x12, σ' = [some (.ref a), some (.int far), some (.ref du), x3, some (.ref p), some (.ref c), some (.int (size r)), some (.int (max 0 (hgt 1 r))), some (.ref bq), x9, x10, x11, x12] ∧ Ex H1 H') ⟨_, _, rfl, Evl.Ex.refl _⟩ ?_ ?_
    · rintro n σ' H2 hn ⟨x11, x12, rfl, e2⟩
      rw [Int.zero_add]
      walk_at "rd"
      refine lcK_list (vs.map fun _ => V.bl true) (by simp) (.of (e2 _ _ hvs)) (by omega) (fun _ => rfl) (fun i y b hy hb H3 e3 Q1 k1 => ?_) fun l H3 n3 e3 g3 => ?_
      · have eb : b = .bl true := by
          rw [List.getElem?_map, hy] at hb
          exact (Option.some.inj hb).symm
        subst eb
        walk_at "rd"
        have e13 : Ex H1 H3 := exT e3 e2
        refine ⟨"_law_with_ring", "BadRing", .int n, y, rfl, .ring (by omega) (by omega) ((nos y (List.mem_of_getElem? hy)).ex e13), fun q H4 e4 h4 => ?_⟩
        walk_at "rd"
        have e14 : Ex H1 H4 := exT e4 e13
        refine r_ixL (exL e14 hd0) hi0 ?_
        exact r_sameBs h4 (e14 _ _ hu0) (k1 _ e4)
      · walk_at "rd"
        refine r_all (bs := vs.map fun _ => true) (.of (by rw [List.map_map]; exact g3)) ?_
        rw [show (vs.map fun _ => true).all id = true by simp]
        walk_at "rd"
        exact ⟨_, _, rfl, exT e3 e2⟩
    rintro σ' H2 ⟨x11, x12, rfl, e2⟩
    walk_at "rd"
    refine r_mkL (by show 1 ≤ sizeLine; decide) fun pg1 Hg1 ng1 eg1 hg1 => ?_
    walk_at "rd"
    refine r_mkU (by show 1 ≤ sizeLine; decide) fun pg2 Hg2 ng2 eg2 hg2 => ?_
    walk_at "rd"
    refine r_dnew2 fun pg3 Hg3 ng3 eg3 hg3 => ?_
    walk_at "rd"
    refine r_mkL (by show 9 ≤ sizeLine; decide) fun pg4 Hg4 ng4 eg4 hg4 => ?_
    have fg4 : Ex Hg4 Hg4 := Evl.Ex.refl _
    have fg3 : Ex Hg3 Hg4 := exT fg4 eg4
    have fg2 : Ex Hg2 Hg4 := exT fg3 eg3
    have fg1 : Ex Hg1 Hg4 := exT fg2 eg2
    have e0 : Ex H1 Hg4 := exT fg1 (exT eg1 e2)
    replace hR := hR.ex e0
    replace hC := hC.ex e0
    replace hd1 := exL e0 hd1
    replace hd2 := exL e0 hd2
    replace hd3 := exL e0 hd3
    replace hu1 := e0 _ _ hu1
    replace hu2 := e0 _ _ hu2
    replace hu3 := e0 _ _ hu3
    have off : ∀ x ∈ ([.non, .str "0", .bl true, .bl false, .ref pg1, .ref pg2, .ref pg3] : List V), Off Hg4 x (fun _ => False) := by
      intro x hx
      simp only [List.mem_cons, List.not_mem_nil, or_false] at hx
      rcases hx with rfl | rfl | rfl | rfl | rfl | rfl | rfl
      · exact .inl ⟨_, .non, by decide⟩
      · exact .inl ⟨_, .str _, by decide⟩
      · exact .inl ⟨_, .bl _, by decide⟩
      · exact .inl ⟨_, .bl _, by decide⟩
      · exact .inl ⟨_, .lst (fg1 _ _ hg1), by decide⟩
      · exact .inl ⟨_, .tup (fg2 _ _ hg2), by decide⟩
      · exact .inl ⟨_, .dic (fg3 _ _ hg3), by decide⟩
    have offs : ∀ x ∈ ([.non, .str "0", .bl true, .bl false, .ref pg1, .ref pg2, .ref pg3, .int (-1), .int (-1 - far)] : List V), Off Hg4 x (fun i => i < 0) := by
      intro x hx
      rcases List.mem_append.mp (show x ∈ ([.non, .str "0", .bl true, .bl false, .ref pg1, .ref pg2, .ref pg3] ++ [.int (-1), .int (-1 - far)] : List V) from hx) with hx | hx
      · exact (off x hx).imp fun _ z => z.elim
      · simp only [List.mem_cons, List.not_mem_nil, or_false] at hx
        rcases hx with rfl | rfl
        · exact .inr ⟨_, rfl, by decide⟩
        · exact .inr ⟨_, rfl, by omega⟩
    have len9 : ([.non, .str "0", .bl true, .bl false, .ref pg1, .ref pg2, .ref pg3, .int (-1), .int (-1 - far)] : List V).length = 9 := rfl
    have len7 : ([.non, .str "0", .bl true, .bl false, .ref pg1, .ref pg2, .ref pg3] : List V).length = 7 := rfl
    have cut7 : cutV ([.non, .str "0", .bl true, .bl false, .ref pg1, .ref pg2, .ref pg3, .int (-1), .int (-1 - far)] : List V) none (some 7) = [.non, .str "0", .bl true, .bl false, .ref pg1, .ref pg2, .ref pg3] := cut_to _ 7
    clear hu0 hd0 hi0 hdu nos hvs lvs' e0 fg1 fg2 fg3 fg4 eg1 eg2 eg3 eg4 ng1 ng2 ng3 ng4 hg1 hg2 hg3 e2
    generalize hst : ([.non, .str "0", .bl true, .bl false, .ref pg1, .ref pg2, .ref pg3] : List V) = st7 at off cut7 len7
    generalize hst9 : ([.non, .str "0", .bl true, .bl false, .ref pg1, .ref pg2, .ref pg3, .int (-1), .int (-1 - far)] : List V) = st at offs len9 cut7 hg4 ⊢
    walk_at "rd"
    refine r_mkL (by show 3 ≤ sizeLine; decide) fun pK1a HK1a nK1a eK1a hK1a => ?_
    walk_at "rd"
    refine r_mkL (by show 2 ≤ sizeLine; decide) fun pK1b HK1b nK1b eK1b hK1b => ?_
    refine r_cat ((exT eK1b (exT eK1a (Evl.Ex.refl _))) _ _ hg4) hK1b (Evl.sz_of (by simp only [List.length_cons, List.length_nil]; omega)) fun pK1c HK1c nK1c eK1c hK1c => ?_
    have F1 : Ex HK1a HK1c := exT eK1c eK1b
    have D1 := exT F1 (exT eK1a (Evl.Ex.refl _))
    walk_at "rd"
    refine r_ixL (exL D1 hd1) hi1 ?_
    refine ⟨"_law_with_place", "BadPlace", .ref p, pK1a, pK1c, u1, [0, 1, 2], st ++ [.int (size r), .int (size r + far)], rfl, .of (F1 _ _ hK1a), hK1c, D1 _ _ hu1, by rw [List.length_append, len9]; exact (by decide : 9 + 2 ≤ 1000), fun d hd y hy t H' e' ht => ?_, fun H' e' => ?_⟩
    · have E' := exT e' D1
      have hd' : 0 ≤ d ∧ d < 3 := by
        simp only [List.mem_cons, List.not_mem_nil, or_false] at hd
        rcases hd with rfl | rfl | rfl <;> decide
      exact .place hd'.1 hd'.2 ht ⟨p, r, rfl, hR.ex E', ok, (by
        rcases List.mem_append.mp hy with hy | hy
        · exact ((offs y hy).ex E').imp fun i z => by omega
        · simp only [List.mem_cons, List.not_mem_nil, or_false] at hy
          rcases hy with rfl | rfl
          · exact .inr ⟨_, rfl, by omega⟩
          · exact .inr ⟨_, rfl, by omega⟩)⟩
    have EE1 := exT e' D1
    walk_at "rd"
    refine r_mkL (by show 3 ≤ sizeLine; decide) fun pK2a HK2a nK2a eK2a hK2a => ?_
    walk_at "rd"
    refine r_mkL (by show 1 ≤ sizeLine; decide) fun pK2b HK2b nK2b eK2b hK2b => ?_
    refine r_cat ((exT eK2b (exT eK2a EE1)) _ _ hg4) hK2b (Evl.sz_of (by simp only [List.length_cons, List.length_nil]; omega)) fun pK2c HK2c nK2c eK2c hK2c => ?_
    have F2 : Ex HK2a HK2c := exT eK2c eK2b
    have D2 := exT F2 (exT eK2a EE1)
    walk_at "rd"
    refine r_ixL (exL D2 hd2) hi2 ?_
    refine ⟨"_law_with_times", "BadTimes", .ref p, pK2a, pK2c, u2, [0, 1, 2], st ++ [.int (0)], rfl, .of (F2 _ _ hK2a), hK2c, D2 _ _ hu2, by rw [List.length_append, len9]; exact (by decide : 9 + 1 ≤ 1000), fun d hd y hy t H' e' ht => ?_, fun H' e' => ?_⟩
    · have E' := exT e' D2
      have hd' : 0 ≤ d ∧ d < 3 := by
        simp only [List.mem_cons, List.not_mem_nil, or_false] at hd
        rcases hd with rfl | rfl | rfl <;> decide
      exact .times hd'.1 hd'.2 ht ⟨p, r, rfl, hR.ex E', ok, (by
        rcases List.mem_append.mp hy with hy | hy
        · exact ((offs y hy).ex E').imp fun i z => by omega
        · simp only [List.mem_cons, List.not_mem_nil, or_false] at hy
          rcases hy with rfl
          · exact .inr ⟨_, rfl, by omega⟩)⟩
    have EE2 := exT e' D2
    walk_at "rd"
    refine r_mkL (by show 1 ≤ sizeLine; decide) fun pK3a HK3a nK3a eK3a hK3a => ?_
    walk_at "rd"
    have F3 : Ex HK3a HK3a := Evl.Ex.refl _
    have D3 := exT F3 (exT eK3a EE2)
    walk_at "rd"
    refine r_ixL (exL D3 hd3) hi3 ?_
    refine ⟨"_law_with_count", "BadCount", .ref p, pK3a, pg4, u3, [0], st, rfl, .of (F3 _ _ hK3a), (D3 _ _ hg4), D3 _ _ hu3, by rw [len9]; decide, fun d hd y hy t H' e' ht => ?_, fun H' e' => ?_⟩
    · have E' := exT e' D3
      cases List.mem_singleton.mp hd
      exact .count0 ht ⟨p, r, 0, rfl, hR.ex E', ok, rfl, by decide, by omega, (offs y hy).ex E'⟩
    have EE3 := exT e' D3
    walk_at "rd"
    refine r_mkL (by show 1 ≤ sizeLine; decide) fun pK4a HK4a nK4a eK4a hK4a => ?_
    walk_at "rd"
    refine r_mkL (by show 2 ≤ sizeLine; decide) fun pK4b HK4b nK4b eK4b hK4b => ?_
    refine r_cat ((exT eK4b (exT eK4a EE3)) _ _ hg4) hK4b (Evl.sz_of (by simp only [List.length_cons, List.length_nil]; omega)) fun pK4c HK4c nK4c eK4c hK4c => ?_
    have F4 : Ex HK4a HK4c := exT eK4c eK4b
    have D4 := exT F4 (exT eK4a EE3)
    walk_at "rd"
    refine r_ixL (exL D4 hd3) hi3 ?_
    refine ⟨"_law_with_count", "BadCount", .ref p, pK4a, pK4c, u3, [1], st ++ [.int (max 0 (hgt 1 r)), .int (max 0 (hgt 1 r) + far)], rfl, .of (F4 _ _ hK4a), hK4c, D4 _ _ hu3, by rw [List.length_append, len9]; exact (by decide : 9 + 2 ≤ 1000), fun d hd y hy t H' e' ht => ?_, fun H' e' => ?_⟩
    · have E' := exT e' D4
      cases List.mem_singleton.mp hd
      exact .count1 ht ⟨p, r, 1, rfl, hR.ex E', ok, rfl, ⟨by decide, by decide⟩, (by
        rcases List.mem_append.mp hy with hy | hy
        · exact ((offs y hy).ex E').imp fun i z => by omega
        · simp only [List.mem_cons, List.not_mem_nil, or_false] at hy
          rcases hy with rfl | rfl
          · exact .inr ⟨_, rfl, by omega⟩
          · exact .inr ⟨_, rfl, by omega⟩)⟩
    have EE4 := exT e' D4
    walk_at "rd"
    refine r_mkL (by show 1 ≤ sizeLine; decide) fun pK5a HK5a nK5a eK5a hK5a => ?_
    walk_at "rd"
    refine r_mkL (by show 2 ≤ sizeLine; decide) fun pK5b HK5b nK5b eK5b hK5b => ?_
    refine r_cat ((exT eK5b (exT eK5a EE4)) _ _ hg4) hK5b (Evl.sz_of (by simp only [List.length_cons, List.length_nil]; omega)) fun pK5c HK5c nK5c eK5c hK5c => ?_
    have F5 : Ex HK5a HK5c := exT eK5c eK5b
    have D5 := exT F5 (exT eK5a EE4)
    walk_at "rd"
    refine r_ixL (exL D5 hd3) hi3 ?_
    refine ⟨"_law_with_count", "BadCount", .ref p, pK5a, pK5c, u3, [2], st ++ [.int (size r + 1), .int (size r + 1 + far)], rfl, .of (F5 _ _ hK5a), hK5c, D5 _ _ hu3, by rw [List.length_append, len9]; exact (by decide : 9 + 2 ≤ 1000), fun d hd y hy t H' e' ht => ?_, fun H' e' => ?_⟩
    · have E' := exT e' D5
      cases List.mem_singleton.mp hd
      exact .count2 ht ⟨p, r, rfl, hR.ex E', ok, (by
        rcases List.mem_append.mp hy with hy | hy
        · exact ((offs y hy).ex E').imp fun i z => by omega
        · simp only [List.mem_cons, List.not_mem_nil, or_false] at hy
          rcases hy with rfl | rfl
          · exact .inr ⟨_, rfl, by omega⟩
          · exact .inr ⟨_, rfl, by omega⟩)⟩
    have EE5 := exT e' D5
    walk_at "rd"
    refine r_mkL (by show 1 ≤ sizeLine; decide) fun pK6a HK6a nK6a eK6a hK6a => ?_
    walk_at "rd"
    refine r_slL (.of ((exT eK6a EE5) _ _ hg4)) fun pK6c HK6c nK6c eK6c hK6c => ?_
    rw [cut7] at hK6c
    have F6 : Ex HK6a HK6c := eK6c
    have D6 := exT F6 (exT eK6a EE5)
    walk_at "rd"
    refine r_ixL (exL D6 hd3) hi3 ?_
    refine ⟨"_law_with_count", "BadCount", .ref p, pK6a, pK6c, u3, [3], st7, rfl, .of (F6 _ _ hK6a), hK6c, D6 _ _ hu3, by rw [len7]; decide, fun d hd y hy t H' e' ht => ?_, fun H' e' => ?_⟩
    · have E' := exT e' D6
      cases List.mem_singleton.mp hd
      exact .count3 ht ⟨p, r, 0, rfl, hR.ex E', ok, rfl, by decide, by omega, (off y hy).ex E'⟩
    have EE6 := exT e' D6
    walk_at "rd"
    refine r_eqD _ _ (hR.ex EE6).dp (hC.ex EE6).dp (rdD_shaped _) (rdD_shaped _) ?_
    rw [rdD_same]
    walk_at "rd"
    refine ⟨p, r, size r - 1, 0, rfl, hR.ex EE6, ok, by omega, by omega, by decide, by decide, fun Y1 ey1 => ?_⟩
    rw [among_zero]
    walk_at "rd"
    rw [show decide ((0 : Int) = 0) = true by decide]
    walk_at "rd"
    refine r_mkU (by show 2 ≤ sizeLine; decide) fun y2 Y2 ny2 ey2 hy2 => ?_
    walk_at "rd"
    refine r_mkL (by show 1 ≤ sizeLine; decide) fun y3 Y3 ny3 ey3 hy3 => ?_
    walk_at "rd"
    refine ⟨y3, [(false, 1)], 1, rfl, .one hy3 (ey3 _ _ hy2), ⟨by decide, by decide, by decide, by decide⟩, ⟨by decide, by decide⟩, fun Y4 ey4 => ?_⟩
    rw [show max 0 (hgt 1 [(false, 1)]) = 0 by decide]
    walk_at "rd"
    rw [show decide ((0 : Int) = 0) = true by decide]
    exact k _
end
end Rb
namespace Rb
open PySem PySem.Spec PyProof.Rows L2
/-- the law from what the top has left -/
theorem fin {l : PySem.W.OpenLaw} {w : World} {K : PySem.W.Frag} {h : Heap} {mg : Str → Option Value} {fa f : Addr} (X : K.In h) (G : h.Ns mainGlobals mg) (hfa : mg "law" = some (.ref fa)) (T : Txt K mg)
    {oc : Value} {od an : Option Addr} {osl : Array (Option Value)} {kV doc pm cdv ct : Value} (a : PySem.W.nsIn K mainGlobals "law" = some (some (.ref f)))
    (lk : K.lookup f = some ⟨oc, od, .func (PySem.W.fnOf "law" "law" (defArgs s_law) (defBody s_law) (defScope s_law) .none kV doc pm an cdv ct), osl⟩) (c : PySem.W.codeIn K cdv "law" = true) (k : PySem.W.keepIn K (.ref f) = true) :
    ∃ fd : FuncData, (∀ (s : Shared) (v : Value), BindsTo s fd ⟨[v], []⟩ [("_law_script", v)]) ∧ ∀ base : Heap, K.In base → base.Ns mainGlobals mg → FnOk l.prog w K mg base CX0 8 fa fd ["_law_script"] (sp_law K) := by
  have e := hfa.symm.trans (PySem.W.mg_of X G a)
  cases e
  exact ⟨_, fun s v => .of_eq rfl, fun base _ _ => ok_law (fun_mk lk c k) T⟩
theorem noAttr_mk {K : PySem.W.Frag} {h : Heap} {mg : Str → Option Value} {x f : Str} {C : Addr} (X : K.In h) (G : h.Ns mainGlobals mg) (a : PySem.W.nsIn K mainGlobals x = some (some (.ref C))) (p : PySem.W.findIn K (.ref C) f = some none) : NoAttr K (adr mg x) f := by
  rw [adr_of (PySem.W.mg_of X G a)]
  exact p
theorem kit_mk {K : PySem.W.Frag} {h : Heap} {mg : Str → Option Value} {x y : Str} {b : Bool} {C D : Addr} (X : K.In h) (G : h.Ns mainGlobals mg) (a : PySem.W.nsIn K mainGlobals x = some (some (.ref C))) (a' : PySem.W.nsIn K mainGlobals y = some (some (.ref D)))
    (p : PySem.W.kitOne K (.ref C) (.ref D) = some b) : PySem.W.kitOne K (.ref (adr mg x)) (.ref (adr mg y)) = some b := by
  rw [adr_of (PySem.W.mg_of X G a), adr_of (PySem.W.mg_of X G a')]
  exact p
theorem glo_mk {K : PySem.W.Frag} {h : Heap} {mg : Str → Option Value} {x : Str} {C : Addr} (X : K.In h) (G : h.Ns mainGlobals mg) (a : PySem.W.nsIn K mainGlobals x = some (some (.ref C))) : mg x = some (.ref (adr mg x)) := by
  rw [adr_of (PySem.W.mg_of X G a)]
  exact PySem.W.mg_of X G a
theorem excT_mk {K : PySem.W.Frag} {h : Heap} {mg : Str → Option Value} {x : Str} {C : Addr} (X : K.In h) (G : h.Ns mainGlobals mg) (a : PySem.W.nsIn K mainGlobals x = some (some (.ref C)))
    (e : PySem.W.excIn K C [.type "ValueError", .type "Exception", .type "BaseException", .type "object"] "ValueError.__new__" = true) (k : PySem.W.keepIn K (.ref C) = true) (t : PySem.W.typeIn K (.ref C) = some (.type "type"))
    (c1 : PySem.W.findIn K (.ref C) "__getattribute__" = some (some (.builtin "BaseException.__getattribute__"))) (c2 : PySem.W.findIn K (.ref C) "__getattr__" = some none) (c3 : PySem.W.subIn K (.ref C) (.type "BaseException") = some true) (c4 : PySem.W.hasDictIn K C = true)
    (c5 : PySem.W.findIn K (.ref C) "__class__" = some (some (.builtin "object.__class__"))) (c6 : PySem.W.specialIn K (.builtin "object.__class__") "__get__" = some (some (.builtin "getset_descriptor.__get__"))) (c7 : PySem.W.takesIn K (.builtin "object.__class__") = some true)
    (c8 : PySem.W.mroIn K C (.type "object") = some true) : ExcT K mg x := by
  have g := PySem.W.mg_of X G a
  have q := adr_of g
  exact ⟨by rw [q]; exact g, by rw [q]; exact e, by rw [q]; exact k, by rw [q]; exact t, by rw [q]; exact ⟨c1, c2, c3, c4, c5, c6, c7, c8⟩⟩
theorem exm_mk {K : PySem.W.Frag} {h : Heap} {mg : Str → Option Value} {x y : Str} {C D : Addr} (X : K.In h) (G : h.Ns mainGlobals mg) (a : PySem.W.nsIn K mainGlobals x = some (some (.ref C))) (a' : PySem.W.nsIn K mainGlobals y = some (some (.ref D)))
    (c1 : PySem.W.subIn K (.ref D) (.type "BaseException") = some true) (c2 : PySem.W.hasDictIn K D = true) (c3 : PySem.W.typeIn K (.ref D) = some (.type "type")) (c4 : PySem.W.subIn K (.ref C) (.ref D) = some true) : PySem.W.exmOne K (.ref (adr mg x)) (.ref (adr mg y)) = some true := by
  rw [adr_of (PySem.W.mg_of X G a), adr_of (PySem.W.mg_of X G a')]
  exact PySem.W.exm_ref c1 c2 c3 c4
theorem kitV_mk {K : PySem.W.Frag} {h : Heap} {mg : Str → Option Value} {x : Str} {C : Addr} {v : Value} {b : Bool} (X : K.In h) (G : h.Ns mainGlobals mg) (a : PySem.W.nsIn K mainGlobals x = some (some (.ref C))) (p : PySem.W.kitOne K (.ref C) v = some b) : PySem.W.kitOne K (.ref (adr mg x)) v = some b := by
  rw [adr_of (PySem.W.mg_of X G a)]
  exact p
end Rb
open PySem PySem.W PyProof.Rows
set_option maxRecDepth 100000 in
set_option maxHeartbeats 0 in
theorem PySem.Challenge.cw_ringbeads_k05_refused_holds : PySem.Challenge.rw_ringbeads_k05_refused.Holds := by
  w_on; o_law; k_head; (case hw => w_witness2)
  k_fill
  refine L2.walk_ofB (l := PySem.Challenge.rw_ringbeads_k05_refused) (n := 63) (k := 8) (x := "_law_script") (CX := fun _ => L2.CX0) (sp := fun w => Rb.sp_law _) rfl (by decide) rfl ⟨rfl, by decide, by decide⟩ (fun w h Y => PySem.W.kIn_of Y) ?F (fun _ _ a ns hl hb _ hS => ⟨a, ns, rfl, hS, hl, hb, fun _ => rfl⟩) (fun _ _ _ _ _ h => h)
  case F =>
    intro w mg fa h KX G hmg
    refine' Rb.fin KX G hmg ?T ?la ?ll ?lc ?lk
    case T =>
      refine' {
        d_is_whole := ?_, d_is_stretch := ?_, d_check_ring := ?_, d_whole_of := ?_, d_check_place := ?_, d_check_count := ?_, d_table_of := ?_, d_ahead_in := ?_, d_along_in := ?_, d_along := ?_, d_beads := ?_, d_kind_at := ?_, d_among := ?_, d_turning_places := ?_, d_ends_of := ?_, d_sought := ?_, d_check_times := ?_, d_more_of := ?_, d_parts_of := ?_, d_starts := ?_, d_start_at := ?_, d_is_start := ?_, d__law_cell_at := ?_, d__law_draw := ?_, d__law_number := ?_, d__law_ring := ?_, d__law_size := ?_, d__law_table := ?_, d__law_surplus := ?_, d__law_kinds := ?_, d__law_with_ring := ?_, d__law_with_place := ?_, d__law_with_times := ?_, d__law_with_count := ?_, d__law_told := ?_, d__law_all := ?_, g_RingError := ?_, e_BadRing := ?_, x_BadRing := ?_, v_BadRing := ?_, e_BadPlace := ?_, x_BadPlace := ?_, v_BadPlace := ?_, e_BadTimes := ?_, x_BadTimes := ?_, v_BadTimes := ?_, e_BadCount := ?_, x_BadCount := ?_, v_BadCount := ?_, k_BadRing_BadRing := ?_, k_BadRing_BadPlace := ?_, k_BadRing_BadTimes := ?_, k_BadRing_BadCount := ?_, k_BadPlace_BadRing := ?_, k_BadPlace_BadPlace := ?_, k_BadPlace_BadTimes := ?_, k_BadPlace_BadCount := ?_, k_BadTimes_BadRing := ?_, k_BadTimes_BadPlace := ?_, k_BadTimes_BadTimes := ?_, k_BadTimes_BadCount := ?_, k_BadCount_BadRing := ?_, k_BadCount_BadPlace := ?_, k_BadCount_BadTimes := ?_, k_BadCount_BadCount := ?_, m_len := ?_, m_sum := ?_, m_min := ?_, m_max := ?_, m_all := ?_, m_any := ?_, m_abs := ?_, m_isinstance := ?_, m_int := ?_, m_bool := ?_, m_str := ?_, m_tuple := ?_, m_list := ?_, m_range := ?_, m_enumerate := ?_, m_zip := ?_, m_sorted := ?_, m_ValueError := ?_ }
      · (refine' Rb.dfn_mk KX G ?a ?l ?c ?k (fun _ _ _ _ _ _ us hl => match us, hl with | [_], _ => rfl)); (case a => k_is); (case l => k_is); (case c => k_is); (case k => k_is)
      · (refine' Rb.dfn_mk KX G ?a ?l ?c ?k (fun _ _ _ _ _ _ us hl => match us, hl with | [_], _ => rfl)); (case a => k_is); (case l => k_is); (case c => k_is); (case k => k_is)
      · (refine' Rb.dfn_mk KX G ?a ?l ?c ?k (fun _ _ _ _ _ _ us hl => match us, hl with | [_], _ => rfl)); (case a => k_is); (case l => k_is); (case c => k_is); (case k => k_is)
      · (refine' Rb.dfn_mk KX G ?a ?l ?c ?k (fun _ _ _ _ _ _ us hl => match us, hl with | [_], _ => rfl)); (case a => k_is); (case l => k_is); (case c => k_is); (case k => k_is)
      · (refine' Rb.dfn_mk KX G ?a ?l ?c ?k (fun _ _ _ _ _ _ us hl => match us, hl with | [_, _], _ => rfl)); (case a => k_is); (case l => k_is); (case c => k_is); (case k => k_is)
      · (refine' Rb.dfn_mk KX G ?a ?l ?c ?k (fun _ _ _ _ _ _ us hl => match us, hl with | [_], _ => rfl)); (case a => k_is); (case l => k_is); (case c => k_is); (case k => k_is)
      · (refine' Rb.dfn_mk KX G ?a ?l ?c ?k (fun _ _ _ _ _ _ us hl => match us, hl with | [_], _ => rfl)); (case a => k_is); (case l => k_is); (case c => k_is); (case k => k_is)
      · (refine' Rb.dfn_mk KX G ?a ?l ?c ?k (fun _ _ _ _ _ _ us hl => match us, hl with | [_, _], _ => rfl)); (case a => k_is); (case l => k_is); (case c => k_is); (case k => k_is)
      · (refine' Rb.dfn_mk KX G ?a ?l ?c ?k (fun _ _ _ _ _ _ us hl => match us, hl with | [_, _, _], _ => rfl)); (case a => k_is); (case l => k_is); (case c => k_is); (case k => k_is)
      · (refine' Rb.dfn_mk KX G ?a ?l ?c ?k (fun _ _ _ _ _ _ us hl => match us, hl with | [_, _, _], _ => rfl)); (case a => k_is); (case l => k_is); (case c => k_is); (case k => k_is)
      · (refine' Rb.dfn_mk KX G ?a ?l ?c ?k (fun _ _ _ _ _ _ us hl => match us, hl with | [_], _ => rfl)); (case a => k_is); (case l => k_is); (case c => k_is); (case k => k_is)
      · (refine' Rb.dfn_mk KX G ?a ?l ?c ?k (fun _ _ _ _ _ _ us hl => match us, hl with | [_, _], _ => rfl)); (case a => k_is); (case l => k_is); (case c => k_is); (case k => k_is)
      · (refine' Rb.dfn_mk KX G ?a ?l ?c ?k (fun _ _ _ _ _ _ us hl => match us, hl with | [_, _, _], _ => rfl)); (case a => k_is); (case l => k_is); (case c => k_is); (case k => k_is)
      · (refine' Rb.dfn_mk KX G ?a ?l ?c ?k (fun _ _ _ _ _ _ us hl => match us, hl with | [_, _], _ => rfl)); (case a => k_is); (case l => k_is); (case c => k_is); (case k => k_is)
      · (refine' Rb.dfn_mk KX G ?a ?l ?c ?k (fun _ _ _ _ _ _ us hl => match us, hl with | [_, _], _ => rfl)); (case a => k_is); (case l => k_is); (case c => k_is); (case k => k_is)
      · (refine' Rb.dfn_mk KX G ?a ?l ?c ?k (fun _ _ _ _ _ _ us hl => match us, hl with | [_, _, _], _ => rfl)); (case a => k_is); (case l => k_is); (case c => k_is); (case k => k_is)
      · (refine' Rb.dfn_mk KX G ?a ?l ?c ?k (fun _ _ _ _ _ _ us hl => match us, hl with | [_], _ => rfl)); (case a => k_is); (case l => k_is); (case c => k_is); (case k => k_is)
      · (refine' Rb.dfn_mk KX G ?a ?l ?c ?k (fun _ _ _ _ _ _ us hl => match us, hl with | [_, _], _ => rfl)); (case a => k_is); (case l => k_is); (case c => k_is); (case k => k_is)
      · (refine' Rb.dfn_mk KX G ?a ?l ?c ?k (fun _ _ _ _ _ _ us hl => match us, hl with | [_, _], _ => rfl)); (case a => k_is); (case l => k_is); (case c => k_is); (case k => k_is)
      · (refine' Rb.dfn_mk KX G ?a ?l ?c ?k (fun _ _ _ _ _ _ us hl => match us, hl with | [_, _], _ => rfl)); (case a => k_is); (case l => k_is); (case c => k_is); (case k => k_is)
      · (refine' Rb.dfn_mk KX G ?a ?l ?c ?k (fun _ _ _ _ _ _ us hl => match us, hl with | [_, _, _], _ => rfl)); (case a => k_is); (case l => k_is); (case c => k_is); (case k => k_is)
      · (refine' Rb.dfn_mk KX G ?a ?l ?c ?k (fun _ _ _ _ _ _ us hl => match us, hl with | [_, _, _], _ => rfl)); (case a => k_is); (case l => k_is); (case c => k_is); (case k => k_is)
      · (refine' Rb.dfn_mk KX G ?a ?l ?c ?k (fun _ _ _ _ _ _ us hl => match us, hl with | [_, _], _ => rfl)); (case a => k_is); (case l => k_is); (case c => k_is); (case k => k_is)
      · (refine' Rb.dfn_mk KX G ?a ?l ?c ?k (fun _ _ _ _ _ _ us hl => match us, hl with | [_, _, _], _ => rfl)); (case a => k_is); (case l => k_is); (case c => k_is); (case k => k_is)
      · (refine' Rb.dfn_mk KX G ?a ?l ?c ?k (fun _ _ _ _ _ _ us hl => match us, hl with | [_, _, _], _ => rfl)); (case a => k_is); (case l => k_is); (case c => k_is); (case k => k_is)
      · (refine' Rb.dfn_mk KX G ?a ?l ?c ?k (fun _ _ _ _ _ _ us hl => match us, hl with | [_], _ => rfl)); (case a => k_is); (case l => k_is); (case c => k_is); (case k => k_is)
      · (refine' Rb.dfn_mk KX G ?a ?l ?c ?k (fun _ _ _ _ _ _ us hl => match us, hl with | [_], _ => rfl)); (case a => k_is); (case l => k_is); (case c => k_is); (case k => k_is)
      · (refine' Rb.dfn_mk KX G ?a ?l ?c ?k (fun _ _ _ _ _ _ us hl => match us, hl with | [_], _ => rfl)); (case a => k_is); (case l => k_is); (case c => k_is); (case k => k_is)
      · (refine' Rb.dfn_mk KX G ?a ?l ?c ?k (fun _ _ _ _ _ _ us hl => match us, hl with | [_, _], _ => rfl)); (case a => k_is); (case l => k_is); (case c => k_is); (case k => k_is)
      · (refine' Rb.dfn_mk KX G ?a ?l ?c ?k (fun _ _ _ _ _ _ us hl => match us, hl with | [_], _ => rfl)); (case a => k_is); (case l => k_is); (case c => k_is); (case k => k_is)
      · (refine' Rb.dfn_mk KX G ?a ?l ?c ?k (fun _ _ _ _ _ _ us hl => match us, hl with | [_, _], _ => rfl)); (case a => k_is); (case l => k_is); (case c => k_is); (case k => k_is)
      · (refine' Rb.dfn_mk KX G ?a ?l ?c ?k (fun _ _ _ _ _ _ us hl => match us, hl with | [_, _], _ => rfl)); (case a => k_is); (case l => k_is); (case c => k_is); (case k => k_is)
      · (refine' Rb.dfn_mk KX G ?a ?l ?c ?k (fun _ _ _ _ _ _ us hl => match us, hl with | [_, _], _ => rfl)); (case a => k_is); (case l => k_is); (case c => k_is); (case k => k_is)
      · (refine' Rb.dfn_mk KX G ?a ?l ?c ?k (fun _ _ _ _ _ _ us hl => match us, hl with | [_, _], _ => rfl)); (case a => k_is); (case l => k_is); (case c => k_is); (case k => k_is)
      · (refine' Rb.dfn_mk KX G ?a ?l ?c ?k (fun _ _ _ _ _ _ us hl => match us, hl with | [_, _, _], _ => rfl)); (case a => k_is); (case l => k_is); (case c => k_is); (case k => k_is)
      · (refine' Rb.dfn_mk KX G ?a ?l ?c ?k (fun _ _ _ _ _ _ us hl => match us, hl with | [_, _, _, _, _], _ => rfl)); (case a => k_is); (case l => k_is); (case c => k_is); (case k => k_is)
      · (refine' Rb.glo_mk KX G ?za); (case za => k_is)
      · (refine' Rb.excT_mk KX G ?za ?ze ?zk ?zt ?z1 ?z2 ?z3 ?z4 ?z5 ?z6 ?z7 ?z8); (case za => k_is); (case ze => k_exc); (case zk => k_is); (case zt => k_is); (case z1 => k_is); (case z2 => k_is); (case z3 => k_is); (case z4 => k_is); (case z5 => k_is); (case z6 => k_is); (case z7 => k_is); (case z8 => k_is)
      · (refine' Rb.exm_mk KX G ?za ?zb ?z1 ?z2 ?z3 ?z4); (case za => k_is); (case zb => k_is); (case z1 => k_is); (case z2 => k_is); (case z3 => k_is); (case z4 => k_is)
      · (refine' Rb.kitV_mk KX G ?za ?zp); (case za => k_is); (case zp => kit_is)
      · (refine' Rb.excT_mk KX G ?za ?ze ?zk ?zt ?z1 ?z2 ?z3 ?z4 ?z5 ?z6 ?z7 ?z8); (case za => k_is); (case ze => k_exc); (case zk => k_is); (case zt => k_is); (case z1 => k_is); (case z2 => k_is); (case z3 => k_is); (case z4 => k_is); (case z5 => k_is); (case z6 => k_is); (case z7 => k_is); (case z8 => k_is)
      · (refine' Rb.exm_mk KX G ?za ?zb ?z1 ?z2 ?z3 ?z4); (case za => k_is); (case zb => k_is); (case z1 => k_is); (case z2 => k_is); (case z3 => k_is); (case z4 => k_is)
      · (refine' Rb.kitV_mk KX G ?za ?zp); (case za => k_is); (case zp => kit_is)
      · (refine' Rb.excT_mk KX G ?za ?ze ?zk ?zt ?z1 ?z2 ?z3 ?z4 ?z5 ?z6 ?z7 ?z8); (case za => k_is); (case ze => k_exc); (case zk => k_is); (case zt => k_is); (case z1 => k_is); (case z2 => k_is); (case z3 => k_is); (case z4 => k_is); (case z5 => k_is); (case z6 => k_is); (case z7 => k_is); (case z8 => k_is)
      · (refine' Rb.exm_mk KX G ?za ?zb ?z1 ?z2 ?z3 ?z4); (case za => k_is); (case zb => k_is); (case z1 => k_is); (case z2 => k_is); (case z3 => k_is); (case z4 => k_is)
      · (refine' Rb.kitV_mk KX G ?za ?zp); (case za => k_is); (case zp => kit_is)
      · (refine' Rb.excT_mk KX G ?za ?ze ?zk ?zt ?z1 ?z2 ?z3 ?z4 ?z5 ?z6 ?z7 ?z8); (case za => k_is); (case ze => k_exc); (case zk => k_is); (case zt => k_is); (case z1 => k_is); (case z2 => k_is); (case z3 => k_is); (case z4 => k_is); (case z5 => k_is); (case z6 => k_is); (case z7 => k_is); (case z8 => k_is)
      · (refine' Rb.exm_mk KX G ?za ?zb ?z1 ?z2 ?z3 ?z4); (case za => k_is); (case zb => k_is); (case z1 => k_is); (case z2 => k_is); (case z3 => k_is); (case z4 => k_is)
      · (refine' Rb.kitV_mk KX G ?za ?zp); (case za => k_is); (case zp => kit_is)
      · (refine' Rb.kit_mk KX G ?za ?zb ?zp); (case za => k_is); (case zb => k_is); (case zp => kit_is)
      · (refine' Rb.kit_mk KX G ?za ?zb ?zp); (case za => k_is); (case zb => k_is); (case zp => kit_is)
      · (refine' Rb.kit_mk KX G ?za ?zb ?zp); (case za => k_is); (case zb => k_is); (case zp => kit_is)
      · (refine' Rb.kit_mk KX G ?za ?zb ?zp); (case za => k_is); (case zb => k_is); (case zp => kit_is)
      · (refine' Rb.kit_mk KX G ?za ?zb ?zp); (case za => k_is); (case zb => k_is); (case zp => kit_is)
      · (refine' Rb.kit_mk KX G ?za ?zb ?zp); (case za => k_is); (case zb => k_is); (case zp => kit_is)
      · (refine' Rb.kit_mk KX G ?za ?zb ?zp); (case za => k_is); (case zb => k_is); (case zp => kit_is)
      · (refine' Rb.kit_mk KX G ?za ?zb ?zp); (case za => k_is); (case zb => k_is); (case zp => kit_is)
      · (refine' Rb.kit_mk KX G ?za ?zb ?zp); (case za => k_is); (case zb => k_is); (case zp => kit_is)
      · (refine' Rb.kit_mk KX G ?za ?zb ?zp); (case za => k_is); (case zb => k_is); (case zp => kit_is)
      · (refine' Rb.kit_mk KX G ?za ?zb ?zp); (case za => k_is); (case zb => k_is); (case zp => kit_is)
      · (refine' Rb.kit_mk KX G ?za ?zb ?zp); (case za => k_is); (case zb => k_is); (case zp => kit_is)
      · (refine' Rb.kit_mk KX G ?za ?zb ?zp); (case za => k_is); (case zb => k_is); (case zp => kit_is)
      · (refine' Rb.kit_mk KX G ?za ?zb ?zp); (case za => k_is); (case zb => k_is); (case zp => kit_is)
      · (refine' Rb.kit_mk KX G ?za ?zb ?zp); (case za => k_is); (case zb => k_is); (case zp => kit_is)
      · (refine' Rb.kit_mk KX G ?za ?zb ?zp); (case za => k_is); (case zb => k_is); (case zp => kit_is)
      · (refine' PySem.W.mg_none_of KX G ?z); (case z => k_is)
      · (refine' PySem.W.mg_none_of KX G ?z); (case z => k_is)
      · (refine' PySem.W.mg_none_of KX G ?z); (case z => k_is)
      · (refine' PySem.W.mg_none_of KX G ?z); (case z => k_is)
      · (refine' PySem.W.mg_none_of KX G ?z); (case z => k_is)
      · (refine' PySem.W.mg_none_of KX G ?z); (case z => k_is)
      · (refine' PySem.W.mg_none_of KX G ?z); (case z => k_is)
      · (refine' PySem.W.mg_none_of KX G ?z); (case z => k_is)
      · (refine' PySem.W.mg_none_of KX G ?z); (case z => k_is)
      · (refine' PySem.W.mg_none_of KX G ?z); (case z => k_is)
      · (refine' PySem.W.mg_none_of KX G ?z); (case z => k_is)
      · (refine' PySem.W.mg_none_of KX G ?z); (case z => k_is)
      · (refine' PySem.W.mg_none_of KX G ?z); (case z => k_is)
      · (refine' PySem.W.mg_none_of KX G ?z); (case z => k_is)
      · (refine' PySem.W.mg_none_of KX G ?z); (case z => k_is)
      · (refine' PySem.W.mg_none_of KX G ?z); (case z => k_is)
      · (refine' PySem.W.mg_none_of KX G ?z); (case z => k_is)
      · (refine' PySem.W.mg_none_of KX G ?z); (case z => k_is)
    (case la => k_is); (case ll => k_is); (case lc => k_is); (case lk => k_is)
