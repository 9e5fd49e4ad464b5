import PyProof.Rows.All
import Wide.All
import OpenK.AllK
import Wide.FinOn
import HandS.ForMost
import HandS.Flow
import HandS.Deep
import HandS.Wide
import HandS.IsInst
import HandS.Evl
import KE.DataEq
import HandS.TupAny
import HandS.Style
import HandS.Defaults
import HandS.HeadHook1
import HandS.HeadHook2
import HandS.Head0
import HandS.Head1
import HandS.Head2
import HandS.HeadEnd
import PySem.Challenge.RW_strokeguess_k08_measures
set_option Elab.async false
set_option linter.all false
set_option maxRecDepth 100000
set_option maxHeartbeats 4000000
/-! B: short words over the hand layer: one lemma for each reading, and a walk that tries them. -/
namespace B
open PySem PySem.Spec PyProof.Rows L2
abbrev St := L2.St

/-! ### heaps that grow -/
theorem sm_new {H : Hp} {p : Addr} {o : HO} (h : H p = none) : Same H (upd H p o) := fun a u e => by
  rw [upd_ne (ne_of_none e h)]
  exact e
theorem sm_mut {H H' : Hp} {p : Addr} {o : HO} (e : Same H H') (h : H p = none) : Same H (upd H' p o) := fun a u ha => by
  rw [upd_ne (ne_of_none ha h)]
  exact e a u ha
theorem sm_t {K : PySem.W.Frag} {H H' : Hp} {a : Addr} {xs : List V} (e : Same H H') (h : SqT K H a xs) : SqT K H' a xs := by
  rcases h with (h | ⟨o, h⟩) | h
  · exact .inl (.inl (e _ _ h))
  · exact .inl (.inr ⟨o, e _ _ h⟩)
  · exact .inr h
mutual
theorem sm_dp {K : PySem.W.Frag} {H H' : Hp} (e : Same H H') : ∀ {d : PyData} {v : V}, Dp K H v d → Dp K H' v d
  | .none, _, h => by cases h; exact .non
  | .bool _, _, h => by cases h; exact .bl _
  | .int _, _, h => by cases h; exact .int _
  | .str _, _, h => by cases h; exact .str _
  | .list _, _, h => by
    cases h with
    | lst hs ha => exact .lst (e.seq hs) (sm_dps e ha)
  | .tuple _, _, h => by
    cases h with
    | tup hs ha => exact .tup (sm_t e hs) (sm_dps e ha)
  | .dict _, _, h => by cases h
theorem sm_dps {K : PySem.W.Frag} {H H' : Hp} (e : Same H H') : ∀ {ds : List PyData} {vs : List V}, DpAll K H vs ds → DpAll K H' vs ds
  | [], _, h => by cases h; exact .nil
  | _ :: _, _, h => by
    cases h with
    | cons h1 h2 => exact .cons (sm_dp e h1) (sm_dps e h2)
end

/-! ### a def that is called -/
structure Cal (P : Program) (w : World) (K : PySem.W.Frag) (mg : Str → Option Value) (base : Heap) (k : Nat) (x : Str) (ps : List Str) (sp : Sp) : Prop where
  ex : ∃ (f : Addr) (fd : FuncData), FnOk P w K mg base CX0 k f fd ps sp ∧ mg x = some (.ref f) ∧ PySem.W.keepIn K (.ref f) = true ∧ Binds K fd ps []
section
variable {X : Cx} {k m : Nat} {x : Str} {ps : List Str} {sp : Sp} {p pos : Pos} {e : Expr} {es : List Expr} {t : TA}
theorem pe_cal (C : Cal X.prog X.w X.K X.mg X.base k x ps sp) (hr : Room m X.A) (hk : k ≤ m) (ha : PA X (e :: es) t) (hg : Gl X x := by rfl) (hdb : (x == ("__debug__" : Str)) = false := by decide)
    (he : starEach (e :: es) X.env = (false, eval e X.env) :: starEach es X.env := by rfl) (hpl : (backTo pos (starEach es X.env)).any (·.1) = false := by rfl) :
    PE X (.Call (.Name x p) (e :: es) [] pos) (tCall sp [] E0 t) := by
  obtain ⟨f, fd, F, hm, kp, b⟩ := C.ex
  exact pe_call F (hr.mono hk) hg hm kp b .nil pass0 ha hdb he hpl
end
/-- powers of great bases -/
def CPowW (i j : Int) : Prop := 0 ≤ j ∧ (Builtin.Int.intBits i : Int) * j ≤ 2 ^ 27
theorem op_powW {X : Cx} : OpR X (binaryOp .Pow) (rI CPowW fun i j => .int (i ^ j.toNat)) := opI fun _ _ _ _ _ _ _ hc q => PyProof.Rows.pow_int hc.1 hc.2 q

/-! ### readings, one lemma each -/
section
variable {K : PySem.W.Frag} {σ : St} {H H1 : Hp} {Q : VK} {v x y : V} {ta tb tc te : TE} {t u : TT} {D : Ends} {ts us : TS} {i : Nat} {QB : Bool → Hp → Prop} {QA : List V → Hp → Prop}
theorem rd_var (h : σ[i]? = some (some v)) (q : Q v H) : tVar i σ H Q := ⟨v, h, q⟩
theorem rd_c (q : Q v H) : tC v σ H Q := q
theorem rd_op {r : R2} (q : ta σ H fun x H1 => tb σ H1 fun y H2 => r x y H2 Q) : tOp r ta tb σ H Q := q
theorem rd_un {r : V → Hp → VK → Prop} (q : ta σ H fun x H1 => r x H1 Q) : tUn r ta σ H Q := q
theorem rd_I0 {g : Int → Int → V} {a b : Int} (q : Q (g a b) H) : rI0 g (.int a) (.int b) H Q := ⟨a, b, rfl, rfl, q⟩
theorem rd_I {C : Int → Int → Prop} {g : Int → Int → V} {a b : Int} (hc : C a b) (q : Q (g a b) H) : rI C g (.int a) (.int b) H Q := ⟨a, b, rfl, rfl, hc, q⟩
theorem rd_U {g : Int → V} {a : Int} (q : Q (g a) H) : rU g (.int a) H Q := ⟨a, rfl, q⟩
theorem rd_eqI {a b : Int} (q : Q (.bl (decide (a = b))) H) : rEq (.int a) (.int b) H Q := ⟨rfl, by
  have e : decide (V.int a = V.int b) = decide (a = b) := by rw [Bool.eq_iff_iff]; simp
  rw [e]; exact q⟩
theorem rd_neI {a b : Int} (q : Q (.bl (decide (a ≠ b))) H) : rNe (.int a) (.int b) H Q := ⟨rfl, by
  have e : (!decide (V.int a = V.int b)) = decide (a ≠ b) := by rw [Bool.eq_iff_iff]; simp
  rw [e]; exact q⟩
theorem rd_eqS {a b : Str} (q : Q (.bl (decide (a = b))) H) : rEq (.str a) (.str b) H Q := ⟨rfl, by
  have e : decide (V.str a = V.str b) = decide (a = b) := by rw [Bool.eq_iff_iff]; simp
  rw [e]; exact q⟩
theorem rd_neS {a b : Str} (q : Q (.bl (decide (a ≠ b))) H) : rNe (.str a) (.str b) H Q := ⟨rfl, by
  have e : (!decide (V.str a = V.str b)) = decide (a ≠ b) := by rw [Bool.eq_iff_iff]; simp
  rw [e]; exact q⟩
theorem rd_ixT {a : Addr} {xs : List V} {j : Int} (h : SqT K H a xs) (g : atI xs j = some v) (q : Q v H) : rIxT K (.ref a) (.int j) H Q := ⟨a, xs, j, v, rfl, rfl, h, g, q⟩
theorem rd_ixL {a : Addr} {xs : List V} {j : Int} (h : SqL K H a xs) (g : atI xs j = some v) (q : Q v H) : rIxL K (.ref a) (.int j) H Q := ⟨a, xs, j, v, rfl, rfl, h, g, q⟩
theorem rd_test (q : te σ H fun x H' => ∃ k, x = .bl k ∧ QB k H') : tTest te σ H QB := q
theorem rd_B (q : te σ H fun x H' => ∃ k, x = .bl k ∧ QB k H') : tB te σ H QB := q
theorem rd_bl {b : Bool} (q : QB b H) : ∃ k, V.bl b = .bl k ∧ QB k H := ⟨b, rfl, q⟩
theorem rd_and (q : t σ H fun c H1 => if c = true then u σ H1 QB else QB false H1) : tAnd t u σ H QB := q
theorem rd_or (q : t σ H fun c H1 => if c = true then QB true H1 else u σ H1 QB) : tOr t u σ H QB := q
theorem rd_not (q : t σ H fun c H1 => QB (!c) H1) : tNot t σ H QB := q
theorem rd_andV (q : ta σ H fun x H1 => ∃ c, x = .bl c ∧ if c = true then tb σ H1 Q else Q (.bl false) H1) : tAndV ta tb σ H Q := q
theorem rd_orV (q : ta σ H fun x H1 => ∃ c, x = .bl c ∧ if c = true then Q (.bl true) H1 else tb σ H1 Q) : tOrV ta tb σ H Q := q
theorem rd_notV (q : ta σ H fun x H1 => ∃ c, x = .bl c ∧ Q (.bl (!c)) H1) : tNotV ta σ H Q := q
theorem rd_blV {b : Bool} {R : Bool → Prop} (q : R b) : ∃ c, V.bl b = .bl c ∧ R c := ⟨b, rfl, q⟩
theorem rd_if (q : t σ H fun c H1 => if c = true then ta σ H1 Q else tb σ H1 Q) : tIf t ta tb σ H Q := q
theorem rd_nil (q : QA [] H) : tNil σ H QA := q
theorem rd_cons {tr : TA} (q : ta σ H fun x H1 => tr σ H1 fun xs H2 => QA (x :: xs) H2) : tCons ta tr σ H QA := q
theorem rd_call {sp : Sp} {tr : TA} (q : tr σ H fun vs H1 => sp (vs ++ []) H1 Q E0) : tCall sp [] E0 tr σ H Q := q
theorem rd_CB {r : List V → Hp → VK → Prop} {tr : TA} (q : tr σ H fun vs H1 => r vs H1 Q) : tCB r tr σ H Q := q
def NewT (xs : List V) (Q : VK) (H : Hp) : Prop := xs.length ≤ sizeLine ∧ ∀ p, H p = none → Q (.ref p) (upd H p (.tup xs))
def NewL (xs : List V) (Q : VK) (H : Hp) : Prop := xs.length ≤ sizeLine ∧ ∀ p, H p = none → Q (.ref p) (upd H p (.lst xs))
theorem rd_tup {tr : TA} (q : tr σ H fun xs H1 => NewT xs Q H1) : tTup tr σ H Q := q
theorem rd_lst {tr : TA} (q : tr σ H fun xs H1 => NewL xs Q H1) : tLst tr σ H Q := q
theorem rd_newT1 {xs : List V} (hl : xs.length ≤ sizeLine) (q : ∀ p H1, H p = none → Same H H1 → H1 p = some (.tup xs) → Q (.ref p) H1) : NewT xs Q H := ⟨hl, fun p hp => q p _ hp (sm_new hp) upd_same⟩
theorem rd_newL {xs : List V} (hl : xs.length ≤ sizeLine) (q : ∀ p H1, H p = none → Same H H1 → H1 p = some (.lst xs) → Q (.ref p) H1) : NewL xs Q H := ⟨hl, fun p hp => q p _ hp (sm_new hp) upd_same⟩
-- statements
theorem rd_seq (q : ts { D with nx := us D } σ H) : tSeq ts us D σ H := q
theorem rd_asg (q : te σ H fun x H1 => D.nx (σ.set i (some x)) H1) : tAsg te (gName i) D σ H := q
theorem rd_seqAsg (q : te σ H fun x H1 => us D (σ.set i (some x)) H1) : tSeq (tAsg te (gName i)) us D σ H := q
theorem rd_asgG {g : TG} (q : te σ H fun x H1 => g x σ H1 D.nx) : tAsg te g D σ H := q
theorem rd_ifS (q : t σ H fun b H1 => if b = true then ts D σ H1 else us D σ H1) : tIfS t ts us D σ H := q
theorem rd_next (q : D.nx σ H) : tNext D σ H := q
theorem rd_nx {a b c d} (q : a σ H) : (Ends.mk a b c d).nx σ H := q
theorem rd_rt {a : St → Hp → Prop} {b : VK} {c d} (q : b v H) : (Ends.mk a b c d).rt v H := q
theorem rd_ret (q : te σ H fun x H1 => D.rt x H1) : tRet te D σ H := q
theorem rd_drop (q : te σ H fun _ H1 => D.nx σ H1) : tDrop te D σ H := q
theorem rd_abs {a : Int} (q : Q (.int (if a < 0 then -a else a)) H) : (fun (xs : List V) (H : Hp) (Q : VK) => ∃ i, xs = [.int i] ∧ Q (.int (if i < 0 then -i else i)) H) [.int a] H Q := ⟨a, rfl, q⟩
end
end B
namespace B
open PySem PySem.Spec PyProof.Rows L2
/-! ### globals -/
section
variable {X : Cx} {x : Str} {pos : Pos}
theorem pe_globI {n : Int} (h : ∃ t, X.mg x = some (.int n t)) (hg : Gl X x) (hd : (x == ("__debug__" : Str)) = false := by decide) : PE X (.Name x pos) (tC (.int n)) := by
  obtain ⟨t, h⟩ := h
  exact pe_glob hg h ⟨t, rfl⟩ hd
theorem pe_globS {n : Str} (h : ∃ t, X.mg x = some (.str n t)) (hg : Gl X x) (hd : (x == ("__debug__" : Str)) = false := by decide) : PE X (.Name x pos) (tC (.str n)) := by
  obtain ⟨t, h⟩ := h
  exact pe_glob hg h ⟨t, rfl⟩ hd
theorem pe_globR {a : Addr} (h : X.mg x = some (.ref a)) (hg : Gl X x) (hd : (x == ("__debug__" : Str)) = false := by decide) : PE X (.Name x pos) (tC (.ref a)) := pe_glob hg h rfl hd
end
/-! ### a def of the top -/
structure FunAt (K : PySem.W.Frag) (mg : Str → Option Value) (x : Str) (st : Stmt) : Prop where
  ex : ∃ (f : Addr) (fd : FuncData), FunD K x x (defArgs st) (defBody st) (defScope st) [] [] f fd ∧ mg x = some (.ref f)
def BodyOk (P : Program) (w : World) (K : PySem.W.Frag) (mg : Str → Option Value) (base : Heap) (k : Nat) (x : Str) (st : Stmt) (N : List Str) (sp : Sp) : Prop :=
  ∀ (f : Addr) (cdv : Value) (A : Around) (outer : List Env) (s : Shared) (H : Hp) (vs : List V) (Q : VK) (E : XK), Room k (A.deeper (envOfC x (defScope st) s.heap.objs.size f cdv)) → sp vs H Q E →
      ∃ t, PSs (cxOf CX0 P w K mg base N x (defScope st) f cdv A outer s H E).nox (defBody st) t ∧ t { nx := fun _ H' => Q .non H', rt := Q } (start N vs) H
section
variable {P : Program} {w : World} {K : PySem.W.Frag} {mg : Str → Option Value} {base : Heap} {k : Nat} {x : Str} {st : Stmt} {N ps : List Str} {sp : Sp}
theorem fnOk_of {f : Addr} {fd : FuncData} (F : FunD K x x (defArgs st) (defBody st) (defScope st) [] [] f fd) (S : FnScope N ps (defScope st)) (len : ∀ vs H Q E, sp vs H Q E → vs.length = ps.length)
    (hbody : BodyOk P w K mg base k x st N sp) : FnOk P w K mg base CX0 (k + 1) f fd ps sp :=
  F.ok S len fun cdv A outer s H vs Q E hr h => by
    obtain ⟨t, h1, h2⟩ := hbody f cdv A outer s H vs Q E hr h
    exact ⟨t, h1.nox, h2⟩
theorem cal_of (F : FunAt K mg x st) (S : FnScope N ps (defScope st))
    (hb : ∀ (kV doc pm : Value) (an : Option Addr) (cdv ct : Value) (us : List Value), us.length = ps.length → bindArgs (PySem.W.fnOf x x (defArgs st) (defBody st) (defScope st) .none kV doc pm an cdv ct) ⟨us, []⟩ = pure (ps.zip us))
    (len : ∀ vs H Q E, sp vs H Q E → vs.length = ps.length) (hbody : BodyOk P w K mg base k x st N sp) : Cal P w K mg base (k + 1) x ps sp := by
  obtain ⟨f, fd, F, hm⟩ := F.ex
  exact ⟨f, fd, fnOk_of F S len hbody, hm, F.kp, F.bindsN hb⟩
/-- from the head's facts -/
theorem funAt_of {h : Heap} {fa : List He.Fa} {fn : List He.DefD} (X : K.In h) (G : h.Ns mainGlobals mg) (c : He.SaysD fa fn K) (i j : Nat) (hd : fn[i]? = some ⟨(x, none), x, x, defArgs st, defBody st, defScope st, [], []⟩) (hf : fa[j]? = some (.glo x)) : FunAt K mg x st := by
  obtain ⟨fd, F⟩ := c.def_ i hd
  exact ⟨_, fd, F, He.glo_ok X G (c.fact j hf)⟩
end
end B
namespace B
open PySem PySem.Spec PyProof.Rows L2
theorem rd_ite {A B c : Prop} [Decidable c] (h1 : c → A) (h2 : ¬ c → B) : if decide c = true then A else B := by
  by_cases h : c
  · rw [decide_eq_true h]; exact iteT (h1 h)
  · rw [decide_eq_false h]; exact iteF (h2 h)
theorem rd_iteB {A B : Prop} {c : Bool} (h1 : c = true → A) (h2 : c = false → B) : if c = true then A else B := by
  cases c
  · exact iteF (h2 rfl)
  · exact iteT (h1 rfl)
theorem rd_iteN {A B c : Prop} [Decidable c] (h1 : ¬ c → A) (h2 : c → B) : if (!decide c) = true then A else B := by
  by_cases h : c
  · rw [decide_eq_true h]; exact iteF (h2 h)
  · rw [decide_eq_false h]; exact iteT (h1 h)
end B
namespace B
open PySem PySem.Spec PyProof.Rows L2
/-! ### the layer's rules under names of their own, so that a reading is found by its head -/
section
variable {X : Cx} {K : PySem.W.Frag} {σ : St} {H : Hp} {Q : VK} {QB : Bool → Hp → Prop} {ta te : TE}
abbrev RL := List V → Hp → VK → Prop
def rAbs : RL := fun xs H Q => ∃ i, xs = [.int i] ∧ Q (.int (if i < 0 then -i else i)) H
theorem cl_abs : CallR X (.builtin "abs") rAbs := call_abs
theorem rd_rabs {a : Int} (q : Q (.int (if a < 0 then -a else a)) H) : rAbs [.int a] H Q := ⟨a, rfl, q⟩
def rMax2 : RL := fun xs H Q => ∃ i j, xs = [.int i, .int j] ∧ Q (.int (if j > i then j else i)) H
theorem cl_max2 (hc : X.calm = true) : CallR X (.builtin "max") rMax2 := call_max2 hc
theorem rd_rmax {a b : Int} (q : Q (.int (if b > a then b else a)) H) : rMax2 [.int a, .int b] H Q := ⟨a, b, rfl, q⟩
def rMin2 : RL := fun xs H Q => ∃ i j, xs = [.int i, .int j] ∧ Q (.int (if j < i then j else i)) H
theorem cl_min2 (hc : X.calm = true) : CallR X (.builtin "min") rMin2 := call_min2 hc
theorem rd_rmin {a b : Int} (q : Q (.int (if b < a then b else a)) H) : rMin2 [.int a, .int b] H Q := ⟨a, b, rfl, q⟩
def rLenQ (K : PySem.W.Frag) : RL := fun xs H Q => ∃ p ys, xs = [.ref p] ∧ (SqL K H p ys ∨ SqT K H p ys) ∧ Q (.int ys.length) H
theorem cl_len : CallR X (.builtin "len") (rLenQ X.K) := call_len_seq
theorem rd_lenL {p : Addr} {ys : List V} (h : SqL K H p ys) (q : Q (.int ys.length) H) : rLenQ K [.ref p] H Q := ⟨p, ys, rfl, .inl h, q⟩
theorem rd_lenT {p : Addr} {ys : List V} (h : SqT K H p ys) (q : Q (.int ys.length) H) : rLenQ K [.ref p] H Q := ⟨p, ys, rfl, .inr h, q⟩
def rLenS : RL := fun xs H Q => ∃ z, xs = [.str z] ∧ z.length ≤ sizeLine ∧ Q (.int z.length) H
theorem cl_lenS : CallR X (.builtin "len") rLenS := call_len_str
theorem rd_lenS {z : Str} (h : z.length ≤ sizeLine) (q : Q (.int z.length) H) : rLenS [.str z] H Q := ⟨z, rfl, h, q⟩
def rListO (K : PySem.W.Frag) : RL := fun xs H Q => ∃ p ys, xs = [.ref p] ∧ (SqL K H p ys ∨ SqT K H p ys) ∧ ∀ l, H l = none → Q (.ref l) (upd H l (.lst ys))
theorem cl_list : CallR X (.type "list") (rListO X.K) := call_list_of
theorem rd_list {p : Addr} {ys : List V} (h : SqL K H p ys ∨ SqT K H p ys) (q : ∀ l H1, H l = none → Same H H1 → H1 l = some (.lst ys) → Q (.ref l) H1) : rListO K [.ref p] H Q := ⟨p, ys, rfl, h, fun l hl => q l _ hl (sm_new hl) upd_same⟩
def rTupO (K : PySem.W.Frag) : RL := fun xs H Q => ∃ p ys, xs = [.ref p] ∧ ((SqL K H p ys ∧ ∀ l, H l = none → Q (.ref l) (upd H l (.tup ys))) ∨ (SqT K H p ys ∧ Q (.ref p) H))
theorem cl_tup : CallR X (.type "tuple") (rTupO X.K) := call_tuple_of
theorem rd_tupO {p : Addr} {ys : List V} (h : SqL K H p ys) (q : ∀ l H1, H l = none → Same H H1 → H1 l = some (.tup ys) → Q (.ref l) H1) : rTupO K [.ref p] H Q := ⟨p, ys, rfl, .inl ⟨h, fun l hl => q l _ hl (sm_new hl) upd_same⟩⟩
def rInt1 : RL := fun xs H Q => (∃ i, xs = [.int i] ∧ Q (.int i) H) ∨ ∃ k, xs = [.bl k] ∧ Q (.int (if k then 1 else 0)) H
theorem cl_int : CallR X (.type "int") rInt1 := call_int1
theorem rd_intI {i : Int} (q : Q (.int i) H) : rInt1 [.int i] H Q := .inl ⟨i, rfl, q⟩
theorem rd_intB {k : Bool} (q : Q (.int (if k then 1 else 0)) H) : rInt1 [.bl k] H Q := .inr ⟨k, rfl, q⟩
def rIsNo : R2 := fun x y H Q => y = .non ∧ Q (.bl (decide (x = .non))) H
theorem oq_isN : OpR X (compareOp .Is) rIsNo := op_isN
theorem rd_isN {x : V} (q : Q (.bl (decide (x = .non))) H) : rIsNo x .non H Q := ⟨rfl, q⟩
def rNotNo : R2 := fun x y H Q => y = .non ∧ Q (.bl (!decide (x = .non))) H
theorem oq_notN : OpR X (compareOp .IsNot) rNotNo := op_notN
theorem rd_notN {x : V} (q : Q (.bl (!decide (x = .non))) H) : rNotNo x .non H Q := ⟨rfl, q⟩
def rAddS : R2 := fun x y H Q => ∃ i j, x = .str i ∧ y = .str j ∧ i.length + j.length ≤ sizeLine ∧ Q (.str (i ++ j)) H
theorem oq_addS : OpR X (binaryOp .Add) rAddS := op_add_str
theorem rd_addS {i j : Str} (h : i.length + j.length ≤ sizeLine) (q : Q (.str (i ++ j)) H) : rAddS (.str i) (.str j) H Q := ⟨i, j, rfl, rfl, h, q⟩
def tTruth (K : PySem.W.Frag) (ta : TE) : TT := fun σ H Q => ta σ H fun x H' => ∃ k, TruV K x H' k ∧ Q k H'
theorem pt_tru {a : Expr} (ha : PE X a ta) (he : ∀ whole, isTrue a X.env whole = (do let v ← whole; standAt a.pos; holding [v] (truthy v)) := by intro _; rfl) : PT X a (tTruth X.K ta) := pt_truth ha he
def TruQ (K : PySem.W.Frag) (x : V) (H : Hp) (R : Bool → Prop) : Prop := ∃ k, TruV K x H k ∧ R k
theorem rd_truth (q : ta σ H fun x H' => TruQ K x H' fun k => QB k H') : tTruth K ta σ H QB := q
theorem rd_orT {tb : TE} (q : ta σ H fun x H1 => TruQ K x H1 fun k => if k = true then Q x H1 else tb σ H1 Q) : tOrT K ta tb σ H Q := q
theorem rd_andT {tb : TE} (q : ta σ H fun x H1 => TruQ K x H1 fun k => if k = true then tb σ H1 Q else Q x H1) : tAndT K ta tb σ H Q := q
theorem rd_tru {x : V} {R : Bool → Prop} {k : Bool} (h : TruV K x H k) (q : R k) : TruQ K x H R := ⟨k, h, q⟩
theorem tru_int {i : Int} : TruV K (.int i) H (i != 0) := rfl
theorem tru_list {p : Addr} {xs : List V} (h : SqL K H p xs) : TruV K (.ref p) H (!xs.isEmpty) := .inl ⟨xs, h, rfl⟩
theorem tru_tup {p : Addr} {xs : List V} (h : SqT K H p xs) : TruV K (.ref p) H (!xs.isEmpty) := .inr (.inl ⟨xs, h, rfl⟩)
theorem tru_non : TruV K .non H false := rfl
end
end B
namespace B
open PySem PySem.Spec PyProof.Rows L2
/-! ### two heaps: G, what stands still (data), within H, the heap; what a stretch of code does to both -/
structure Grow (M : List Addr) (G H G' H' : Hp) : Prop where
  gg : Same G G'
  gh : Same G' H'
  out : ∀ b, G b = none → H b ≠ none → G' b = none
  fr : ∀ b o, H b = some o → b ∉ M → H' b = some o
  dom : ∀ b, H b ≠ none → H' b ≠ none
section
variable {M M' : List Addr} {G0 H0 G1 H1 G2 H2 G H G' H' : Hp} {K : PySem.W.Frag} {p l : Addr} {xs ys : List V} {Q : VK} {o o' : HO} {v y : V}
theorem Grow.refl (h : Same G H) : Grow M G H G H := ⟨Same.refl _, h, fun _ h _ => h, fun _ _ h _ => h, fun _ h => h⟩
theorem Grow.trans (a : Grow M G0 H0 G1 H1) (b : Grow M' G1 H1 G2 H2) (h : ∀ x ∈ M', x ∈ M ∨ H0 x = none) : Grow M G0 H0 G2 H2 where
  gg := a.gg.trans b.gg
  gh := b.gh
  out := fun x hg hh => b.out x (a.out x hg hh) (a.dom x hh)
  fr := fun x o e hm => b.fr x o (a.fr x o e hm) fun hm' => (h x hm').elim hm fun z => by rw [e] at z; cases z
  dom := fun x hh => b.dom x (a.dom x hh)
theorem Grow.trans0 (a : Grow M G0 H0 G1 H1) (b : Grow [] G1 H1 G2 H2) : Grow M G0 H0 G2 H2 := a.trans b fun _ h => nomatch h
theorem Grow.transM (a : Grow M G0 H0 G1 H1) (b : Grow M G1 H1 G2 H2) : Grow M G0 H0 G2 H2 := a.trans b fun _ h => .inl h
theorem Grow.mono (a : Grow M G H G' H') (h : ∀ x ∈ M, x ∈ M') : Grow M' G H G' H' := ⟨a.gg, a.gh, a.out, fun b o e hm => a.fr b o e fun z => hm (h b z), a.dom⟩
theorem ne_nn {b : Addr} (n : H p = none) (h : H b ≠ none) : b ≠ p := fun z => h (by rw [z]; exact n)
theorem none_of (h : Same G H) (e : H p = none) : G p = none := h.free e
/-- a new piece of data -/
theorem Grow.data (h : Same G H) (n : H p = none) : Grow [] G H (upd G p o) (upd H p o) where
  gg := sm_new (h.free n)
  gh := fun b u e => by
    by_cases hb : b = p
    · subst hb; rw [upd_same] at e ⊢; exact e
    · rw [upd_ne hb] at e ⊢; exact h b u e
  out := fun b hg hh => by rw [upd_ne (ne_nn n hh)]; exact hg
  fr := fun b u e _ => by rw [upd_ne (ne_of_none e n)]; exact e
  dom := fun b hh => by rw [upd_ne (ne_nn n hh)]; exact hh
/-- a new object of one's own -/
theorem Grow.cell (h : Same G H) (n : H p = none) : Grow [] G H G (upd H p o) where
  gg := Same.refl _
  gh := sm_mut h (h.free n)
  out := fun b hg _ => hg
  fr := fun b u e _ => by rw [upd_ne (ne_of_none e n)]; exact e
  dom := fun b hh => by rw [upd_ne (ne_nn n hh)]; exact hh
/-- an object of one's own changes -/
theorem Grow.mut (h : Same G H) (n : G p = none) (e : H p = some o') : Grow [p] G H G (upd H p o) where
  gg := Same.refl _
  gh := sm_mut h n
  out := fun b hg _ => hg
  fr := fun b u e hm => by rw [upd_ne (fun z => hm (by simp [z]))]; exact e
  dom := fun b hh => by
    by_cases hb : b = p
    · subst hb; rw [upd_same]; simp
    · rw [upd_ne hb]; exact hh
/-- an object of one's own becomes data -/
theorem Grow.freeze (h : Same G H) (n : G p = none) (e : H p = some o) : Same G (upd G p o) ∧ Same (upd G p o) H := ⟨sm_new n, fun b u eb => by
  by_cases hb : b = p
  · subst hb; rw [upd_same] at eb; cases eb; exact e
  · rw [upd_ne hb] at eb; exact h b u eb⟩
theorem Grow.frozen (a : Grow M G0 H0 G H) (n : G p = none) (n0 : H0 p = none) (e : H p = some o) : Grow M G0 H0 (upd G p o) H where
  gg := a.gg.trans (sm_new n)
  gh := (Grow.freeze a.gh n e).2
  out := fun b hg hh => by rw [upd_ne (ne_nn n0 hh)]; exact a.out b hg hh
  fr := a.fr
  dom := a.dom
theorem Grow.none0 (a : Grow M G0 H0 G H) (e : H p = none) : H0 p = none := by
  cases h : H0 p with
  | none => rfl
  | some o => exact absurd e (a.dom p (by rw [h]; simp))
-- readings
theorem rd_newT (g : Grow M G0 H0 G H) (q : ∀ p G' H', H p = none → Grow M G0 H0 G' H' → Same G G' → G' p = some (.tup xs) → Grow [] G H G' H' → Q (.ref p) H') (hl : xs.length ≤ 100000 := by exact Nat.le_of_ble_eq_true rfl) : NewT xs Q H :=
  ⟨Evl.sz_of hl, fun p n => q p _ _ n (g.trans0 (.data g.gh n)) (sm_new (g.gh.free n)) upd_same (.data g.gh n)⟩
theorem rd_newD (g : Grow M G0 H0 G H) (q : ∀ p G' H', H p = none → Grow M G0 H0 G' H' → Same G G' → G' p = some (.lst xs) → Grow [] G H G' H' → Q (.ref p) H') (hl : xs.length ≤ 100000 := by exact Nat.le_of_ble_eq_true rfl) :
    NewL xs Q H :=
  ⟨Evl.sz_of hl, fun p n => q p _ _ n (g.trans0 (.data g.gh n)) (sm_new (g.gh.free n)) upd_same (.data g.gh n)⟩
theorem rd_newC (g : Grow M G0 H0 G H) (q : ∀ p H', H p = none → Grow M G0 H0 G H' → H' p = some (.lst xs) → Grow [] G H G H' → Q (.ref p) H') (hl : xs.length ≤ 100000 := by exact Nat.le_of_ble_eq_true rfl) :
    NewL xs Q H :=
  ⟨Evl.sz_of hl, fun p n => q p _ n (g.trans0 (.cell g.gh n)) upd_same (.cell g.gh n)⟩
end
end B
namespace B
open PySem PySem.Spec PyProof.Rows L2
/-! ### data -/
section
variable {K : PySem.W.Frag} {G G' H : Hp} {v : V} {vs xs ys : List V} {d : PyData} {ds es : List PyData} {a : Addr}
theorem dp_int {i : Int} : Dp K H v (.int i) ↔ v = .int i := ⟨fun h => by cases h; rfl, fun h => by subst h; exact .int _⟩
theorem dp_bl {i : Bool} : Dp K H v (.bool i) ↔ v = .bl i := ⟨fun h => by cases h; rfl, fun h => by subst h; exact .bl _⟩
theorem dp_str {i : Str} : Dp K H v (.str i) ↔ v = .str i := ⟨fun h => by cases h; rfl, fun h => by subst h; exact .str _⟩
theorem dp_non : Dp K H v .none ↔ v = .non := ⟨fun h => by cases h; rfl, fun h => by subst h; exact .non⟩
theorem dp_tup : Dp K H v (.tuple ds) ↔ ∃ a xs, v = .ref a ∧ SqT K H a xs ∧ DpAll K H xs ds := ⟨fun h => by cases h with | tup h1 h2 => exact ⟨_, _, rfl, h1, h2⟩, fun ⟨a, xs, e, h1, h2⟩ => by subst e; exact .tup h1 h2⟩
theorem dp_lst : Dp K H v (.list ds) ↔ ∃ a xs, v = .ref a ∧ SqL K H a xs ∧ DpAll K H xs ds := ⟨fun h => by cases h with | lst h1 h2 => exact ⟨_, _, rfl, h1, h2⟩, fun ⟨a, xs, e, h1, h2⟩ => by subst e; exact .lst h1 h2⟩
theorem dpa_nil : DpAll K H xs [] ↔ xs = [] := ⟨fun h => by cases h; rfl, fun h => by subst h; exact .nil⟩
theorem dpa_cons : DpAll K H xs (d :: ds) ↔ ∃ v vs, xs = v :: vs ∧ Dp K H v d ∧ DpAll K H vs ds := ⟨fun h => by cases h with | cons h1 h2 => exact ⟨_, _, rfl, h1, h2⟩, fun ⟨a, xs, e, h1, h2⟩ => by subst e; exact .cons h1 h2⟩
theorem dpa_len : ∀ {ds : List PyData} {xs : List V}, DpAll K H xs ds → xs.length = ds.length
  | [], _, h => by cases h; rfl
  | _ :: _, _, h => by cases h with | cons _ h2 => simp [dpa_len h2]
theorem dpa_get : ∀ {ds : List PyData} {xs : List V} {i : Nat} {v : V}, DpAll K H xs ds → xs[i]? = some v → ∃ d, ds[i]? = some d ∧ Dp K H v d
  | [], _, i, v, h, e => by cases h; simp at e
  | d :: _, _, 0, v, h, e => by cases h with | cons h1 _ => simp at e; subst e; exact ⟨d, rfl, h1⟩
  | _ :: _, _, i + 1, v, h, e => by cases h with | cons _ h2 =>
    obtain ⟨d', e', h'⟩ := dpa_get (i := i) h2 (by simpa using e)
    exact ⟨d', by simpa using e', h'⟩
theorem dpa_at : ∀ {ds : List PyData} {xs : List V} {i : Nat} {d : PyData}, DpAll K H xs ds → ds[i]? = some d → ∃ v, xs[i]? = some v ∧ Dp K H v d
  | [], _, i, d, h, e => by simp at e
  | d :: _, _, 0, d', h, e => by cases h with | cons h1 _ => simp at e; subst e; exact ⟨_, rfl, h1⟩
  | _ :: _, _, i + 1, d, h, e => by cases h with | cons _ h2 =>
    obtain ⟨d', e', h'⟩ := dpa_at (i := i) h2 (by simpa using e)
    exact ⟨d', by simpa using e', h'⟩
theorem dpa_app : ∀ {ds es : List PyData} {xs ys : List V}, DpAll K H xs ds → DpAll K H ys es → DpAll K H (xs ++ ys) (ds ++ es)
  | [], _, _, _, h, k => by cases h; exact k
  | _ :: _, _, _, _, h, k => by cases h with | cons h1 h2 => exact .cons h1 (dpa_app h2 k)
theorem dpa_one (h : Dp K H v d) : DpAll K H [v] [d] := .cons h .nil
theorem dpa_take : ∀ {ds : List PyData} {xs : List V} (n : Nat), DpAll K H xs ds → DpAll K H (xs.take n) (ds.take n)
  | _, _, 0, _ => .nil
  | [], _, _ + 1, h => by cases h; exact .nil
  | _ :: _, _, n + 1, h => by cases h with | cons h1 h2 => exact .cons h1 (dpa_take n h2)
theorem dpa_drop : ∀ {ds : List PyData} {xs : List V} (n : Nat), DpAll K H xs ds → DpAll K H (xs.drop n) (ds.drop n)
  | _, _, 0, h => h
  | [], _, _ + 1, h => by cases h; exact .nil
  | _ :: _, _, n + 1, h => by cases h with | cons h1 h2 => exact dpa_drop n h2
theorem dpa_ints : ∀ {ns : List Int}, DpAll K H (ns.map V.int) (ns.map PyData.int)
  | [] => .nil
  | _ :: _ => .cons (.int _) dpa_ints
theorem dpa_map {α : Type} {f : α → PyData} {l : List α} {i : Nat} (h : DpAll K H xs (l.map f)) (e : xs[i]? = some v) : ∃ x, l[i]? = some x ∧ Dp K H v (f x) := by
  obtain ⟨d, h1, h2⟩ := dpa_get h e
  rw [List.getElem?_map] at h1
  cases hx : l[i]? with
  | none => rw [hx] at h1; cases h1
  | some x => rw [hx] at h1; cases h1; exact ⟨x, rfl, h2⟩
theorem at_last {α : Type} {xs : List α} {v : α} (h : xs.getLast? = some v) : atI xs (-1) = some v := by
  have hne : xs ≠ [] := fun z => by subst z; simp at h
  rw [List.getLast?_eq_getLast hne] at h
  cases h
  conv => lhs; rw [← List.dropLast_concat_getLast hne]
  exact atI_last _ _
end
end B
namespace B
open PySem PySem.Spec PyProof.Rows L2
/-! ### loops and comprehensions -/
section
variable {K : PySem.W.Frag} {σ : St} {H : Hp} {Q : VK} {D : Ends} {tb us : TS} {g : TG} {tl te : TE} {ta : TA} {tt : TT} {vs : List Nat} {v : V} {i : Nat}
theorem rd_g {QS : St → Hp → Prop} (q : QS (σ.set i (some v)) H) : gName i v σ H QS := q
theorem rd_gNil {QS : St → Hp → Prop} (q : QS σ H) : gNil [] σ H QS := ⟨rfl, q⟩
theorem rd_gCons {QS : St → Hp → Prop} {t : TG} {u : TGs} {r : List V} (q : t v σ H fun σ' H' => u r σ' H' QS) : gCons t u (v :: r) σ H QS := ⟨v, r, rfl, q⟩
theorem rd_gTup {QS : St → Hp → Prop} {t : TGs} {n : Nat} {a : Addr} {xs : List V} (h : SqT K H a xs) (hl : xs.length = n) (q : t xs σ H QS) : gTup K n t (.ref a) σ H QS := ⟨a, xs, rfl, h, hl, q⟩
theorem rd_seqPar {i j : Nat} (q : ta σ H fun vs H1 => ∃ v w, vs = [v, w] ∧ us D ((σ.set i (some v)).set j (some w)) H1) : tSeq (tPar i j ta) us D σ H := q
theorem rd_two {a b : V} {R : V → V → Prop} (q : R a b) : ∃ v w, [a, b] = [v, w] ∧ R v w := ⟨a, b, rfl, q⟩
-- for
def LoopJ (J : It) (g : TG) (tb : TS) (D : Ends) (σ : St) (H1 : Hp) : Prop := ∃ W : Nat → Nat → St → Hp → Prop, (∃ m, W 0 m σ H1) ∧ ∀ i m σ H, W i m σ H →
  (J.stop i H ∧ D.nx σ H) ∨ (J.go i H ∧ ∃ N : St → Hp → Prop, (∀ σ' H', N σ' H' → ∃ m', m' < m ∧ W (i + 1) m' σ' H') ∧ ∀ x H', J.yld i H x H' → g x σ H' fun σ2 H2 => tb { D with nx := N, ct := N, bk := D.nx } σ2 H2)
def LoopL (K : PySem.W.Frag) (x : V) (g : TG) (tb : TS) (D : Ends) (σ : St) (H1 : Hp) : Prop := ∃ a, x = .ref a ∧ (∃ xs, SqL K H1 a xs) ∧ LoopJ (Itl K a) g tb D σ H1
def LoopT (K : PySem.W.Frag) (x : V) (g : TG) (tb : TS) (D : Ends) (σ : St) (H1 : Hp) : Prop := ∃ a, x = .ref a ∧ (∃ xs, SqT K H1 a xs) ∧ LoopJ (Itt K a) g tb D σ H1
theorem rd_forL (q : tl σ H fun x H1 => LoopL K x g tb D σ H1) : tFor (iList K tl) g tb D σ H := q
theorem rd_forT (q : tl σ H fun x H1 => LoopT K x g tb D σ H1) : tFor (iTup K tl) g tb D σ H := q
def LoopR1 (xs : List V) (g : TG) (tb : TS) (D : Ends) (σ : St) (H1 : Hp) : Prop := ∃ j : Int, xs = [.int j] ∧ -(2 ^ 62) ≤ j ∧ j < 2 ^ 62 ∧ LoopJ (Itr 0 j.toNat) g tb D σ H1
def LoopR2 (xs : List V) (g : TG) (tb : TS) (D : Ends) (σ : St) (H1 : Hp) : Prop := ∃ i j : Int, xs = [.int i, .int j] ∧ (-(2 ^ 62) ≤ i ∧ i < 2 ^ 62 ∧ -(2 ^ 62) ≤ j ∧ j < 2 ^ 62) ∧ LoopJ (Itr i (j - i).toNat) g tb D σ H1
theorem rd_forR1 (q : ta σ H fun xs H1 => LoopR1 xs g tb D σ H1) : tFor (iRng1 ta) g tb D σ H := q
theorem rd_forR2 (q : ta σ H fun xs H1 => LoopR2 xs g tb D σ H1) : tFor (iRng2 ta) g tb D σ H := q
theorem loopL {a : Addr} {xs : List V} (hx : SqL K H a xs) (Pv : Nat → St → Hp → Prop) (h0 : Pv 0 σ H) (hl : ∀ i σ H, i ≤ xs.length → Pv i σ H → SqL K H a xs)
    (hs : ∀ i x σ H, xs[i]? = some x → Pv i σ H → g x σ H fun σ2 H2 => tb { D with nx := Pv (i + 1), ct := Pv (i + 1), bk := D.nx } σ2 H2) (hd : ∀ σ H, Pv xs.length σ H → D.nx σ H) : LoopL K (.ref a) g tb D σ H :=
  ⟨a, rfl, ⟨xs, hx⟩, for_list Pv h0 hl hs hd⟩
theorem loopT {a : Addr} {xs : List V} (hx : SqT K H a xs) (Pv : Nat → St → Hp → Prop) (h0 : Pv 0 σ H) (hl : ∀ i σ H, i ≤ xs.length → Pv i σ H → SqT K H a xs)
    (hs : ∀ i x σ H, xs[i]? = some x → Pv i σ H → g x σ H fun σ2 H2 => tb { D with nx := Pv (i + 1), ct := Pv (i + 1), bk := D.nx } σ2 H2) (hd : ∀ σ H, Pv xs.length σ H → D.nx σ H) : LoopT K (.ref a) g tb D σ H :=
  ⟨a, rfl, ⟨xs, hx⟩, for_tup Pv h0 hl hs hd⟩
theorem loopR1 {n : Int} (hn : -(2 ^ 62) ≤ n ∧ n < 2 ^ 62) (Pv : Nat → St → Hp → Prop) (h0 : Pv 0 σ H)
    (hs : ∀ (i : Nat) σ H, (i : Int) < n → Pv i σ H → g (.int i) σ H fun σ2 H2 => tb { D with nx := Pv (i + 1), ct := Pv (i + 1), bk := D.nx } σ2 H2) (hd : ∀ σ H, Pv n.toNat σ H → D.nx σ H) : LoopR1 [.int n] g tb D σ H :=
  ⟨n, rfl, hn.1, hn.2, for_range Pv h0 (fun i σ H hi p => by
    have e : (0 : Int) + (i : Int) = i := by omega
    rw [e]; exact hs i σ H (by omega) p) hd⟩
theorem loopR2 {m n : Int} (hn : -(2 ^ 62) ≤ m ∧ m < 2 ^ 62 ∧ -(2 ^ 62) ≤ n ∧ n < 2 ^ 62) (Pv : Nat → St → Hp → Prop) (h0 : Pv 0 σ H)
    (hs : ∀ (i : Nat) σ H, m + (i : Int) < n → Pv i σ H → g (.int (m + i)) σ H fun σ2 H2 => tb { D with nx := Pv (i + 1), ct := Pv (i + 1), bk := D.nx } σ2 H2) (hd : ∀ σ H, Pv (n - m).toNat σ H → D.nx σ H) : LoopR2 [.int m, .int n] g tb D σ H :=
  ⟨m, n, rfl, hn, for_range Pv h0 (fun i σ H hi p => hs i σ H (by omega) p) hd⟩
-- comprehensions
def LcJ (J : It) (g : TG) (tt : TT) (te : TE) (vs : List Nat) (σ : St) (H1 : Hp) (Q : VK) : Prop := ∀ D, H1 D = none → ∃ W : Nat → Nat → Hp → Prop, (∃ m, W 0 m (upd H1 D (.lst []))) ∧ ∀ i m H, W i m H →
  (J.stop i H ∧ Q (.ref D) H) ∨ (J.go i H ∧ ∃ Nx : Hp → Prop, (∀ H', Nx H' → ∃ m', m' < m ∧ W (i + 1) m' H') ∧ ∀ x H', J.yld i H x H' → g x (wipe σ vs) H' fun σ2 H2 => wipe σ2 vs = wipe σ vs ∧ tt σ2 H2 fun b H3 =>
    if b = true then te σ2 H3 fun y H4 => ∃ acc, H4 D = some (.lst acc) ∧ acc.length < sizeLine ∧ Nx (upd H4 D (.lst (acc ++ [y]))) else Nx H3)
def LcL (K : PySem.W.Frag) (x : V) (g : TG) (tt : TT) (te : TE) (vs : List Nat) (σ : St) (H1 : Hp) (Q : VK) : Prop := ∃ a, x = .ref a ∧ (∃ xs, SqL K H1 a xs) ∧ LcJ (Itl K a) g tt te vs σ H1 Q
def LcT (K : PySem.W.Frag) (x : V) (g : TG) (tt : TT) (te : TE) (vs : List Nat) (σ : St) (H1 : Hp) (Q : VK) : Prop := ∃ a, x = .ref a ∧ (∃ xs, SqT K H1 a xs) ∧ LcJ (Itt K a) g tt te vs σ H1 Q
def LcR1 (xs : List V) (g : TG) (tt : TT) (te : TE) (vs : List Nat) (σ : St) (H1 : Hp) (Q : VK) : Prop := ∃ j : Int, xs = [.int j] ∧ -(2 ^ 62) ≤ j ∧ j < 2 ^ 62 ∧ LcJ (Itr 0 j.toNat) g tt te vs σ H1 Q
theorem rd_lcL (q : tl σ H fun x H1 => LcL K x g tt te vs σ H1 Q) : tLc (iList K tl) g tt te vs σ H Q := q
theorem rd_lcT (q : tl σ H fun x H1 => LcT K x g tt te vs σ H1 Q) : tLc (iTup K tl) g tt te vs σ H Q := q
theorem rd_lcR1 (q : ta σ H fun xs H1 => LcR1 xs g tt te vs σ H1 Q) : tLc (iRng1 ta) g tt te vs σ H Q := q
theorem rd_yes {QB : Bool → Hp → Prop} (q : QB true H) : tYes σ H QB := q
/-- a comprehension, turn by turn: the list so far holds the data ds; I: what is said of cells, RR: of the data -/
theorem lcJ_ok {J : It} {n : Nat} {item : Nat → V → Prop} {M : List Addr} {G0 H0 G : Hp} (gr : Grow M G0 H0 G H) (hn : n < 1000000) (hM : ∀ b ∈ M, H b ≠ none)
    (I : Nat → Hp → Prop) (hgo : ∀ i Hi, i < n → Same G Hi → I i Hi → J.go i Hi) (hstop : ∀ Hi, Same G Hi → I n Hi → J.stop n Hi) (hy : ∀ i Hi x H', i < n → Same G Hi → I i Hi → J.yld i Hi x H' → H' = Hi ∧ item i x)
    (RR : Nat → List PyData → Prop) (i0 : I 0 H) (r0 : RR 0 []) (hI : ∀ i Hi H', I i Hi → (∀ b o, H b ≠ none → Hi b = some o → H' b = some o) → I i H')
    (hs : ∀ i x Gi Hi ds, i < n → item i x → Grow M G H Gi Hi → I i Hi → RR i ds → ∀ (NT : VK) (NF : Hp → Prop),
      (∀ y G4 H4 d, Grow M Gi Hi G4 H4 → Dp K G4 y d → I (i + 1) H4 → RR (i + 1) (ds ++ [d]) → NT y H4) → (∀ G3 H3, Grow M Gi Hi G3 H3 → I (i + 1) H3 → RR (i + 1) ds → NF H3) →
      g x (wipe σ vs) Hi fun σ2 H2 => wipe σ2 vs = wipe σ vs ∧ tt σ2 H2 fun b H3 => if b = true then te σ2 H3 NT else NF H3)
    (hd : ∀ D G' H' ys ds, H D = none → Grow M G0 H0 G' H' → Grow M G H G' H' → H' D = some (.lst ys) → G' D = none → DpAll K G' ys ds → I n H' → RR n ds → Q (.ref D) H') : LcJ J g tt te vs σ H Q := by
  intro D hD
  have hDM : D ∉ M := fun z => hM D z hD
  refine ⟨fun i m Hi => m = n - i ∧ i ≤ n ∧ ∃ Gi ys ds, Grow M G H Gi Hi ∧ Hi D = some (.lst ys) ∧ Gi D = none ∧ DpAll K Gi ys ds ∧ ys.length ≤ i ∧ I i Hi ∧ RR i ds,
    ⟨n, by simp, Nat.zero_le _, G, [], [], (Grow.cell gr.gh hD).mono (by simp), upd_same, gr.gh.free hD, .nil, Nat.le_refl _, hI 0 H _ i0 (fun b o hb e => by rw [upd_ne (ne_nn hD hb)]; exact e), r0⟩, ?_⟩
  rintro i m Hi ⟨rfl, hi, Gi, ys, ds, gi, eD, nD, da, hl, ii, rr⟩
  have sG : Same G Hi := gi.gg.trans gi.gh
  by_cases hlt : i < n
  · refine .inr ⟨hgo i Hi hlt sG ii, fun H' => ∃ Gi ys ds, Grow M G H Gi H' ∧ H' D = some (.lst ys) ∧ Gi D = none ∧ DpAll K Gi ys ds ∧ ys.length ≤ i + 1 ∧ I (i + 1) H' ∧ RR (i + 1) ds, fun H' h => ⟨n - (i + 1), by omega, rfl, hlt, h⟩, fun x H' y => ?_⟩
    obtain ⟨e, it⟩ := hy i Hi x H' hlt sG ii y
    subst e
    refine hs i x Gi H' ds hlt it gi ii rr _ _ (fun y G4 H4 d g4 dd i4 r4 => ?_) (fun G3 H3 g3 i3 r3 => ?_)
    · have e4 : H4 D = some (.lst ys) := g4.fr D _ eD hDM
      have n4 : G4 D = none := g4.out D nD (by rw [eD]; simp)
      refine ⟨ys, e4, by rw [sizeLine_eq]; omega, G4, ys ++ [y], ds ++ [d], ?_, upd_same, n4, dpa_app (sm_dps g4.gg da) (dpa_one dd), by simp; omega, ?_, r4⟩
      · have gg4 := gi.transM g4
        refine gg4.trans (Grow.mut gg4.gh n4 e4) fun z hz => .inr ?_
        have : z = D := by simpa using hz
        rw [this]; exact hD
      · exact hI _ _ _ i4 fun b o hb e => by rw [upd_ne (ne_nn hD hb)]; exact e
    · exact ⟨G3, ys, ds, gi.transM g3, g3.fr D _ eD hDM, g3.out D nD (by rw [eD]; simp), sm_dps g3.gg da, by omega, i3, r3⟩
  · have e : i = n := by omega
    subst e
    exact .inl ⟨hstop Hi sG ii, hd D Gi Hi ys ds hD (gr.transM gi) gi eD nD da ii rr⟩
theorem lcL_ok {M : List Addr} {G0 H0 G : Hp} {a : Addr} {xs : List V} (gr : Grow M G0 H0 G H) (hM : ∀ b ∈ M, H b ≠ none) (I : Nat → Hp → Prop) (RR : Nat → List PyData → Prop) (hx : ∀ i Hi, Same G Hi → I i Hi → SqL K Hi a xs) (hn : xs.length < 1000000)
    (i0 : I 0 H) (r0 : RR 0 []) (hI : ∀ i Hi H', I i Hi → (∀ b o, H b ≠ none → Hi b = some o → H' b = some o) → I i H')
    (hs : ∀ i x Gi Hi ds, xs[i]? = some x → Grow M G H Gi Hi → I i Hi → RR i ds → ∀ (NT : VK) (NF : Hp → Prop),
      (∀ y G4 H4 d, Grow M Gi Hi G4 H4 → Dp K G4 y d → I (i + 1) H4 → RR (i + 1) (ds ++ [d]) → NT y H4) → (∀ G3 H3, Grow M Gi Hi G3 H3 → I (i + 1) H3 → RR (i + 1) ds → NF H3) →
      g x (wipe σ vs) Hi fun σ2 H2 => wipe σ2 vs = wipe σ vs ∧ tt σ2 H2 fun b H3 => if b = true then te σ2 H3 NT else NF H3)
    (hd : ∀ D G' H' ys ds, H D = none → Grow M G0 H0 G' H' → Grow M G H G' H' → H' D = some (.lst ys) → G' D = none → DpAll K G' ys ds → I xs.length H' → RR xs.length ds → Q (.ref D) H') : LcL K (.ref a) g tt te vs σ H Q :=
  ⟨a, rfl, ⟨xs, hx 0 H gr.gh i0⟩, lcJ_ok (n := xs.length) (item := fun i x => xs[i]? = some x) gr hn hM I (fun i Hi hi s ii => ⟨xs, xs[i], hx i Hi s ii, by simp [hi]⟩) (fun Hi s ii => ⟨xs, hx _ Hi s ii, Nat.le_refl _⟩)
    (fun i Hi x H' hi s ii y => ⟨y.1, y.2 xs (hx i Hi s ii)⟩) RR i0 r0 hI (fun i x Gi Hi ds _ hx' => hs i x Gi Hi ds hx') hd⟩
theorem lcT_ok {M : List Addr} {G0 H0 G : Hp} {a : Addr} {xs : List V} (gr : Grow M G0 H0 G H) (hM : ∀ b ∈ M, H b ≠ none) (I : Nat → Hp → Prop) (RR : Nat → List PyData → Prop) (hx : SqT K G a xs) (hn : xs.length < 1000000)
    (i0 : I 0 H) (r0 : RR 0 []) (hI : ∀ i Hi H', I i Hi → (∀ b o, H b ≠ none → Hi b = some o → H' b = some o) → I i H')
    (hs : ∀ i x Gi Hi ds, xs[i]? = some x → Grow M G H Gi Hi → I i Hi → RR i ds → ∀ (NT : VK) (NF : Hp → Prop),
      (∀ y G4 H4 d, Grow M Gi Hi G4 H4 → Dp K G4 y d → I (i + 1) H4 → RR (i + 1) (ds ++ [d]) → NT y H4) → (∀ G3 H3, Grow M Gi Hi G3 H3 → I (i + 1) H3 → RR (i + 1) ds → NF H3) →
      g x (wipe σ vs) Hi fun σ2 H2 => wipe σ2 vs = wipe σ vs ∧ tt σ2 H2 fun b H3 => if b = true then te σ2 H3 NT else NF H3)
    (hd : ∀ D G' H' ys ds, H D = none → Grow M G0 H0 G' H' → Grow M G H G' H' → H' D = some (.lst ys) → G' D = none → DpAll K G' ys ds → I xs.length H' → RR xs.length ds → Q (.ref D) H') : LcT K (.ref a) g tt te vs σ H Q :=
  ⟨a, rfl, ⟨xs, sm_t gr.gh hx⟩, lcJ_ok (n := xs.length) (item := fun i x => xs[i]? = some x) gr hn hM I (fun i Hi hi s _ => ⟨xs, xs[i], sm_t s hx, by simp [hi]⟩) (fun Hi s _ => ⟨xs, sm_t s hx, Nat.le_refl _⟩)
    (fun i Hi x H' hi s _ y => ⟨y.1, y.2 xs (sm_t s hx)⟩) RR i0 r0 hI (fun i x Gi Hi ds _ hx' => hs i x Gi Hi ds hx') hd⟩
theorem lcR1_ok {M : List Addr} {G0 H0 G : Hp} {n : Int} (gr : Grow M G0 H0 G H) (hM : ∀ b ∈ M, H b ≠ none) (I : Nat → Hp → Prop) (RR : Nat → List PyData → Prop) (hn0 : -1000000 < n) (hn : n < 1000000)
    (i0 : I 0 H) (r0 : RR 0 []) (hI : ∀ i Hi H', I i Hi → (∀ b o, H b ≠ none → Hi b = some o → H' b = some o) → I i H')
    (hs : ∀ (i : Nat) Gi Hi ds, (i : Int) < n → Grow M G H Gi Hi → I i Hi → RR i ds → ∀ (NT : VK) (NF : Hp → Prop),
      (∀ y G4 H4 d, Grow M Gi Hi G4 H4 → Dp K G4 y d → I (i + 1) H4 → RR (i + 1) (ds ++ [d]) → NT y H4) → (∀ G3 H3, Grow M Gi Hi G3 H3 → I (i + 1) H3 → RR (i + 1) ds → NF H3) →
      g (.int i) (wipe σ vs) Hi fun σ2 H2 => wipe σ2 vs = wipe σ vs ∧ tt σ2 H2 fun b H3 => if b = true then te σ2 H3 NT else NF H3)
    (hd : ∀ D G' H' ys ds, H D = none → Grow M G0 H0 G' H' → Grow M G H G' H' → H' D = some (.lst ys) → G' D = none → DpAll K G' ys ds → I n.toNat H' → RR n.toNat ds → Q (.ref D) H') : LcR1 [.int n] g tt te vs σ H Q :=
  ⟨n, rfl, by omega, by omega, lcJ_ok (n := n.toNat) (item := fun i x => x = .int i) gr (by omega) hM I (fun i Hi hi _ _ => hi) (fun Hi _ _ => Nat.le_refl _)
    (fun i Hi x H' hi _ _ y => ⟨y.1, by rw [y.2, Int.zero_add]⟩) RR i0 r0 hI (fun i x Gi Hi ds hi hx' => by subst hx'; exact hs i Gi Hi ds (by omega)) hd⟩
end
end B
namespace B
open PySem PySem.Spec PyProof.Rows L2
/-! ### dicts with written keys -/
section
variable {K : PySem.W.Frag} {σ : St} {G H : Hp} {Q : VK} {a : Addr} {kvs kvs' : List (Key × V)} {s : Str} {v w : V} {R : V → Hp → Prop} {S : Hp → Prop} {td ty tv : TE} {D : Ends}
def GetD (x y : V) (Q : VK) (H : Hp) : Prop := ∃ a v, x = .ref a ∧ DGet H a y (some v) ∧ Q v H
theorem rd_dgetE (q : td σ H fun x H1 => ty σ H1 fun y H2 => GetD x y Q H2) : tDGet td ty σ H Q := q
theorem rd_dgetS (h : H a = some (.dK kvs)) (hv : valV kvs (.inr s) = some v) (q : Q v H) : GetD (.ref a) (.str s) Q H :=
  ⟨a, v, rfl, by rw [← hv]; exact DGet.k (k := Sum.inr s) h, q⟩
def PutD (x y v : V) (S : Hp → Prop) (H : Hp) : Prop := ∃ a H4, x = .ref a ∧ DPut H a y v H4 ∧ S H4
theorem rd_dputE (q : tv σ H fun v H1 => td σ H1 fun x H2 => ty σ H2 fun y H3 => PutD x y v (fun H4 => D.nx σ H4) H3) : sDPut td ty tv D σ H := q
theorem rd_dputS (g : Same G H) (n : G a = none) (h : H a = some (.dK kvs)) (hz : kvs.length < 1000) (hp : putK kvs (.inr s) v = kvs') (q : ∀ H', Grow [a] G H G H' → H' a = some (.dK kvs') → S H') :
    PutD (.ref a) (.str s) v S H :=
  ⟨a, _, rfl, DPut.k (k := Sum.inr s) h (by rw [sizeLine_eq]; omega), q _ (Grow.mut g n h) (by rw [upd_same, hp])⟩
theorem putK_out {κ : Type} [DecidableEq κ] {kvs : List (κ × V)} {k : κ} {v : V} (h : k ∉ kvs.map (·.1)) : putK kvs k v = kvs ++ [(k, v)] := by
  refine putK_new v ?_
  cases e : valV kvs k with
  | none => rfl
  | some x => exact absurd (valV_in e) h
theorem mergeK_app : ∀ (more kvs : List (Key × V)), ((kvs ++ more).map (·.1)).Nodup → mergeK kvs more = kvs ++ more
  | [], kvs, _ => by simp [mergeK]
  | p :: r, kvs, h => by
    have hp : p.1 ∉ kvs.map (·.1) := by
      rw [List.map_append, List.nodup_append] at h
      intro z
      exact h.2.2 p.1 z p.1 (by simp) rfl
    show mergeK (putK kvs p.1 p.2) r = _
    rw [putK_out hp, mergeK_app r (kvs ++ [(p.1, p.2)]) (by simpa using h)]
    simp
theorem mergeK_id (h : (kvs.map (·.1)).Nodup) : mergeK [] kvs = kvs := by rw [mergeK_app kvs [] (by simpa using h)]; simp
/-- a displayed dict as an object of one's own: its values are reckoned first -/
theorem rd_disp {trs : List (TE × TE)} (q : ∀ p, H p = none → tPairs trs σ (upd H p (.dK [])) fun ps H2 => H2 p = some (.dK []) ∧ ∃ kvs : List (Key × V), ps = kvs.map (fun kv => (kV kv.1, kv.2)) ∧ kvs.length ≤ 15 ∧ Q (.ref p) (upd H2 p (.dK (mergeK [] kvs)))) : tDisp trs σ H Q := q
theorem cdivw {i j : Int} (h : 0 < j) (h2 : j < 18446744073709551616) : CDivW i j := ⟨h, by
  have : j.natAbs < 2 ^ 64 := by omega
  exact Nat.lt_of_lt_of_le (PySem.Flt.log2_lt_of (by decide) this) (by decide)⟩
theorem at_mod {α : Type} {xs : List α} {i : Int} (h : xs ≠ []) (h0 : 0 ≤ i) (h1 : i < xs.length) : ∃ v, atI xs i = some v ∧ v ∈ xs ∧ xs[i.toNat]? = some v := by
  obtain ⟨j, rfl⟩ : ∃ j : Nat, i = j := ⟨i.toNat, by omega⟩
  have hj : j < xs.length := by omega
  exact ⟨xs[j], atI_nat (by simp [hj]), List.getElem_mem hj, by simp [hj]⟩
end
end B
namespace B
open PySem PySem.Spec PyProof.Rows L2
section
variable {σ : St} {H : Hp} {tk tv : TE} {trs : List (TE × TE)} {QP : List (V × V) → Hp → Prop}
theorem rd_prs (q : tk σ H fun x H1 => tv σ H1 fun y H2 => tPairs trs σ H2 fun ps H3 => QP ((x, y) :: ps) H3) : tPairs ((tk, tv) :: trs) σ H QP := q
theorem rd_prn (q : QP [] H) : tPairs [] σ H QP := q
end
end B
namespace B
open PySem PySem.Spec PyProof.Rows L2
section
variable {K : PySem.W.Frag} {σ : St} {M : List Addr} {G0 H0 G H H2 : Hp} {Q : VK} {a p : Addr} {xs : List V} {te : TE} {tl th : TO} {trs : List (TE × TE)} {lo hi : Option Int}
-- displayed dicts
def DispEnd (p : Addr) (ps : List (V × V)) (Q : VK) (H2 : Hp) : Prop := H2 p = some (.dK []) ∧ ∃ kvs : List (Key × V), ps = kvs.map (fun kv => (kV kv.1, kv.2)) ∧ kvs.length ≤ 15 ∧ Q (.ref p) (upd H2 p (.dK (mergeK [] kvs)))
theorem rd_dispC (g : Grow M G0 H0 G H) (q : ∀ p H1, H p = none → Grow M G0 H0 G H1 → H1 p = some (.dK []) → Grow [] G H G H1 → tPairs trs σ H1 fun ps H2 => DispEnd p ps Q H2) : tDisp trs σ H Q :=
  fun p n => q p _ n (g.trans0 (.cell g.gh n)) upd_same (.cell g.gh n)
theorem dispEnd {ps : List (V × V)} (kvs : List (Key × V)) (g : Grow M G0 H0 G H) (h : H p = some (.dK [])) (n : G p = none) (n0 : H0 p = none) (e : ps = kvs.map (fun kv => (kV kv.1, kv.2))) (hl : kvs.length ≤ 15) (nd : (kvs.map (·.1)).Nodup)
    (q : ∀ H', Grow M G0 H0 G H' → H' p = some (.dK kvs) → Grow [p] G H G H' → Q (.ref p) H') : DispEnd p ps Q H :=
  ⟨h, kvs, e, hl, by
    rw [mergeK_id nd]
    exact q _ (g.trans (.mut g.gh n h) fun x hx => .inr (by rw [List.mem_singleton.mp hx]; exact n0)) upd_same (.mut g.gh n h)⟩
-- slices
def PartQ (x : V) (Q : Option Int → Hp → Prop) (H : Hp) : Prop := ∃ i, x = .int i ∧ Q (some i) H
theorem rd_sl {r : V → Option Int → Option Int → Hp → VK → Prop} (q : te σ H fun x H1 => tl σ H1 fun l H2 => th σ H2 fun u H3 => r x l u H3 Q) : tSl r te tl th σ H Q := q
theorem rd_noPart {QO : Option Int → Hp → Prop} (q : QO none H) : tNoPart σ H QO := q
theorem rd_part {QO : Option Int → Hp → Prop} (q : te σ H fun x H1 => PartQ x QO H1) : tPart te σ H QO := q
theorem rd_partI {QO : Option Int → Hp → Prop} {i : Int} (q : QO (some i) H) : PartQ (.int i) QO H := ⟨i, rfl, q⟩
theorem rd_slL (g : Grow M G0 H0 G H) (h : SqL K H a xs) (q : ∀ p G' H', H p = none → Grow M G0 H0 G' H' → Same G G' → G' p = some (.lst (cutV xs lo hi)) → Grow [] G H G' H' → Q (.ref p) H') : rSlL K (.ref a) lo hi H Q :=
  ⟨a, xs, rfl, h, fun p n => q p _ _ n (g.trans0 (.data g.gh n)) (sm_new (g.gh.free n)) upd_same (.data g.gh n)⟩
theorem cut_take (xs : List V) (k : Nat) : cutV xs none (some (k : Int)) = xs.take k := by
  unfold cutV
  rw [HT.sIx_nat, HT.sIx_none]
  simp only [List.drop_zero, Nat.sub_zero]
  by_cases h : k ≤ xs.length
  · rw [Nat.min_eq_left h]
  · rw [Nat.min_eq_right (by omega), List.take_of_length_le (Nat.le_refl _), List.take_of_length_le (by omega)]
theorem cut_drop (xs : List V) (k : Nat) : cutV xs (some (k : Int)) none = xs.drop k := by
  unfold cutV
  rw [HT.sIx_nat, HT.sIx_none]
  by_cases h : k ≤ xs.length
  · rw [Nat.min_eq_left h, List.take_of_length_le (by simp)]
  · rw [Nat.min_eq_right (by omega)]
    simp [List.drop_of_length_le (show xs.length ≤ k by omega)]
end
end B
namespace B
open PySem PySem.Spec PyProof.Rows L2
/-! ### == of data -/
/-- no dict within, and no deeper than n -/
def Shp (n : Nat) (d : PyData) : Prop := d.canLay0 = true ∧ d.depth ≤ n
theorem shp_int {i : Int} {n : Nat} : Shp n (.int i) := ⟨rfl, Nat.zero_le _⟩
theorem shp_bl {i : Bool} {n : Nat} : Shp n (.bool i) := ⟨rfl, Nat.zero_le _⟩
theorem shp_non {n : Nat} : Shp n .none := ⟨rfl, Nat.zero_le _⟩
theorem shp_str {i : Str} {n : Nat} (h : PyData.strOk i = true) : Shp n (.str i) := ⟨by simpa [PyData.canLay0] using h, Nat.zero_le _⟩
theorem shp_all : ∀ {ds : List PyData} {n : Nat}, (∀ d ∈ ds, Shp n d) → PyData.canLayAll0 ds = true ∧ PyData.depthAll ds ≤ n
  | [], n, _ => ⟨rfl, Nat.zero_le _⟩
  | d :: ds, n, h => by
    obtain ⟨h1, h2⟩ := h d (by simp)
    obtain ⟨h3, h4⟩ := shp_all fun e he => h e (List.mem_cons_of_mem _ he)
    exact ⟨by simp [PyData.canLayAll0, h1, h3], by simp only [PyData.depthAll]; omega⟩
theorem shp_tup {ds : List PyData} {n : Nat} (h : ∀ d ∈ ds, Shp n d) : Shp (n + 1) (.tuple ds) := by
  obtain ⟨h1, h2⟩ := shp_all h
  exact ⟨by simpa [PyData.canLay0] using h1, by simp only [PyData.depth]; omega⟩
theorem shp_lst {ds : List PyData} {n : Nat} (h : ∀ d ∈ ds, Shp n d) : Shp (n + 1) (.list ds) := by
  obtain ⟨h1, h2⟩ := shp_all h
  exact ⟨by simpa [PyData.canLay0] using h1, by simp only [PyData.depth]; omega⟩
theorem Shp.mono {n m : Nat} {d : PyData} (h : Shp n d) (l : n ≤ m) : Shp m d := ⟨h.1, Nat.le_trans h.2 l⟩
theorem Shp.ok {n : Nat} {d : PyData} (h : Shp n d) (l : n ≤ 64 := by decide) : SeqAt.shaped d = true := by
  unfold SeqAt.shaped
  rw [h.1, decide_eq_true (Nat.le_trans h.2 l)]; rfl
theorem Shp.refl {n : Nat} {d : PyData} (h : Shp n d) : PyData.eqv d d = true := SeqAt.eqv_refl_plain d (PyData.plain_of_canLay0 d h.1)
theorem map_all {α : Type} {f : α → PyData} {l : List α} {n : Nat} (h : ∀ x ∈ l, Shp n (f x)) : ∀ d ∈ l.map f, Shp n d := fun d hd => by
  obtain ⟨x, hx, rfl⟩ := List.mem_map.mp hd
  exact h x hx
section
variable {K : PySem.W.Frag} {H : Hp} {Q : VK} {x y : V} {d e : PyData} {n m : Nat}
theorem rd_eqD (hx : Dp K H x d) (hy : Dp K H y e) (sd : Shp n d) (se : Shp m e) (q : Q (.bl (PyData.eqv d e)) H) (hn : n ≤ 64 := by decide) (hm : m ≤ 64 := by decide) : rEqD K x y H Q := ⟨d, e, hx, hy, sd.ok hn, se.ok hm, q⟩
theorem rd_neD (hx : Dp K H x d) (hy : Dp K H y e) (sd : Shp n d) (se : Shp m e) (q : Q (.bl (!PyData.eqv d e)) H) (hn : n ≤ 64 := by decide) (hm : m ≤ 64 := by decide) : rNeD K x y H Q := ⟨d, e, hx, hy, sd.ok hn, se.ok hm, q⟩
theorem rd_neSame (hx : Dp K H x d) (hy : Dp K H y d) (sd : Shp n d) (q : Q (.bl false) H) (hn : n ≤ 64 := by decide) : rNeD K x y H Q := rd_neD hx hy sd sd (by rw [sd.refl]; exact q) hn hn
end
end B
namespace B
open PySem PySem.Spec PyProof.Rows L2
section
variable {K : PySem.W.Frag} {σ : St} {M : List Addr} {G0 H0 G H : Hp} {Q : VK} {l b : Addr} {xs zs : List V} {y : V} {to : TE} {t : TA} {T : String} {r : V → List V → Hp → VK → Prop} {P : Prop}
theorem rd_eqB {a b : Bool} (q : Q (.bl (decide (a = b))) H) : rEq (.bl a) (.bl b) H Q := ⟨rfl, by
  have e : decide (V.bl a = V.bl b) = decide (a = b) := by rw [Bool.eq_iff_iff]; simp
  rw [e]; exact q⟩
theorem rd_neB {a b : Bool} (q : Q (.bl (decide (a ≠ b))) H) : rNe (.bl a) (.bl b) H Q := ⟨rfl, by
  have e : (!decide (V.bl a = V.bl b)) = decide (a ≠ b) := by rw [Bool.eq_iff_iff]; simp
  rw [e]; exact q⟩
def TyW (K : PySem.W.Frag) (T : String) (x : V) (H : Hp) (P : Prop) : Prop := tyV K T x H ∧ P
theorem rd_bm (q : to σ H fun x H1 => TyW K T x H1 (t σ H1 fun xs H2 => r x xs H2 Q)) : tBM K T r to t σ H Q := q
theorem rd_bm0 (q : to σ H fun x H1 => TyW K T x H1 (r x [] H1 Q)) : tBM0 K T r to σ H Q := q
theorem rd_tyL (h : H l = some (.lst xs)) (q : P) : TyW K "list" (.ref l) H P := ⟨Or.inl ⟨rfl, _, SqL.of h⟩, q⟩
theorem rd_append (g : Grow M G0 H0 G H) (n : G l = none) (hm : l ∈ M ∨ H0 l = none) (h : H l = some (.lst xs)) (hz : xs.length < 1000000) (q : ∀ H', Grow M G0 H0 G H' → H' l = some (.lst (xs ++ [y])) → Grow [l] G H G H' → Q .non H') : rAppend (.ref l) [y] H Q :=
  ⟨l, xs, y, rfl, rfl, h, by rw [sizeLine_eq]; omega, q _ (g.trans (.mut g.gh n h) fun z hz => by rw [List.mem_singleton.mp hz]; exact hm) upd_same (.mut g.gh n h)⟩
theorem rd_cat (g : Grow M G0 H0 G H) (h1 : H l = some (.lst xs)) (h2 : H b = some (.lst zs)) (q : ∀ p G' H', H p = none → Grow M G0 H0 G' H' → Same G G' → G' p = some (.lst (xs ++ zs)) → Grow [] G H G' H' → Q (.ref p) H') (hz : xs.length + zs.length ≤ 1000000 := by exact Nat.le_of_ble_eq_true rfl) : rCat (.ref l) (.ref b) H Q :=
  ⟨l, b, xs, zs, rfl, rfl, h1, h2, by rw [sizeLine_eq]; omega, fun p n => q p _ _ n (g.trans0 (.data g.gh n)) (sm_new (g.gh.free n)) upd_same (.data g.gh n)⟩
theorem rd_listN (g : Grow M G0 H0 G H) {p : Addr} {ys : List V} (h : SqL K H p ys ∨ SqT K H p ys) (q : ∀ l G' H', H l = none → Grow M G0 H0 G' H' → Same G G' → G' l = some (.lst ys) → Grow [] G H G' H' → Q (.ref l) H') : rListO K [.ref p] H Q :=
  ⟨p, ys, rfl, h, fun l n => q l _ _ n (g.trans0 (.data g.gh n)) (sm_new (g.gh.free n)) upd_same (.data g.gh n)⟩
end
end B
namespace B
open PySem PySem.Spec PyProof.Rows L2
/-! ### the rules that speak of the written part, with K said outright -/
section
variable {X : Cx} {e a b o tg : Expr} {es rest : List Expr} {te ta tb tl : TE} {t : TA} {pos apos cpos : Pos} {f name : Str} {T id : String} {r : V → List V → Hp → VK → Prop}
theorem ix_tupK (K : PySem.W.Frag) (h : X.K = K := by rfl) : IxR X (rIxT K) := by subst h; exact ix_tup
theorem ix_listK (K : PySem.W.Frag) (h : X.K = K := by rfl) : IxR X (rIxL K) := by subst h; exact ix_list
theorem cl_lenK (K : PySem.W.Frag) (h : X.K = K := by rfl) : CallR X (.builtin "len") (rLenQ K) := by subst h; exact cl_len
theorem cl_listK (K : PySem.W.Frag) (h : X.K = K := by rfl) : CallR X (.type "list") (rListO K) := by subst h; exact cl_list
theorem cl_tupK (K : PySem.W.Frag) (h : X.K = K := by rfl) : CallR X (.type "tuple") (rTupO K) := by subst h; exact cl_tup
theorem op_inK (K : PySem.W.Frag) (h : X.K = K := by rfl) : OpR X (compareOp .In) (rIn K false) := by subst h; exact op_in_seq
theorem op_ninK (K : PySem.W.Frag) (h : X.K = K := by rfl) : OpR X (compareOp .NotIn) (rIn K true) := by subst h; exact op_notIn_seq
theorem op_eqDK (K : PySem.W.Frag) (hu : X.A.units + 64 < cLine) (h : X.K = K := by rfl) : OpR X (compareOp .Eq) (rEqD K) := by subst h; exact op_eqD hu
theorem op_neDK (K : PySem.W.Frag) (hu : X.A.units + 64 < cLine) (h : X.K = K := by rfl) : OpR X (compareOp .NotEq) (rNeD K) := by subst h; exact op_neD hu
theorem op_catAK (K : PySem.W.Frag) (h : X.K = K := by rfl) : OpR X (binaryOp .Add) (rCatA K) := by subst h; exact op_catA
theorem sl_listK (K : PySem.W.Frag) (h : X.K = K := by rfl) : SlR X (rSlL K) := by subst h; exact sl_list
theorem sl_tupAK (K : PySem.W.Frag) (h : X.K = K := by rfl) : SlR X (rSlA K) := by subst h; exact sl_tupA
theorem pi_listK (K : PySem.W.Frag) (hl : PE X e tl) (h : X.K = K := by rfl) : PI X tg e (iList K tl) := by subst h; exact pi_list hl
theorem pi_tupK (K : PySem.W.Frag) (hl : PE X e tl) (h : X.K = K := by rfl) : PI X tg e (iTup K tl) := by subst h; exact pi_tup hl
theorem pg_tupK (K : PySem.W.Frag) {k : Nat} {t : TGs} {n : Nat} (hc : X.calm = true) (h : PGs X es t) (hK : X.K = K := by rfl) (hn : (assignEach es X.env).length = n := by rfl) (hst : (assignEach es X.env).findIdx? (·.1) = none := by rfl) : PG X (.Tuple es k pos) (gTup K n t) := by
  subst hK; exact pg_tup hc h hn hst
theorem pt_truK (K : PySem.W.Frag) (ha : PE X a ta) (h : X.K = K := by rfl) (he : ∀ whole, isTrue a X.env whole = (do let v ← whole; standAt a.pos; holding [v] (truthy v)) := by intro _; rfl) : PT X a (tTruth K ta) := by subst h; exact pt_tru ha he
theorem pe_orTK (K : PySem.W.Frag) (ha : PE X a ta) (hb : PE X (.BoolOp .Or (b :: rest) pos) tb) (h : X.K = K := by rfl) : PE X (.BoolOp .Or (a :: b :: rest) pos) (tOrT K ta tb) := by subst h; exact pe_orT ha hb
theorem pe_andTK (K : PySem.W.Frag) (ha : PE X a ta) (hb : PE X (.BoolOp .And (b :: rest) pos) tb) (h : X.K = K := by rfl) : PE X (.BoolOp .And (a :: b :: rest) pos) (tAndT K ta tb) := by subst h; exact pe_andT ha hb
theorem pe_notTK (K : PySem.W.Frag) (ha : PE X a ta) (h : X.K = K := by rfl) : PE X (.UnaryOp .Not a pos) (tNotT K ta) := by subst h; exact pe_notT ha
theorem pe_fldK (K : PySem.W.Frag) (he : PE X e ta) (hb : attributeBase e f X.env (eval e X.env) = eval e X.env) (h : X.K = K := by rfl) : PE X (.Attribute e f pos) (tFld K ta f) := by subst h; exact pe_fld he hb
theorem ps_fldK (K : PySem.W.Frag) {value : Expr} {tv : TE} {pos' : Pos} (ha : PE X o ta) (hv : PE X value tv) (hs : swapsWith value (some (.Attribute o f pos')) pos.line X.env = pure false) (h : X.K = K := by rfl) : PS X (.Assign [.Attribute o f pos'] value pos) (sFld K ta tv f) := by subst h; exact ps_fld ha hv hs
theorem pe_bmK (K : PySem.W.Frag) (pa : PlainAttrs T) (slot : Slot T name id) (hty : typeOf (.builtin id) = pure (.type "method_descriptor")) (hm : MtR X id r) (ho : PE X o ta) (ha : PA X (e :: es) t) (h : X.K = K := by rfl)
    (hbase : attributeBase o name X.env (eval o X.env) = eval o X.env := by rfl)
    (hfew : ((backTo cpos (starEach (e :: es) X.env)).all (fun x => !x.1) && (backToKw cpos (keywordEach [] X.env)).all (fun x => x.1.isSome)
      && decide ((e :: es).length + ([] : List Keyword).length + (if ([] : List Keyword).isEmpty then 0 else 1) < 30)) = true := by rfl)
    (hline : (apos.endLine == cpos.line) = true := by rfl) (hs : starEach (e :: es) X.env = (false, eval e X.env) :: starEach es X.env := by rfl) (hplain : (backTo cpos (starEach es X.env)).any (·.1) = false := by rfl) :
    PE X (.Call (.Attribute o name apos) (e :: es) [] cpos) (tBM K T r ta t) := by subst h; exact pe_bm pa slot hty hm ho ha hbase hfew hline hs hplain
theorem pe_bm0K (K : PySem.W.Frag) (pa : PlainAttrs T) (slot : Slot T name id) (hty : typeOf (.builtin id) = pure (.type "method_descriptor")) (hm : MtR X id r) (ho : PE X o ta) (h : X.K = K := by rfl)
    (hbase : attributeBase o name X.env (eval o X.env) = eval o X.env := by rfl) (hline : (apos.endLine == cpos.line) = true := by rfl) : PE X (.Call (.Attribute o name apos) [] [] cpos) (tBM0 K T r ta) := by subst h; exact pe_bm0 pa slot hty hm ho hbase hline
theorem call_isiK' (K : PySem.W.Frag) (h : X.K = K := by rfl) : CallR X (.builtin "isinstance") (rIsi K) := by subst h; exact call_isi
theorem cr_sumK (K : PySem.W.Frag) (hc : X.calm = true) (h : X.K = K := by rfl) : CallR X (.builtin "sum") (rSum K) := by subst h; exact cr_sum hc
theorem cr_maxK (K : PySem.W.Frag) (hc : X.calm = true) (h : X.K = K := by rfl) : CallR X (.builtin "max") (rMax K) := by subst h; exact cr_max hc
theorem cr_minK (K : PySem.W.Frag) (hc : X.calm = true) (h : X.K = K := by rfl) : CallR X (.builtin "min") (rMin K) := by subst h; exact cr_min hc
theorem cr_anyK (K : PySem.W.Frag) (hc : X.calm = true) (h : X.K = K := by rfl) : CallR X (.builtin "any") (rAny K) := by subst h; exact cr_any hc
theorem cr_allK (K : PySem.W.Frag) (hc : X.calm = true) (h : X.K = K := by rfl) : CallR X (.builtin "all") (rAll K) := by subst h; exact cr_all hc
end
end B

open PySem PySem.Spec PyProof.Rows L2 B
/-! the walk's words (local: they stand in the text that uses them) -/
local macro_rules | `(tactic| walk_at "e1") => `(tactic| first
  | ((with_reducible refine' rd_var ?vh ?vq); (case vh => rfl))
  | with_reducible refine rd_c ?_
  | with_reducible refine rd_op ?_
  | with_reducible refine rd_cons ?_
  | with_reducible refine rd_nil ?_
  | with_reducible refine rd_seqAsg ?_
  | with_reducible refine rd_seqPar ?_
  | with_reducible refine rd_seq ?_
  | with_reducible refine rd_asg ?_
  | with_reducible refine rd_I0 ?_
  | ((with_reducible refine rd_I (C := CMul) ?mh ?mq); (case mh => first | exact .inl ⟨by omega, by omega⟩ | exact .inr ⟨by omega, by omega⟩))
  | ((with_reducible refine rd_I (C := fun _ j => 0 < j) ?mh ?mq); (case mh => omega))
  | ((with_reducible refine rd_I (C := CPow) ?mh ?mq); (case mh => exact ⟨by omega, by omega, by omega⟩))
  | with_reducible refine rd_U ?_
  | with_reducible refine rd_eqI ?_
  | with_reducible refine rd_neI ?_
  | with_reducible refine rd_eqS ?_
  | with_reducible refine rd_neS ?_
  | with_reducible refine rd_test ?_
  | with_reducible refine rd_B ?_
  | with_reducible refine rd_bl ?_
  | with_reducible refine rd_blV ?_
  | with_reducible refine rd_ret ?_
  | with_reducible refine rd_rt ?_
  | with_reducible refine rd_nx ?_
  | with_reducible refine rd_next ?_
  | with_reducible refine rd_ifS ?_
  | with_reducible refine rd_if ?_
  | with_reducible refine rd_and ?_
  | with_reducible refine rd_or ?_
  | with_reducible refine rd_not ?_
  | with_reducible refine rd_andV ?_
  | with_reducible refine rd_orV ?_
  | with_reducible refine rd_notV ?_
  | with_reducible refine rd_un ?_
  | with_reducible refine rd_call ?_
  | with_reducible refine rd_CB ?_
  | with_reducible refine rd_rabs ?_
  | ((with_reducible refine rd_I (C := CDivW) ?mh ?mq); (case mh => exact cdivw (by omega) (by omega)))
  | with_reducible refine rd_dgetE ?_
  | with_reducible refine rd_eqB ?_
  | with_reducible refine rd_neB ?_
  | with_reducible refine rd_bm ?_
  | with_reducible refine rd_bm0 ?_
  | ((with_reducible refine' rd_tyL ?lh ?lq); (case lh => assumption))
  | with_reducible refine rd_sl ?_
  | with_reducible refine rd_noPart ?_
  | with_reducible refine rd_part ?_
  | with_reducible refine rd_partI ?_
  | ((with_reducible refine' rd_lenL ?lh ?lq); (case lh => assumption))
  | ((with_reducible refine' rd_lenT ?lh ?lq); (case lh => assumption))
  | with_reducible refine rd_dputE ?_
  | with_reducible refine rd_two ?_
  | with_reducible refine rd_g ?_
  | with_reducible refine rd_gNil ?_
  | with_reducible refine rd_gCons ?_
  | with_reducible refine rd_forL ?_
  | with_reducible refine rd_forT ?_
  | with_reducible refine rd_forR1 ?_
  | with_reducible refine rd_forR2 ?_
  | with_reducible refine rd_lcL ?_
  | with_reducible refine rd_lcT ?_
  | with_reducible refine rd_lcR1 ?_
  | with_reducible refine rd_yes ?_
  | with_reducible refine rd_prs ?_
  | with_reducible refine rd_prn ?_
  | with_reducible refine rd_rmax ?_
  | with_reducible refine rd_rmin ?_
  | with_reducible refine rd_intI ?_
  | with_reducible refine rd_intB ?_
  | with_reducible refine rd_isN ?_
  | with_reducible refine rd_notN ?_
  | with_reducible refine rd_truth ?_
  | with_reducible refine rd_orT ?_
  | with_reducible refine rd_andT ?_
  | with_reducible refine rd_drop ?_
  | ((with_reducible refine' rd_ixT ?xh ?xg ?xq); (case xh => first | assumption | fail "no tuple"); (case xg => rfl))
  | ((with_reducible refine' rd_ixL ?xh ?xg ?xq); (case xh => first | assumption | fail "no list"); (case xg => rfl))
  | with_reducible refine rd_tup ?_
  | with_reducible refine rd_lst ?_
  | with_reducible refine rd_asgG ?_)
local macro_rules | `(tactic| walk_at "e") => `(tactic| repeat walk_at "e1")
local macro_rules | `(tactic| walk_at "sm") => `(tactic| first
  | assumption
  | exact Same.refl _
  | exact Grow.gg (by assumption)
  | exact Grow.gh (by assumption)
  | (refine Same.trans ?_ (Grow.gg (by assumption)); walk_at "sm")
  | (refine Same.trans ?_ (Grow.gh (by assumption)); walk_at "sm"))

namespace K08
open PySem PySem.Spec PyProof.Rows L2 B
def topS (i : Nat) : Stmt := PySem.Challenge.pw_strokeguess_k08_measures.main.body.getD i (.Pass ⟨0, 0, 0, 0⟩)
structure Txt (mg : Str → Option Value) : Prop where
  g_FLUNG : ∃ t, mg "FLUNG" = some (.int 50 t)
  g_AGO : ∃ t, mg "AGO" = some (.int 100 t)
  b_abs : mg "abs" = none
  b_len : mg "len" = none
  b_range : mg "range" = none
  b_max : mg "max" = none
  b_list : mg "list" = none
/-! ### the mathematics -/
abbrev iabs (a : Int) : Int := if a < 0 then -a else a
def beyond (way : Str) (dx dy slop : Int) : Bool := if way = "across" then decide (slop < iabs dx) else if way = "along" then decide (slop < iabs dy) else decide (slop * slop < dx * dx + dy * dy)
def turned (fx fy x y : Int) : Bool := decide (fx * x + fy * y < iabs (fx * y - fy * x))
def spread (fx fy x y : Int) : Bool := decide (25 * (fx * fx + fy * fy) < 16 * (x * x + y * y)) || decide (25 * (x * x + y * y) < 16 * (fx * fx + fy * fy))
abbrev Sm (a : Int) : Prop := -100000000 < a ∧ a < 100000000
section
variable {P : Program} {w : World} {K : PySem.W.Frag} {mg : Str → Option Value} {base : Heap}
abbrev s_square : Stmt := topS 3
theorem sc_square : FnScope ["dx", "dy"] ["dx", "dy"] (defScope s_square) := ⟨rfl, rfl, rfl, by decide +kernel, rfl, by decide +kernel, by decide +kernel⟩

def sp_square : Sp := fun vs H Q _ => ∃ a b : Int, vs = [.int a, .int b] ∧ Sm a ∧ Sm b ∧ Q (.int (a * a + b * b)) H
theorem ok_square (F : FunAt K mg "square" s_square) : Cal P w K mg base 1 "square" ["dx", "dy"] sp_square := by
  refine cal_of F sc_square (fun _ _ _ _ _ _ us hl => match us, hl with | [_, _], _ => rfl) (by rintro vs H Q E ⟨a, b, rfl, _⟩; rfl) ?_
  rintro f cdv A outer s H vs Q E hr ⟨a, b, rfl, ha, hb, q⟩
  refine ⟨_, (pss_one (ps_ret (pe_op op_add (pe_op op_mul (pv 0) (pv 0)) (pe_op op_mul (pv 1) (pv 1))))), ?_⟩
  try dsimp only [cxOf, Cx.nox, Cx.wish]
  walk_at "e"
  exact q
abbrev s_is_beyond : Stmt := topS 4
theorem sc_is_beyond : FnScope ["way", "dx", "dy", "slop"] ["way", "dx", "dy", "slop"] (defScope s_is_beyond) := ⟨rfl, rfl, rfl, by decide +kernel, rfl, by decide +kernel, by decide +kernel⟩

def sp_beyond : Sp := fun vs H Q _ => ∃ (w : Str) (a b s : Int), vs = [.str w, .int a, .int b, .int s] ∧ Sm a ∧ Sm b ∧ Sm s ∧ Q (.bl (beyond w a b s)) H
theorem ok_beyond (T : Txt mg) (F : FunAt K mg "is_beyond" s_is_beyond) (c_square : Cal P w K mg base 1 "square" ["dx", "dy"] sp_square) : Cal P w K mg base 2 "is_beyond" ["way", "dx", "dy", "slop"] sp_beyond := by
  refine cal_of F sc_is_beyond (fun _ _ _ _ _ _ us hl => match us, hl with | [_, _, _, _], _ => rfl) (by rintro vs H Q E ⟨w, a, b, s, rfl, _⟩; rfl) ?_
  rintro f cdv A outer s H vs Q E hr ⟨w, a, b, s, rfl, ha, hb, hs, q⟩
  refine ⟨_, (pss_cons (ps_if (pt_cmpR op_eq (pv 0) pe_str (nomark _)) (pss_one (ps_ret (pe_cmpR op_gt (pe_callB cl_abs (by rfl) T.b_abs (by decide +kernel) (pa_cons (pv 1) pa_nil)) (pv 3) (nomark _)))) pss_nil)
      (pss_cons (ps_if (pt_cmpR op_eq (pv 0) pe_str (nomark _)) (pss_one (ps_ret (pe_cmpR op_gt (pe_callB cl_abs (by rfl) T.b_abs (by decide +kernel) (pa_cons (pv 2) pa_nil)) (pv 3) (nomark _)))) pss_nil)
      (pss_one (ps_ret (pe_cmpR op_gt (pe_cal c_square hr (by decide) (pa_cons (pv 1) (pa_cons (pv 2) pa_nil))) (pe_op op_mul (pv 3) (pv 3)) (nomark _)))))), ?_⟩
  try dsimp only [cxOf, Cx.nox, Cx.wish]
  unfold beyond at q
  walk_at "e"
  refine rd_ite (c := _ = _) (fun h => ?_) (fun h => ?_)
  · rw [if_pos h] at q
    walk_at "e"
    exact q
  rw [if_neg h] at q
  walk_at "e"
  refine rd_ite (c := _ = _) (fun h => ?_) (fun h => ?_)
  · rw [if_pos h] at q
    walk_at "e"
    exact q
  rw [if_neg h] at q
  walk_at "e"
  refine ⟨a, b, rfl, ha, hb, ?_⟩
  walk_at "e"
  exact q
abbrev s_is_turned : Stmt := topS 6
theorem sc_is_turned : FnScope ["first", "other", "cross"] ["first", "other"] (defScope s_is_turned) := ⟨rfl, rfl, rfl, by decide +kernel, rfl, by decide +kernel, by decide +kernel⟩

def sp_turned : Sp := fun vs H Q _ => ∃ (p q : Addr) (fx fy x y : Int), vs = [.ref p, .ref q] ∧ SqT K H p [.int fx, .int fy] ∧ SqT K H q [.int x, .int y] ∧ Sm fx ∧ Sm fy ∧ Q (.bl (turned fx fy x y)) H
theorem ok_turned (T : Txt mg) (F : FunAt K mg "is_turned" s_is_turned) : Cal P w K mg base 1 "is_turned" ["first", "other"] (sp_turned (K := K)) := by
  refine cal_of F sc_is_turned (fun _ _ _ _ _ _ us hl => match us, hl with | [_, _], _ => rfl) (by rintro vs H Q E ⟨a, b, _, _, _, _, rfl, _⟩; rfl) ?_
  rintro f cdv A outer s H vs Q E hr ⟨p, q, fx, fy, x, y, rfl, hp, hq, h1, h2, k⟩
  refine ⟨_, (pss_cons (ps_set (i := 2) sc_is_turned.nd (by rfl) (Or.inl rfl) (pe_op op_sub (pe_op op_mul (pe_ix (ix_tupK K) (pv 0) pe_int (fun _ _ => rfl)) (pe_ix (ix_tupK K) (pv 1) pe_int (fun _ _ => rfl))) (pe_op op_mul (pe_ix (ix_tupK K) (pv 0) pe_int (fun _ _ => rfl)) (pe_ix (ix_tupK K) (pv 1) pe_int (fun _ _ => rfl)))))
      (pss_one (ps_ret (pe_cmpR op_gt (pe_callB cl_abs (by rfl) T.b_abs (by decide +kernel) (pa_cons (pv 2) pa_nil)) (pe_op op_add (pe_op op_mul (pe_ix (ix_tupK K) (pv 0) pe_int (fun _ _ => rfl)) (pe_ix (ix_tupK K) (pv 1) pe_int (fun _ _ => rfl))) (pe_op op_mul (pe_ix (ix_tupK K) (pv 0) pe_int (fun _ _ => rfl)) (pe_ix (ix_tupK K) (pv 1) pe_int (fun _ _ => rfl)))) (nomark _))))), ?_⟩
  try dsimp only [cxOf, Cx.nox, Cx.wish]
  walk_at "e"
  exact k
abbrev s_is_spread : Stmt := topS 5
theorem sc_is_spread : FnScope ["first", "other", "was", "now"] ["first", "other"] (defScope s_is_spread) := ⟨rfl, rfl, rfl, by decide +kernel, rfl, by decide +kernel, by decide +kernel⟩

def sp_spread (K : PySem.W.Frag) : Sp := fun vs H Q _ => ∃ (p q : Addr) (fx fy x y : Int), vs = [.ref p, .ref q] ∧ SqT K H p [.int fx, .int fy] ∧ SqT K H q [.int x, .int y] ∧ Sm fx ∧ Sm fy ∧ Sm x ∧ Sm y ∧ Q (.bl (spread fx fy x y)) H
theorem ok_spread (F : FunAt K mg "is_spread" s_is_spread) (c_square : Cal P w K mg base 1 "square" ["dx", "dy"] sp_square) : Cal P w K mg base 2 "is_spread" ["first", "other"] (sp_spread K) := by
  refine cal_of F sc_is_spread (fun _ _ _ _ _ _ us hl => match us, hl with | [_, _], _ => rfl) (by rintro vs H Q E ⟨a, b, _, _, _, _, rfl, _⟩; rfl) ?_
  rintro f cdv A outer s H vs Q E hr ⟨p, q, fx, fy, x, y, rfl, hp, hq, h1, h2, h3, h4, k⟩
  refine ⟨_, (pss_cons (ps_par (i := 2) (j := 3) (by rfl) sc_is_spread.nd (by rfl) (by rfl) (by decide) (by rfl) (by rfl) (pa_cons (pe_cal c_square hr (by decide) (pa_cons (pe_ix (ix_tupK K) (pv 0) pe_int (fun _ _ => rfl)) (pa_cons (pe_ix (ix_tupK K) (pv 0) pe_int (fun _ _ => rfl)) pa_nil))) (pa_cons (pe_cal c_square hr (by decide) (pa_cons (pe_ix (ix_tupK K) (pv 1) pe_int (fun _ _ => rfl)) (pa_cons (pe_ix (ix_tupK K) (pv 1) pe_int (fun _ _ => rfl)) pa_nil))) pa_nil)) (by rfl))
      (pss_one (ps_ret (pe_or (pe_cmpR op_gt (pe_op op_mul pe_int (pv 3)) (pe_op op_mul pe_int (pv 2)) (nomark _)) (pe_one (pe_cmpR op_lt (pe_op op_mul pe_int (pv 3)) (pe_op op_mul pe_int (pv 2)) (nomark _))))))), ?_⟩
  try dsimp only [cxOf, Cx.nox, Cx.wish]
  walk_at "e"
  refine ⟨fx, fy, rfl, h1, h2, ?_⟩
  walk_at "e"
  refine ⟨x, y, rfl, h3, h4, ?_⟩
  walk_at "e"
  unfold spread at k
  refine rd_ite (c := _ < _) (fun h => ?_) (fun h => ?_)
  · rw [decide_eq_true h] at k
    exact k
  · rw [decide_eq_false h] at k
    walk_at "e"
    exact k
/-! ### touches -/
structure Tch where
  m : Int
  f : Int
  w : Str
  x : Int
  y : Int
  deriving DecidableEq
def tD (t : Tch) : PyData := .tuple [.int t.m, .int t.f, .str t.w, .int t.x, .int t.y]
theorem tD_iff {H : Hp} {v : V} {t : Tch} : Dp K H v (tD t) ↔ ∃ a, v = .ref a ∧ SqT K H a [.int t.m, .int t.f, .str t.w, .int t.x, .int t.y] := by
  unfold tD
  simp only [dp_tup, dpa_cons, dpa_nil, dp_int, dp_str]
  constructor
  · rintro ⟨a, xs, e, h, v1, vs1, e1, e2, v2, vs2, e3, e4, v3, vs3, e5, e6, v4, vs4, e7, e8, v5, vs5, e9, e10, e11⟩
    subst_vars
    exact ⟨a, rfl, h⟩
  · rintro ⟨a, e, h⟩
    exact ⟨a, _, e, h, _, _, rfl, rfl, _, _, rfl, rfl, _, _, rfl, rfl, _, _, rfl, rfl, _, _, rfl, rfl, rfl⟩
theorem tD_shp {t : Tch} (h : PyData.strOk t.w = true) : Shp 1 (tD t) := shp_tup (n := 0) fun d hd => by
  simp only [List.mem_cons, List.not_mem_nil, or_false] at hd
  rcases hd with rfl | rfl | rfl | rfl | rfl
  · exact shp_int
  · exact shp_int
  · exact shp_str h
  · exact shp_int
  · exact shp_int
/-- where a fling begins, of the touches so far -/
def flBegin (t0 : Tch) (m : Int) (ts : List Tch) : Tch := ((ts.filter fun t => decide (t.m ≤ m - 100)).getLast?).getD t0
theorem flBegin_snoc (t0 t : Tch) (m : Int) (ts : List Tch) : flBegin t0 m (ts ++ [t]) = if t.m ≤ m - 100 then t else flBegin t0 m ts := by
  unfold flBegin
  rw [List.filter_append]
  by_cases h : t.m ≤ m - 100
  · simp [h]
  · simp [h]
def flungD (dx dy : Int) : PyData := if beyond "any" dx dy 50 = true then .tuple [.int dx, .int dy] else .none
def flungT (t0 tn : Tch) (ts : List Tch) : PyData := flungD (tn.x - (flBegin t0 tn.m ts).x) (tn.y - (flBegin t0 tn.m ts).y)
abbrev Plc (a : Int) : Prop := -20000 ≤ a ∧ a ≤ 20000
theorem flBegin_P {t0 : Tch} {m : Int} {ts : List Tch} {Pr : Tch → Prop} (h0 : Pr t0) (h : ∀ t ∈ ts, Pr t) : Pr (flBegin t0 m ts) := by
  unfold flBegin
  cases e : (ts.filter fun t => decide (t.m ≤ m - 100)).getLast? with
  | none => exact h0
  | some t => exact h t (List.mem_filter.mp (List.mem_of_getLast? e)).1
abbrev s_flung : Stmt := topS 7
theorem sc_flung : FnScope ["touches", "last", "begin", "touch", "dx", "dy"] ["touches"] (defScope s_flung) := ⟨rfl, rfl, rfl, by decide +kernel, rfl, by decide +kernel, by decide +kernel⟩

def sp_flung (K : PySem.W.Frag) : Sp := fun vs H Q _ => ∃ (p : Addr) (xs : List V) (ts : List Tch) (t0 tn : Tch) (G : Hp), vs = [.ref p] ∧ Same G H ∧ SqL K G p xs ∧ DpAll K G xs (ts.map tD) ∧ ts.head? = some t0 ∧ ts.getLast? = some tn ∧ (∀ t ∈ ts, Plc t.x ∧ Plc t.y) ∧ ts.length ≤ 1000 ∧ (∀ t ∈ ts, PyData.strOk t.w = true) ∧
  ∀ v G' H', Grow [] G H G' H' → Dp K G' v (flungT t0 tn ts) → Q v H'
theorem ok_flung (T : Txt mg) (F : FunAt K mg "flung" s_flung) (c_is_beyond : Cal P w K mg base 2 "is_beyond" ["way", "dx", "dy", "slop"] sp_beyond) : Cal P w K mg base 3 "flung" ["touches"] (sp_flung K) := by
  refine cal_of F sc_flung (fun _ _ _ _ _ _ us hl => match us, hl with | [_], _ => rfl) (by rintro vs H Q E ⟨a, b, _, _, _, _, rfl, _⟩; rfl) ?_
  rintro f cdv A outer s H vs Q E hr ⟨p, xs, ts, t0, tn, G, rfl, gh, hp0, hd0, ht0, htn, hpl, hts, htw, k⟩
  have hp := gh.seq hp0
  have hd := sm_dps gh hd0
  refine ⟨_, (pss_cons (ps_set (i := 1) sc_flung.nd (by rfl) (Or.inl rfl) (pe_ix (ix_listK K) (pv 0) (pe_un un_neg pe_int) (fun _ _ => rfl)))
      (pss_cons (ps_set (i := 2) sc_flung.nd (by rfl) (Or.inl rfl) (pe_ix (ix_listK K) (pv 0) pe_int (fun _ _ => rfl)))
      (pss_cons (ps_for PassesOwn.never (by rfl) (pi_listK K (pv 0)) (pg_name (i := 3) sc_flung.nd (by rfl) (Or.inl rfl)) (pss_one (ps_if (pt_cmpR op_le (pe_ix (ix_tupK K) (pv 3) pe_int (fun _ _ => rfl)) (pe_op op_sub (pe_ix (ix_tupK K) (pv 1) pe_int (fun _ _ => rfl)) (pe_globI T.g_AGO (by rfl))) (nomark _)) (pss_one (ps_set (i := 2) sc_flung.nd (by rfl) (Or.inl rfl) (pv 3))) pss_nil)))
      (pss_cons (ps_par (i := 4) (j := 5) (by rfl) sc_flung.nd (by rfl) (by rfl) (by decide) (by rfl) (by rfl) (pa_cons (pe_op op_sub (pe_ix (ix_tupK K) (pv 1) pe_int (fun _ _ => rfl)) (pe_ix (ix_tupK K) (pv 2) pe_int (fun _ _ => rfl))) (pa_cons (pe_op op_sub (pe_ix (ix_tupK K) (pv 1) pe_int (fun _ _ => rfl)) (pe_ix (ix_tupK K) (pv 2) pe_int (fun _ _ => rfl))) pa_nil)) (by rfl))
      (pss_one (ps_ret (pe_ifExp (pt_val (pe_cal c_is_beyond hr (by decide) (pa_cons pe_str (pa_cons (pv 4) (pa_cons (pv 5) (pa_cons (pe_globI T.g_FLUNG (by rfl)) pa_nil))))) (by intro _; rfl)) (pe_tup (pa_cons (pv 4) (pa_cons (pv 5) pa_nil))) pe_non))))))), ?_⟩
  try dsimp only [cxOf, Cx.nox, Cx.wish]
  have hlen := dpa_len hd
  rw [List.length_map] at hlen
  obtain ⟨vn, en, dn⟩ : ∃ vn, xs.getLast? = some vn ∧ Dp K H vn (tD tn) := by
    rw [List.getLast?_eq_getElem?] at htn
    obtain ⟨vn, h1, h2⟩ := dpa_at (i := ts.length - 1) (d := tD tn) hd (by rw [List.getElem?_map, htn]; rfl)
    exact ⟨vn, by rw [List.getLast?_eq_getElem?, hlen]; exact h1, h2⟩
  obtain ⟨v0, e0, d0⟩ : ∃ v0, xs[0]? = some v0 ∧ Dp K H v0 (tD t0) := by
    rw [List.head?_eq_getElem?] at ht0
    exact dpa_at (i := 0) hd (by rw [List.getElem?_map, ht0]; rfl)
  obtain ⟨an, rfl, sn⟩ := tD_iff.mp dn
  obtain ⟨a0, rfl, s0⟩ := tD_iff.mp d0
  walk_at "e"
  refine rd_ixL hp (at_last en) ?_
  walk_at "e"
  refine rd_ixL hp (atI_nat (j := 0) e0) ?_
  walk_at "e"
  refine loopL hp (fun i σ' H' => ∃ v3 ab, σ' = [some (.ref p), some (.ref an), some (.ref ab), v3, none, none] ∧ H' = H ∧ Dp K H (.ref ab) (tD (flBegin t0 tn.m (ts.take i)))) ?_ ?_ ?_ ?_
  · exact ⟨none, a0, rfl, rfl, d0⟩
  · rintro i σ' H' _ ⟨_, _, _, rfl, _⟩
    exact hp
  · rintro i x σ' H' hx ⟨v3, ab, rfl, rfl, db⟩
    obtain ⟨t, et, dt⟩ := dpa_map hd hx
    obtain ⟨at_, rfl, st⟩ := tD_iff.mp dt
    have etk : ts.take (i + 1) = ts.take i ++ [t] := by rw [List.take_add_one, et]; rfl
    walk_at "e"
    refine rd_ite (c := _ ≤ _) (fun h => ?_) (fun h => ?_)
    · walk_at "e"
      refine ⟨_, at_, rfl, rfl, ?_⟩
      rw [etk, flBegin_snoc, if_pos h]
      exact dt
    · walk_at "e"
      refine ⟨_, ab, rfl, rfl, ?_⟩
      rw [etk, flBegin_snoc, if_neg h]
      exact db
  · rintro σ' H' ⟨v3, ab, rfl, rfl, db⟩
    rw [List.take_of_length_le (Nat.le_of_eq hlen.symm)] at db
    obtain ⟨ab', e, sb⟩ := tD_iff.mp db
    cases e
    have pb : Plc (flBegin t0 tn.m ts).x ∧ Plc (flBegin t0 tn.m ts).y := flBegin_P (Pr := fun t => Plc t.x ∧ Plc t.y) (hpl t0 (List.mem_of_mem_head? ht0)) hpl
    have pn := hpl tn (List.mem_of_getLast? htn)
    obtain ⟨pb1, pb2⟩ := pb
    obtain ⟨pn1, pn2⟩ := pn
    walk_at "e"
    refine ⟨_, _, _, _, rfl, by omega, by omega, by omega, ?_⟩
    walk_at "e"
    refine rd_iteB (fun h => ?_) (fun h => ?_)
    · walk_at "e"
      refine rd_newT (Grow.refl (M := []) gh) fun q G1 H1 nq g1 s1 e1 _ => ?_
      walk_at "e"
      refine k _ _ _ g1 ?_
      unfold flungT flungD
      rw [if_pos h]
      exact dp_tup.mpr ⟨q, _, rfl, SqT.of e1, .cons (.int _) (.cons (.int _) .nil)⟩
    · walk_at "e"
      refine k _ _ _ (Grow.refl gh) ?_
      unfold flungT flungD
      rw [if_neg (by rw [h]; decide)]
      exact .non
end
end K08

namespace K08
open PySem PySem.Spec PyProof.Rows L2 B
section
variable {P : Program} {w : World} {K : PySem.W.Frag} {mg : Str → Option Value} {base : Heap}
/-! ### the tape -/
def tapeL (c : Addr) (spot left : Int) : List (Key × V) := [(.inr "cells", .ref c), (.inr "spot", .int spot), (.inr "left", .int left)]
theorem tl_cells (c : Addr) (s l : Int) : valV (tapeL c s l) (.inr "cells") = some (.ref c) := rfl
theorem tl_spot (c : Addr) (s l : Int) : valV (tapeL c s l) (.inr "spot") = some (.int s) := rfl
theorem tl_left (c : Addr) (s l : Int) : valV (tapeL c s l) (.inr "left") = some (.int l) := rfl
theorem tl_putS (c : Addr) (s l s' : Int) : putK (tapeL c s l) (.inr "spot") (.int s') = tapeL c s' l := rfl
theorem tl_putL (c : Addr) (s l l' : Int) : putK (tapeL c s l) (.inr "left") (.int l') = tapeL c s l' := rfl
structure Tape (K : PySem.W.Frag) (G H : Hp) (tp : Addr) (S : Int) : Prop where
  ex : ∃ (c : Addr) (ns : List Int) (spot left : Int), H tp = some (.dK (tapeL c spot left)) ∧ SqL K G c (ns.map V.int) ∧ ns.length ≤ 63 ∧ 0 ≤ spot ∧ spot ≤ S ∧ 0 ≤ left
  no : G tp = none
theorem Tape.grow {K : PySem.W.Frag} {G H G' H' : Hp} {tp : Addr} {S : Int} (t : Tape K G H tp S) (g : Grow [] G H G' H') : Tape K G' H' tp S := by
  obtain ⟨c, ns, spot, left, ht, hc, h⟩ := t.ex
  exact ⟨⟨c, ns, spot, left, g.fr _ _ ht (by simp), g.gg.seq hc, h⟩, g.out _ t.no (by rw [ht]; simp)⟩
theorem Tape.mono {K : PySem.W.Frag} {G H : Hp} {tp : Addr} {S S' : Int} (t : Tape K G H tp S) (h : S ≤ S') : Tape K G H tp S' := by
  obtain ⟨c, ns, spot, left, ht, hc, h1, h2, h3, h4⟩ := t.ex
  exact ⟨⟨c, ns, spot, left, ht, hc, h1, h2, by omega, h4⟩, t.no⟩
theorem Tape.off {K : PySem.W.Frag} {G H : Hp} {tp b : Addr} {S : Int} {xs : List V} (t : Tape K G H tp S) (h : H b = some (.lst xs)) : b ∉ [tp] := fun z => by
  obtain ⟨c, _, _, _, h2, _⟩ := t.ex
  rw [List.mem_singleton.mp z, h2] at h
  cases h
theorem Tape.mut {K : PySem.W.Frag} {G H H' : Hp} {tp b : Addr} {S : Int} {xs : List V} (t : Tape K G H tp S) (h : H b = some (.lst xs)) (g : Grow [b] G H G H') : Tape K G H' tp S := by
  obtain ⟨c, ns, spot, left, ht, h1⟩ := t.ex
  exact ⟨⟨c, ns, spot, left, g.fr _ _ ht (fun z => by rw [List.mem_singleton.mp z, h] at ht; cases ht), h1⟩, t.no⟩
def primes : List Int := [2147483647, 2147483629, 2147483587, 2147483579, 2147483563, 2147483549, 2147483543]
theorem prime_at (i : Int) (h0 : 0 ≤ i) (h : i < 7) : ∃ p : Int, atI (primes.map V.int) i = some (.int p) ∧ 2147483543 ≤ p ∧ p ≤ 2147483647 := by
  obtain ⟨v, h1, h2, _⟩ := at_mod (xs := primes.map V.int) (by decide) h0 (by simpa [primes] using h)
  simp only [primes, List.map_cons, List.map_nil, List.mem_cons, List.not_mem_nil, or_false] at h2
  rcases h2 with rfl | rfl | rfl | rfl | rfl | rfl | rfl <;> exact ⟨_, h1, by decide, by decide⟩
theorem ints_at {ns : List Int} (i : Int) (h : ns ≠ []) (h0 : 0 ≤ i) (h1 : i < ns.length) : ∃ n : Int, atI (ns.map V.int) i = some (.int n) := by
  obtain ⟨v, h2, h3, _⟩ := at_mod (xs := ns.map V.int) (by simpa using h) h0 (by simpa using h1)
  obtain ⟨n, _, rfl⟩ := List.mem_map.mp h3
  exact ⟨n, h2⟩
theorem cpow0 : CPowW 10 6 := by unfold CPowW; decide +kernel
theorem cpow1 : CPowW 10 18 := by unfold CPowW; decide +kernel
theorem cpow2 : CPowW 10 50 := by unfold CPowW; decide +kernel
theorem cpow3 : CPowW (10 ^ (50 : Int).toNat) 60 := by unfold CPowW; decide +kernel
theorem cpow4 : CPowW ((10 ^ (50 : Int).toNat) ^ (60 : Int).toNat) 10 := by unfold CPowW; decide +kernel
theorem bigpos : (0 : Int) < ((10 ^ (50 : Int).toNat) ^ (60 : Int).toNat) ^ (10 : Int).toNat := by decide +kernel
abbrev s__law_draw : Stmt := topS 10
theorem sc__law_draw : FnScope ["_law_tape_here", "_law_many", "_law_found", "_law_spot", "_law_cells", "_law_cell", "_law_great", "_law_primes", "_law_prime", "_law_seed"] ["_law_tape_here", "_law_many"] (defScope s__law_draw) := ⟨rfl, rfl, rfl, by decide +kernel, rfl, by decide +kernel, by decide +kernel⟩

def sp_draw (K : PySem.W.Frag) : Sp := fun vs H Q _ => ∃ (tp : Addr) (many : Int) (G : Hp) (S : Int), vs = [.ref tp, .int many] ∧ Same G H ∧ Tape K G H tp S ∧ S < 1000000 ∧ 1 ≤ many ∧ many ≤ 1000000 ∧
  ∀ r G' H', 0 ≤ r → r < many → Grow [tp] G H G' H' → Tape K G' H' tp (S + 1) → Q (.int r) H'
theorem ok_draw (T : Txt mg) (F : FunAt K mg "_law_draw" s__law_draw) : Cal P w K mg base 1 "_law_draw" ["_law_tape_here", "_law_many"] (sp_draw K) := by
  refine cal_of F sc__law_draw (fun _ _ _ _ _ _ us hl => match us, hl with | [_, _], _ => rfl) (by rintro vs H Q E ⟨a, b, _, _, rfl, _⟩; rfl) ?_
  rintro f cdv A outer s H vs Q E hr ⟨tp, many, G, S, rfl, gh, ⟨⟨c, ns, spot, left, ht, hc, hns, hs0, hsS, hl0⟩, hno⟩, hS, h1, h2, k⟩
  refine ⟨_, (pss_cons (ps_if (pt_cmpR op_gt (pe_dget (hu_of hr) (pv 0) pe_str (fun _ _ => rfl)) pe_int (nomark _)) (pss_cons (ps_set (i := 2) sc__law_draw.nd (by rfl) (Or.inl rfl) (pe_op op_mod (pe_dget (hu_of hr) (pv 0) pe_str (fun _ _ => rfl)) (pv 1)))
      (pss_cons (ps_dput (hu_of hr) (pv 0) pe_str (pe_op op_fdivW (pe_dget (hu_of hr) (pv 0) pe_str (fun _ _ => rfl)) (pv 1)) (by rfl))
      (pss_one (ps_ret (pv 2))))) pss_nil)
      (pss_cons (ps_set (i := 3) sc__law_draw.nd (by rfl) (Or.inl rfl) (pe_dget (hu_of hr) (pv 0) pe_str (fun _ _ => rfl)))
      (pss_cons (ps_dput (hu_of hr) (pv 0) pe_str (pe_op op_add (pv 3) pe_int) (by rfl))
      (Evl.pss_cut (ps_set (i := 4) sc__law_draw.nd (by rfl) (Or.inl rfl) (pe_orTK K (pe_dget (hu_of hr) (pv 0) pe_str (fun _ _ => rfl)) (pe_one (pe_lst (pa_cons pe_int pa_nil)))))
      (pss_cons (ps_set (i := 5) sc__law_draw.nd (by rfl) (Or.inl rfl) (pe_ix (ix_listK K) (pv 4) (pe_op op_mod (pv 3) (pe_callB (cl_lenK K) (by rfl) T.b_len (by decide +kernel) (pa_cons (pv 4) pa_nil))) (fun _ _ => rfl)))
      (Evl.pss_cut (ps_if (PW.pt (pw_and (pt_cmpR op_ge (pv 5) (pe_op op_powW pe_int pe_int) (nomark _)) (pw_and1 (pt_cmpR op_lt (pv 3) (pe_callB (cl_lenK K) (by rfl) T.b_len (by decide +kernel) (pa_cons (pv 4) pa_nil)) (nomark _))))) (pss_cons (ps_set (i := 6) sc__law_draw.nd (by rfl) (Or.inl rfl) (pe_op op_mod (pe_op op_sub (pv 5) (pe_op op_powW pe_int pe_int)) (pe_op op_powW (pe_op op_powW (pe_op op_powW pe_int pe_int) pe_int) pe_int)))
      (pss_cons (ps_dput (hu_of hr) (pv 0) pe_str (pe_op op_fdivW (pv 6) (pv 1)) (by rfl))
      (pss_one (ps_ret (pe_op op_mod (pv 6) (pv 1)))))) pss_nil)
      (pss_cons (ps_set (i := 7) sc__law_draw.nd (by rfl) (Or.inl rfl) (pe_lst (pa_cons pe_int (pa_cons pe_int (pa_cons pe_int (pa_cons pe_int (pa_cons pe_int (pa_cons pe_int (pa_cons pe_int pa_nil)))))))))
      (pss_cons (ps_set (i := 8) sc__law_draw.nd (by rfl) (Or.inl rfl) (pe_ix (ix_listK K) (pv 7) (pe_op op_mod (pv 3) pe_int) (fun _ _ => rfl)))
      (pss_cons (ps_set (i := 9) sc__law_draw.nd (by rfl) (Or.inl rfl) (pe_op op_mod (pe_op op_add (pe_op op_add (pe_op op_add (pe_op op_mul (pe_op op_mod (pv 5) (pv 8)) pe_int) (pe_op op_mul (pe_op op_mul pe_int (pv 3)) (pv 3))) (pe_op op_mul pe_int (pv 3))) pe_int) (pv 8)))
      (pss_cons (ps_set (i := 9) sc__law_draw.nd (by rfl) (Or.inl rfl) (pe_op op_mod (pe_op op_mul (pv 9) (pe_op op_add (pv 9) pe_int)) (pe_ix (ix_listK K) (pv 7) (pe_op op_mod (pe_op op_add (pv 3) pe_int) pe_int) (fun _ _ => rfl))))
      (pss_cons (ps_set (i := 2) sc__law_draw.nd (by rfl) (Or.inl rfl) (pe_op op_fdivW (pe_op op_mod (pe_op op_mul (pv 9) (pv 9)) (pv 8)) pe_int))
      (pss_cons (ps_if (pt_cmpR op_gt (pv 1) (pe_op op_powW pe_int pe_int) (nomark _)) pss_never pss_nil)
      (pss_one (ps_ret (pe_op op_mod (pv 2) (pv 1)))))))))))))))), ?_⟩
  try dsimp only [cxOf, Cx.nox, Cx.wish]
  walk_at "e"
  refine rd_dgetS ht (tl_left ..) ?_
  walk_at "e"
  refine rd_ite (c := _ < _) (fun h => ?_) (fun h => ?_)
  · -- a digit of a great cell
    walk_at "e"
    refine rd_dgetS ht (tl_left ..) ?_
    walk_at "e"
    refine rd_dgetS ht (tl_left ..) ?_
    walk_at "e"
    refine rd_dputS gh hno ht (by show 3 < 1000; decide) (tl_putL ..) fun H1 g1 t1 => ?_
    walk_at "e"
    refine k _ G H1 (Int.emod_nonneg _ (by omega)) (Int.emod_lt_of_pos _ (by omega)) g1 ⟨⟨c, ns, spot, _, t1, hc, hns, hs0, by omega, Int.ediv_nonneg hl0 (by omega)⟩, hno⟩
  walk_at "e"
  refine rd_dgetS ht (tl_spot ..) ?_
  walk_at "e"
  refine rd_dputS gh hno ht (by show 3 < 1000; decide) (tl_putS ..) fun H1 g1 t1 => ?_
  walk_at "e"
  refine Evl.q_cut (M := fun σ' H' => ∃ (c2 : Addr) (ns2 : List Int) (G2 : Hp), σ' = [some (.ref tp), some (.int many), none, some (.int spot), some (.ref c2), none, none, none, none, none] ∧ Grow [tp] G H G2 H' ∧ H' tp = some (.dK (tapeL c (spot + 1) left)) ∧ SqL K G2 c (ns.map V.int) ∧ SqL K G2 c2 (ns2.map V.int) ∧ ns2 ≠ [] ∧ ns2.length ≤ 63) ?_ ?_
  · walk_at "e"
    refine rd_dgetS t1 (tl_cells ..) ?_
    have hc1 : SqL K H1 c (ns.map V.int) := (g1.gg.trans g1.gh).seq hc
    refine rd_tru (tru_list hc1) ?_
    cases hn : ns with
    | cons n r =>
      refine iteT ?_
      walk_at "e"
      exact ⟨c, n :: r, G, rfl, g1, t1, by rw [← hn]; exact hc, by rw [← hn]; exact hc, by simp, by rw [← hn]; exact hns⟩
    | nil =>
      refine iteF ?_
      walk_at "e"
      refine rd_newD g1 fun q G2 H2 nq g2 s2 e2 g12 => ?_
      walk_at "e"
      exact ⟨q, [0], G2, rfl, g2, g12.fr _ _ t1 (by simp), by rw [← hn]; exact s2.seq hc, SqL.of e2, by simp, by simp⟩
  rintro σ' H2 ⟨c2, ns2, G2, rfl, g2, t2, hc2, hx2, hne, hl2⟩
  have hX : SqL K H2 c2 (ns2.map V.int) := g2.gh.seq hx2
  have hl1 : 0 < ns2.length := List.length_pos_iff.mpr hne
  have eln : ((ns2.map V.int).length : Int) = ns2.length := by simp
  walk_at "e"
  rw [eln]
  obtain ⟨cell, hcell⟩ := ints_at (ns := ns2) (spot % ns2.length) hne (Int.emod_nonneg _ (by omega)) (Int.emod_lt_of_pos _ (by omega))
  walk_at "e"
  refine rd_ixL hX hcell ?_
  walk_at "e"
  refine Evl.q_cut (M := fun σ' H' => H' = H2 ∧ σ' = [some (.ref tp), some (.int many), none, some (.int spot), some (.ref c2), some (.int cell), none, none, none, none]) ?_ ?_
  · walk_at "e"
    refine rd_I cpow1 ?_
    walk_at "e"
    refine rd_ite (c := _ ≤ _) (fun h => ?_) (fun h => ?_)
    · walk_at "e"
      rw [eln]
      refine rd_ite (c := _ < _) (fun h => ?_) (fun h => ?_)
      · walk_at "e"
        refine rd_I cpow1 ?_
        walk_at "e"
        refine rd_I cpow2 ?_
        walk_at "e"
        refine rd_I cpow3 ?_
        walk_at "e"
        refine rd_I cpow4 ?_
        refine rd_I bigpos ?_
        walk_at "e"
        refine rd_dputS g2.gh (g2.out _ hno (by rw [ht]; simp)) t2 (by show 3 < 1000; decide) (tl_putL ..) fun H3 g3 t3 => ?_
        walk_at "e"
        refine k _ G2 H3 (Int.emod_nonneg _ (by omega)) (Int.emod_lt_of_pos _ (by omega)) (g2.transM g3) ⟨⟨c, ns, _, _, t3, hc2, hns, by omega, by omega, Int.ediv_nonneg (Int.emod_nonneg _ (Int.ne_of_gt bigpos)) (by omega)⟩, g2.out _ hno (by rw [ht]; simp)⟩
      · walk_at "e"
        exact ⟨rfl, rfl⟩
    · walk_at "e"
      exact ⟨rfl, rfl⟩
  rintro σ' H' ⟨rfl, rfl⟩
  walk_at "e"
  refine rd_newD g2 fun pl G3 H3 n3 g3 s3 e3 g23 => ?_
  obtain ⟨pr, hpr, hp1, hp2⟩ := prime_at (spot % 7) (by omega) (by omega)
  obtain ⟨pr2, hpr2, hp3, hp4⟩ := prime_at ((spot + 3) % 7) (by omega) (by omega)
  have hP : SqL K H3 pl (primes.map V.int) := SqL.of (g3.gh _ _ e3)
  walk_at "e"
  refine rd_ixL hP hpr ?_
  have b1 := Int.emod_nonneg cell (show pr ≠ 0 by omega)
  have b2 := Int.emod_lt_of_pos cell (show 0 < pr by omega)
  walk_at "e"
  generalize hsd : (cell % pr * 48271 + 7919 * spot * spot + 69621 * spot + 1) % pr = sd
  have b3 : 0 ≤ sd := by rw [← hsd]; exact Int.emod_nonneg _ (by omega)
  have b4 : sd < pr := by rw [← hsd]; exact Int.emod_lt_of_pos _ (by omega)
  walk_at "e"
  refine rd_ixL hP hpr2 ?_
  walk_at "e"
  generalize hsd2 : sd * (sd + 16807) % pr2 = se
  have b5 : 0 ≤ se := by rw [← hsd2]; exact Int.emod_nonneg _ (by omega)
  have b6 : se < pr2 := by rw [← hsd2]; exact Int.emod_lt_of_pos _ (by omega)
  walk_at "e"
  refine rd_I cpow0 ?_
  have e6 : (10 : Int) ^ (6 : Int).toNat = 1000000 := by decide
  rw [e6]
  walk_at "e"
  refine rd_ite (c := _ < _) (fun h => absurd h (by omega)) (fun h => ?_)
  walk_at "e"
  exact k _ G3 H3 (Int.emod_nonneg _ (by omega)) (Int.emod_lt_of_pos _ (by omega)) g3 ⟨⟨c, ns, _, _, g23.fr _ _ t2 (by simp), s3.seq hc2, hns, by omega, by omega, hl0⟩, g3.out _ hno (by rw [ht]; simp)⟩
abbrev s__law_tape : Stmt := topS 9
theorem sc__law_tape : FnScope ["_law_script"] ["_law_script"] (defScope s__law_tape) := ⟨rfl, rfl, rfl, by decide +kernel, rfl, by decide +kernel, by decide +kernel⟩

def sp_tape (K : PySem.W.Frag) : Sp := fun vs H Q _ => ∃ (a : Addr) (ns : List Int) (G : Hp), vs = [.ref a] ∧ Same G H ∧ SqL K G a (ns.map V.int) ∧ ns.length ≤ 63 ∧
  ∀ tp G' H', H tp = none → Grow [] G H G' H' → Tape K G' H' tp 0 → Q (.ref tp) H'
theorem ok_tape (F : FunAt K mg "_law_tape" s__law_tape) : Cal P w K mg base 1 "_law_tape" ["_law_script"] (sp_tape K) := by
  refine cal_of F sc__law_tape (fun _ _ _ _ _ _ us hl => match us, hl with | [_], _ => rfl) (by rintro vs H Q E ⟨a, b, _, rfl, _⟩; rfl) ?_
  rintro f cdv A outer s H vs Q E hr ⟨a, ns, G, rfl, gh, ha, hn, k⟩
  refine ⟨_, (pss_one (ps_ret (pe_disp (pps_cons pe_str (pe_slice (sl_listK K) (pv 0) po_none (po_some pe_int)) (pps_cons pe_str pe_int (pps_cons pe_str pe_int pps_nil))) (by rfl) (by rfl) (fun z => by cases z) (by decide)))), ?_⟩
  try dsimp only [cxOf, Cx.nox, Cx.wish]
  walk_at "e"
  refine rd_dispC (Grow.refl (M := []) gh) fun tp H1 n1 g1 e1 _ => ?_
  have ha1 : SqL K H1 a (ns.map V.int) := (g1.gg.trans g1.gh).seq ha
  walk_at "e"
  refine rd_slL g1 ha1 fun c G2 H2 n2 g2 s2 e2 g12 => ?_
  walk_at "e"
  have nt : G tp = none := gh.free n1
  refine dispEnd (tapeL c 0 0) g2 (g12.fr _ _ e1 (by simp)) (g12.out _ nt (by rw [e1]; simp)) n1 rfl (Nat.le_of_ble_eq_true rfl) (by show ([.inr "cells", .inr "spot", .inr "left"] : List Key).Nodup; decide +kernel) fun H3 g3 e3 g23 => ?_
  walk_at "e"
  refine k tp G2 H3 n1 g3 ⟨⟨c, ns, 0, 0, e3, ?_, hn, by decide, by decide, by decide⟩, g12.out _ nt (by rw [e1]; simp)⟩
  rw [show (63 : Int) = ((63 : Nat) : Int) from rfl, cut_take, List.take_of_length_le (by simpa using hn)] at e2
  exact SqL.of e2
end
end K08

namespace K08
open PySem PySem.Spec PyProof.Rows L2 B
section
variable {P : Program} {w : World} {K : PySem.W.Frag} {mg : Str → Option Value} {base : Heap}
theorem sq2 (x : Int) : x ^ (2 : Int).toNat = x * x := by
  rw [show (2 : Int).toNat = 2 from rfl, Int.pow_succ, Int.pow_succ, Int.pow_zero, Int.one_mul]
theorem sign_at {r : Int} (h0 : 0 ≤ r) (h : r < 2) : ∃ s : Int, (s = 1 ∨ s = -1) ∧ atI [V.int 1, V.int (-1)] r = some (.int s) := by
  obtain ⟨v, h1, h2, _⟩ := at_mod (xs := [V.int 1, V.int (-1)]) (by simp) h0 (by simpa using h)
  simp only [List.mem_cons, List.not_mem_nil, or_false] at h2
  rcases h2 with rfl | rfl
  · exact ⟨1, .inl rfl, h1⟩
  · exact ⟨-1, .inr rfl, h1⟩
theorem most_at {r : Int} (h0 : 0 ≤ r) (h : r < 4) : ∃ s : Int, (3 ≤ s ∧ s ≤ 20000) ∧ atI [V.int 3, V.int 30, V.int 400, V.int 20000] r = some (.int s) := by
  obtain ⟨v, h1, h2, _⟩ := at_mod (xs := [V.int 3, V.int 30, V.int 400, V.int 20000]) (by simp) h0 (by simpa using h)
  simp only [List.mem_cons, List.not_mem_nil, or_false] at h2
  rcases h2 with rfl | rfl | rfl | rfl <;> exact ⟨_, by decide, h1⟩
abbrev s__law_near : Stmt := topS 11
theorem sc__law_near : FnScope ["_law_tape_here", "_law_number"] ["_law_tape_here", "_law_number"] (defScope s__law_near) := ⟨rfl, rfl, rfl, by decide +kernel, rfl, by decide +kernel, by decide +kernel⟩

def sp_near (K : PySem.W.Frag) : Sp := fun vs H Q _ => ∃ (tp : Addr) (n : Int) (G : Hp) (S : Int), vs = [.ref tp, .int n] ∧ Same G H ∧ Tape K G H tp S ∧ S < 900000 ∧ 0 ≤ n ∧ n ≤ 10000 ∧
  ∀ r G' H', -10002 ≤ r → r ≤ 10002 → Grow [tp] G H G' H' → Tape K G' H' tp (S + 2) → Q (.int r) H'
theorem ok_near (F : FunAt K mg "_law_near" s__law_near) (c__law_draw : Cal P w K mg base 1 "_law_draw" ["_law_tape_here", "_law_many"] (sp_draw K)) : Cal P w K mg base 2 "_law_near" ["_law_tape_here", "_law_number"] (sp_near K) := by
  refine cal_of F sc__law_near (fun _ _ _ _ _ _ us hl => match us, hl with | [_, _], _ => rfl) (by rintro vs H Q E ⟨a, b, _, _, rfl, _⟩; rfl) ?_
  rintro f cdv A outer s H vs Q E hr ⟨tp, n, G, S, rfl, gh, ht, hS, h1, h2, k⟩
  refine ⟨_, (pss_one (ps_ret (pe_op op_mul (pe_op op_sub (pe_op op_add (pv 1) (pe_cal c__law_draw hr (by decide) (pa_cons (pv 0) (pa_cons pe_int pa_nil)))) pe_int) (pe_ix (ix_listK K) (pe_lst (pa_cons pe_int (pa_cons (pe_un un_neg pe_int) pa_nil))) (pe_cal c__law_draw hr (by decide) (pa_cons (pv 0) (pa_cons pe_int pa_nil))) (fun _ _ => rfl))))), ?_⟩
  try dsimp only [cxOf, Cx.nox, Cx.wish]
  walk_at "e"
  refine ⟨tp, 3, G, S, rfl, gh, ht, by omega, by decide, by decide, fun r G1 H1 r0 r1 g1 t1 => ?_⟩
  walk_at "e"
  refine rd_newD g1 fun pl G2 H2 n2 g2 s2 e2 g12 => ?_
  walk_at "e"
  refine ⟨tp, 2, G2, S + 1, rfl, g2.gh, t1.grow g12, by omega, by decide, by decide, fun r2 G3 H3 r20 r21 g3 t3 => ?_⟩
  walk_at "e"
  obtain ⟨sg, hsg, hat⟩ := sign_at r20 r21
  refine rd_ixL (SqL.of (g3.gh _ _ (g3.gg _ _ e2))) hat ?_
  walk_at "e"
  refine k _ G3 H3 ?_ ?_ (g2.transM g3) (by rw [show S + 2 = S + 1 + 1 by omega]; exact t3)
  · rcases hsg with rfl | rfl <;> omega
  · rcases hsg with rfl | rfl <;> omega
abbrev s__law_two : Stmt := topS 12
theorem sc__law_two : FnScope ["_law_tape_here", "_law_most"] ["_law_tape_here"] (defScope s__law_two) := ⟨rfl, rfl, rfl, by decide +kernel, rfl, by decide +kernel, by decide +kernel⟩

abbrev Two (a : Int) : Prop := -20000 ≤ a ∧ a ≤ 20000
def sp_two (K : PySem.W.Frag) : Sp := fun vs H Q _ => ∃ (tp : Addr) (G : Hp) (S : Int), vs = [.ref tp] ∧ Same G H ∧ Tape K G H tp S ∧ S < 900000 ∧
  ∀ p x y G' H', Two x → Two y → Grow [tp] G H G' H' → SqT K G' p [.int x, .int y] → Tape K G' H' tp (S + 3) → Q (.ref p) H'
theorem ok_two (F : FunAt K mg "_law_two" s__law_two) (c__law_draw : Cal P w K mg base 1 "_law_draw" ["_law_tape_here", "_law_many"] (sp_draw K)) : Cal P w K mg base 2 "_law_two" ["_law_tape_here"] (sp_two K) := by
  refine cal_of F sc__law_two (fun _ _ _ _ _ _ us hl => match us, hl with | [_], _ => rfl) (by rintro vs H Q E ⟨a, b, _, rfl, _⟩; rfl) ?_
  rintro f cdv A outer s H vs Q E hr ⟨tp, G, S, rfl, gh, ht, hS, k⟩
  refine ⟨_, (pss_cons (ps_set (i := 1) sc__law_two.nd (by rfl) (Or.inl rfl) (pe_ix (ix_listK K) (pe_lst (pa_cons pe_int (pa_cons pe_int (pa_cons pe_int (pa_cons pe_int pa_nil))))) (pe_cal c__law_draw hr (by decide) (pa_cons (pv 0) (pa_cons pe_int pa_nil))) (fun _ _ => rfl)))
      (pss_one (ps_ret (pe_tup (pa_cons (pe_op op_sub (pe_cal c__law_draw hr (by decide) (pa_cons (pv 0) (pa_cons (pe_op op_add (pe_op op_mul pe_int (pv 1)) pe_int) pa_nil))) (pv 1)) (pa_cons (pe_op op_sub (pe_cal c__law_draw hr (by decide) (pa_cons (pv 0) (pa_cons (pe_op op_add (pe_op op_mul pe_int (pv 1)) pe_int) pa_nil))) (pv 1)) pa_nil)))))), ?_⟩
  try dsimp only [cxOf, Cx.nox, Cx.wish]
  walk_at "e"
  refine rd_newD (Grow.refl (M := [tp]) gh) fun pl G1 H1 n1 g1 s1 e1 g01 => ?_
  walk_at "e"
  refine ⟨tp, 4, G1, S, rfl, g1.gh, ht.grow g01, by omega, by decide, by decide, fun r2 G2 H2 r20 r21 g2 t2 => ?_⟩
  walk_at "e"
  obtain ⟨most, hm, hat⟩ := most_at r20 r21
  refine rd_ixL (SqL.of (g2.gh _ _ (g2.gg _ _ e1))) hat ?_
  walk_at "e"
  refine ⟨tp, _, G2, S + 1, rfl, g2.gh, t2, by omega, by omega, by omega, fun r3 G3 H3 r30 r31 g3 t3 => ?_⟩
  walk_at "e"
  refine ⟨tp, _, G3, S + 1 + 1, rfl, g3.gh, t3, by omega, by omega, by omega, fun r4 G4 H4 r40 r41 g4 t4 => ?_⟩
  walk_at "e"
  refine rd_newT ((g1.transM g2).transM g3 |>.transM g4) fun p G5 H5 n5 g5 s5 e5 g45 => ?_
  walk_at "e"
  exact k p _ _ G5 H5 ⟨by omega, by omega⟩ ⟨by omega, by omega⟩ g5 (SqT.of e5) (by rw [show S + 3 = S + 1 + 1 + 1 by omega]; exact t4.grow g45)
abbrev s__law_flung : Stmt := topS 13
theorem sc__law_flung : FnScope ["_law_touches", "_law_up", "_law_early", "_law_begin", "_law_dx", "_law_dy", "_law_one"] ["_law_touches"] (defScope s__law_flung) := ⟨rfl, rfl, rfl, by decide +kernel, rfl, by decide +kernel, by decide +kernel⟩

theorem ok_lflung (T : Txt mg) (F : FunAt K mg "_law_flung" s__law_flung) : Cal P w K mg base 1 "_law_flung" ["_law_touches"] (sp_flung K) := by
  refine cal_of F sc__law_flung (fun _ _ _ _ _ _ us hl => match us, hl with | [_], _ => rfl) (by rintro vs H Q E ⟨a, b, _, _, _, _, rfl, _⟩; rfl) ?_
  rintro f cdv A outer s H vs Q E hr ⟨p, xs, ts, t0, tn, G, rfl, gh, hp0, hd0, ht0, htn, hpl, hts, htw, k⟩
  have hp := gh.seq hp0
  have hlen := dpa_len hd0
  rw [List.length_map] at hlen
  refine ⟨_, (pss_cons (ps_set (i := 1) sc__law_flung.nd (by rfl) (Or.inr rfl) (pe_ix (ix_listK K) (pv 0) (pe_un un_neg pe_int) (fun _ _ => rfl)))
      (pss_cons (ps_setLc (i := 2) (own := [("_law_one", 6)]) (by rfl) sc__law_flung.nd (by rfl) (by rfl) (sw_true (by rfl) (by rfl) (by rfl) (by decide +kernel)) (pi_listK K (pv 0)) (blkOk_by (N := ["_law_touches", "_law_up", "_law_early", "_law_begin", "_law_dx", "_law_dy", "_law_one"]) (sc := defScope s__law_flung) (by decide +kernel)) (fun _ _ _ _ _ => (pg_name (i := 6) sc__law_flung.nd (by rfl) (Or.inl rfl))) (fun _ _ _ _ _ => (pts_one (pt_cmpR op_le (pe_op op_add (pe_ix (ix_tupK K) (pv 6) pe_int (fun _ _ => rfl)) pe_int) (pe_ix (ix_tupK K) (pv 1) pe_int (fun _ _ => rfl)) (nomark _)))) (fun _ _ _ _ _ => (pv 6)))
      (Evl.pss_cut (ps_set (i := 3) sc__law_flung.nd (by rfl) (Or.inl rfl) (pe_ifExp (pt_cmpR (op_neDK K hr.units) (pv 2) (pe_lst pa_nil) (nomark _)) (pe_ix (ix_listK K) (pe_orTK K (pv 2) (pe_one (pv 0))) (pe_un un_neg pe_int) (fun _ _ => rfl)) (pe_ix (ix_listK K) (pv 0) pe_int (fun _ _ => rfl))))
      (pss_cons (ps_par (i := 4) (j := 5) (by rfl) sc__law_flung.nd (by rfl) (by rfl) (by decide) (by rfl) (by rfl) (pa_cons (pe_op op_sub (pe_ix (ix_tupK K) (pv 1) pe_int (fun _ _ => rfl)) (pe_ix (ix_tupK K) (pv 3) pe_int (fun _ _ => rfl))) (pa_cons (pe_op op_sub (pe_ix (ix_tupK K) (pv 1) pe_int (fun _ _ => rfl)) (pe_ix (ix_tupK K) (pv 3) pe_int (fun _ _ => rfl))) pa_nil)) (by rfl))
      (pss_one (ps_ret (pe_ifExp (pt_cmpR op_gt (pe_op op_add (pe_op op_pow (pv 4) pe_int) (pe_op op_pow (pv 5) pe_int)) pe_int (nomark _)) (pe_tup (pa_cons (pv 4) (pa_cons (pv 5) pa_nil))) pe_non))))))), ?_⟩
  try dsimp only [cxOf, Cx.nox, Cx.wish]
  obtain ⟨vn, en, dn⟩ : ∃ vn, xs.getLast? = some vn ∧ Dp K G vn (tD tn) := by
    rw [List.getLast?_eq_getElem?] at htn
    obtain ⟨vn, h1, h2⟩ := dpa_at (i := ts.length - 1) (d := tD tn) hd0 (by rw [List.getElem?_map, htn]; rfl)
    exact ⟨vn, by rw [List.getLast?_eq_getElem?, hlen]; exact h1, h2⟩
  obtain ⟨an, rfl, sn⟩ := tD_iff.mp dn
  walk_at "e"
  refine rd_ixL hp (at_last en) ?_
  walk_at "e"
  refine lcL_ok (Grow.refl (M := []) gh) (by simp) (fun _ _ => True) (fun i ds => ds = ((ts.take i).filter fun t => decide (t.m ≤ tn.m - 100)).map tD) (fun i Hi sg _ => sg.seq hp0) (by omega) trivial (by simp) (fun _ _ _ _ _ => trivial) ?_ ?_
  · rintro i x Gi Hi ds hx gi _ rfl NT NF kT kF
    obtain ⟨t, et, dt⟩ := dpa_map hd0 hx
    obtain ⟨at_, rfl, st⟩ := tD_iff.mp (sm_dp gi.gg dt)
    have st' := sm_t gi.gh st
    have sn' := sm_t (gi.gg.trans gi.gh) sn
    have etk : ts.take (i + 1) = ts.take i ++ [t] := by rw [List.take_add_one, et]; rfl
    walk_at "e"
    refine ⟨rfl, ?_⟩
    walk_at "e"
    refine rd_ite (c := _ ≤ _) (fun h => ?_) (fun h => ?_)
    · walk_at "e"
      refine kT _ Gi Hi (tD t) (Grow.refl gi.gh) (tD_iff.mpr ⟨at_, rfl, st⟩) trivial ?_
      rw [etk, List.filter_append]
      simp [show t.m ≤ tn.m - 100 by omega]
    · refine kF Gi Hi (Grow.refl gi.gh) trivial ?_
      rw [etk, List.filter_append]
      simp [show ¬ t.m ≤ tn.m - 100 by omega]
  · rintro D G1 H1 ys ds nD _ g1 eD nGD dD _ rfl
    rw [hlen, List.take_length] at dD
    walk_at "e"
    have g1f := g1.frozen nGD nD eD
    have dDf : Dp K (upd G1 D (.lst ys)) (.ref D) (.list ((ts.filter fun t => decide (t.m ≤ tn.m - 100)).map tD)) := dp_lst.mpr ⟨D, ys, rfl, SqL.of upd_same, sm_dps (sm_new nGD) dD⟩
    generalize upd G1 D (.lst ys) = G2 at g1f dDf
    have hp1 : SqL K G2 p xs := g1f.gg.seq hp0
    refine Evl.q_cut (M := fun σ' H' => ∃ (ab : Addr) (G3 : Hp), σ' = [some (.ref p), some (.ref an), some (.ref D), some (.ref ab), none, none, none] ∧ Grow [] G H G3 H' ∧ Dp K G3 (.ref ab) (tD (flBegin t0 tn.m ts))) ?_ ?_
    · walk_at "e"
      refine rd_newD g1f fun q G3 H3 nq g3 s3 e3 g13 => ?_
      have dD3 := sm_dp s3 dDf
      obtain ⟨_, ys', e, hys, dys⟩ := dp_lst.mp dD3
      cases e
      refine rd_neD (sm_dp g3.gh dD3) (dp_lst.mpr ⟨q, [], rfl, SqL.of (g3.gh _ _ e3), .nil⟩) (n := 2) (m := 2) (shp_lst (map_all fun t ht => tD_shp (htw t (List.mem_filter.mp ht).1))) (shp_lst (by simp)) ?_
      walk_at "e"
      cases hc : ts.filter fun t => decide (t.m ≤ tn.m - 100) with
      | nil =>
        rw [hc] at dys
        cases dys
        have eb : flBegin t0 tn.m ts = t0 := by unfold flBegin; rw [hc]; rfl
        refine iteF ?_
        obtain ⟨v0, e0, d0⟩ : ∃ v0, xs[0]? = some v0 ∧ Dp K G v0 (tD t0) := by
          rw [List.head?_eq_getElem?] at ht0
          exact dpa_at (i := 0) hd0 (by rw [List.getElem?_map, ht0]; rfl)
        obtain ⟨a0, rfl, s0⟩ := tD_iff.mp d0
        walk_at "e"
        refine rd_ixL ((s3.trans g3.gh).seq hp1) (atI_nat (j := 0) e0) ?_
        walk_at "e"
        exact ⟨a0, G3, rfl, g3, by rw [eb]; exact sm_dp g3.gg d0⟩
      | cons t r =>
        rw [hc] at dys
        have hne : ys' ≠ [] := by intro z; subst z; cases dys
        refine iteT ?_
        walk_at "e"
        have hL := g3.gh.seq hys
        refine rd_tru (tru_list hL) ?_
        rw [show (!ys'.isEmpty) = true by cases ys' with | nil => exact absurd rfl hne | cons _ _ => rfl]
        refine iteT ?_
        obtain ⟨vb, evb, dvb⟩ : ∃ vb, ys'.getLast? = some vb ∧ Dp K G3 vb (tD (flBegin t0 tn.m ts)) := by
          obtain ⟨vb, h1⟩ : ∃ vb, ys'.getLast? = some vb := ⟨_, List.getLast?_eq_getLast hne⟩
          have h2 := h1
          rw [List.getLast?_eq_getElem?] at h2
          obtain ⟨d, h3, h4⟩ := dpa_get dys h2
          rw [dpa_len dys, List.getElem?_map, List.length_map, ← List.getLast?_eq_getElem?] at h3
          have eb : (t :: r).getLast? = some (flBegin t0 tn.m ts) := by
            unfold flBegin
            rw [hc, List.getLast?_eq_getLast (List.cons_ne_nil t r)]
            rfl
          rw [eb] at h3
          cases h3
          exact ⟨vb, h1, h4⟩
        obtain ⟨ab, rfl, sb⟩ := tD_iff.mp dvb
        walk_at "e"
        refine rd_ixL hL (at_last evb) ?_
        walk_at "e"
        exact ⟨ab, G3, rfl, g3, dvb⟩
    rintro σ' H2 ⟨ab, G3, rfl, g3, db⟩
    obtain ⟨ab', e, sb⟩ := tD_iff.mp (sm_dp g3.gh db)
    cases e
    have sn3 := sm_t (g3.gg.trans g3.gh) sn
    obtain ⟨⟨pb1, pb2⟩, ⟨pb3, pb4⟩⟩ : Plc (flBegin t0 tn.m ts).x ∧ Plc (flBegin t0 tn.m ts).y := flBegin_P (Pr := fun t => Plc t.x ∧ Plc t.y) (hpl t0 (List.mem_of_mem_head? ht0)) hpl
    obtain ⟨⟨pn1, pn2⟩, ⟨pn3, pn4⟩⟩ := hpl tn (List.mem_of_getLast? htn)
    walk_at "e"
    have eb : ∀ dx dy : Int, beyond "any" dx dy 50 = decide (2500 < dx * dx + dy * dy) := fun dx dy => by
      unfold beyond
      rw [if_neg (by decide), if_neg (by decide)]
      rfl
    unfold flungT flungD at k
    rw [eb] at k
    rw [sq2, sq2]
    refine rd_ite (c := _ < _) (fun h => ?_) (fun h => ?_)
    · rw [decide_eq_true h, if_pos rfl] at k
      walk_at "e"
      refine rd_newT g3 fun q G4 H4 nq g4 s4 e4 _ => ?_
      walk_at "e"
      exact k _ _ _ g4 (dp_tup.mpr ⟨q, _, rfl, SqT.of e4, .cons (.int _) (.cons (.int _) .nil)⟩)
    · rw [decide_eq_false h, if_neg Bool.false_ne_true] at k
      walk_at "e"
      exact k _ _ _ g3 .non
end
end K08

namespace K08
open PySem PySem.Spec PyProof.Rows L2 B
section
variable {P : Program} {w : World} {K : PySem.W.Frag} {mg : Str → Option Value} {base : Heap}
abbrev s__law_stroke : Stmt := topS 14
theorem sc__law_stroke : FnScope ["_law_tape_here", "_law_moment", "_law_found", "_law_many", "_law_k", "_law_word"] ["_law_tape_here"] (defScope s__law_stroke) := ⟨rfl, rfl, rfl, by decide +kernel, rfl, by decide +kernel, by decide +kernel⟩

def StkOk (ts : List Tch) : Prop := ∀ t ∈ ts, (0 ≤ t.x ∧ t.x ≤ 100 ∧ 0 ≤ t.y ∧ t.y ≤ 100) ∧ PyData.strOk t.w = true
def sp_stroke (K : PySem.W.Frag) : Sp := fun vs H Q _ => ∃ (tp : Addr) (G : Hp) (S : Int), vs = [.ref tp] ∧ Same G H ∧ Tape K G H tp S ∧ S < 800000 ∧
  ∀ p xs ts G' H', Grow [tp] G H G' H' → G' p = some (.lst xs) → DpAll K G' xs (ts.map tD) → StkOk ts → 0 < ts.length → ts.length ≤ 100 → Tape K G' H' tp (S + 200) → Q (.ref p) H'
theorem ok_stroke (T : Txt mg) (F : FunAt K mg "_law_stroke" s__law_stroke) (c__law_draw : Cal P w K mg base 1 "_law_draw" ["_law_tape_here", "_law_many"] (sp_draw K)) : Cal P w K mg base 2 "_law_stroke" ["_law_tape_here"] (sp_stroke K) := by
  refine cal_of F sc__law_stroke (fun _ _ _ _ _ _ us hl => match us, hl with | [_], _ => rfl) (by rintro vs H Q E ⟨a, b, _, rfl, _⟩; rfl) ?_
  rintro f cdv A outer s H vs Q E hr ⟨tp, G, S, rfl, gh, ht, hS, k⟩
  refine ⟨_, (pss_cons (ps_set (i := 1) sc__law_stroke.nd (by rfl) (Or.inl rfl) (pe_cal c__law_draw hr (by decide) (pa_cons (pv 0) (pa_cons pe_int pa_nil))))
      (pss_cons (ps_set (i := 2) sc__law_stroke.nd (by rfl) (Or.inl rfl) (pe_lst pa_nil))
      (pss_cons (ps_set (i := 3) sc__law_stroke.nd (by rfl) (Or.inl rfl) (pe_op op_add pe_int (pe_cal c__law_draw hr (by decide) (pa_cons (pv 0) (pa_cons pe_int pa_nil)))))
      (pss_cons (ps_for PassesOwn.never (by rfl) (pi_range1 (by rfl) T.b_range (pa_cons (pv 3) pa_nil)) (pg_name (i := 4) sc__law_stroke.nd (by rfl) (Or.inl rfl)) (Evl.pss_cut (ps_set (i := 5) sc__law_stroke.nd (by rfl) (Or.inl rfl) (pe_ifExp (pt_cmpR op_eq (pv 4) pe_int (nomark _)) pe_str (pe_ifExp (pt_cmpR op_eq (pv 4) (pe_op op_sub (pv 3) pe_int) (nomark _)) pe_str pe_str)))
      (pss_cons (ps_expr (pe_bmK K PySem.F.plainAttrs_list PySem.F.slot_list_append PySem.F.type_list_append mt_append (pv 2) (pa_cons (pe_tup (pa_cons (pv 1) (pa_cons pe_int (pa_cons (pv 5) (pa_cons (pe_cal c__law_draw hr (by decide) (pa_cons (pv 0) (pa_cons pe_int pa_nil))) (pa_cons (pe_ix (ix_listK K) (pe_lst (pa_cons pe_int (pa_cons pe_int (pa_cons pe_int (pa_cons pe_int (pa_cons (pe_cal c__law_draw hr (by decide) (pa_cons (pv 0) (pa_cons pe_int pa_nil))) pa_nil)))))) (pe_cal c__law_draw hr (by decide) (pa_cons (pv 0) (pa_cons pe_int pa_nil))) (fun _ _ => rfl)) pa_nil)))))) pa_nil)))
      (pss_one (ps_set (i := 1) sc__law_stroke.nd (by rfl) (Or.inl rfl) (pe_op op_add (pv 1) (pe_ix (ix_listK K) (pe_lst (pa_cons pe_int (pa_cons pe_int (pa_cons pe_int (pa_cons pe_int (pa_cons pe_int (pa_cons pe_int (pa_cons (pe_cal c__law_draw hr (by decide) (pa_cons (pv 0) (pa_cons pe_int pa_nil))) pa_nil)))))))) (pe_cal c__law_draw hr (by decide) (pa_cons (pv 0) (pa_cons pe_int pa_nil))) (fun _ _ => rfl))))))))
      (pss_one (ps_ret (pv 2))))))), ?_⟩
  walk_at "e"
  refine ⟨tp, 1000, G, S, rfl, gh, ht, by omega, by decide, by decide, fun mo G1 H1 m0 m1 g1 t1 => ?_⟩
  walk_at "e"
  refine rd_newC g1 fun fo H2 nfo g2 efo g12 => ?_
  walk_at "e"
  have t2 := t1.grow g12
  have nG : G1 fo = none := g1.gh.free nfo
  have n0 : H fo = none := g1.none0 nfo
  refine ⟨tp, 19, G1, S + 1, rfl, g2.gh, t2, by omega, by decide, by decide, fun mn G3 H3 m2 m3 g3 t3 => ?_⟩
  walk_at "e"
  have efo3 : H3 fo = some (.lst []) := g3.fr _ _ efo (t2.off efo)
  have nG3 : G3 fo = none := g3.out _ nG (by rw [efo]; simp)
  refine loopR1 ⟨by omega, by omega⟩ (fun i σ' H' => ∃ (mo : Int) (k' word : Option V) (G' : Hp) (xs : List V) (ts : List Tch), σ' = [some (.ref tp), some (.int mo), some (.ref fo), some (.int (2 + mn)), k', word] ∧ Grow [tp] G H G' H' ∧ H' fo = some (.lst xs) ∧ G' fo = none ∧ DpAll K G' xs (ts.map tD) ∧ StkOk ts ∧ ts.length = i ∧ Tape K G' H' tp (S + 2 + 5 * i)) ?_ ?_ ?_
  · exact ⟨mo, none, none, G3, [], [], rfl, g2.transM g3, efo3, nG3, .nil, (fun _ h => nomatch h), rfl, t3.mono (by omega)⟩
  · rintro i σ' H' hi ⟨mo, k', word, G', xs, ts, rfl, g', e', ng', d', so, hl, t'⟩
    walk_at "e"
    refine Evl.q_cut (M := fun σ2 H2 => ∃ wd : Str, σ2 = [some (.ref tp), some (.int mo), some (.ref fo), some (.int (2 + mn)), some (.int i), some (.str wd)] ∧ H2 = H' ∧ PyData.strOk wd = true) ?_ ?_
    · walk_at "e"
      refine rd_ite (c := _ = _) (fun h => ?_) (fun h => ?_)
      · walk_at "e"
        exact ⟨_, rfl, rfl, by decide +kernel⟩
      · walk_at "e"
        refine rd_ite (c := _ = _) (fun h => ?_) (fun h => ?_)
        · walk_at "e"
          exact ⟨_, rfl, rfl, by decide +kernel⟩
        · walk_at "e"
          exact ⟨_, rfl, rfl, by decide +kernel⟩
    rintro σ2 H2 ⟨wd, rfl, rfl, hwd⟩
    walk_at "e"
    refine ⟨tp, 80, G', _, rfl, g'.gh, t', by omega, by decide, by decide, fun xx G4 H4 x0 x1 g4 t4 => ?_⟩
    walk_at "e"
    have e4 := g4.fr _ _ e' (t'.off e')
    have n4 := g4.out _ ng' (by rw [e']; simp)
    refine ⟨tp, 90, G4, _, rfl, g4.gh, t4, by omega, by decide, by decide, fun yy G5 H5 y0 y1 g5 t5 => ?_⟩
    have e5 := g5.fr _ _ e4 (t4.off e4)
    have n5 := g5.out _ n4 (by rw [e4]; simp)
    walk_at "e"
    refine rd_newD ((g'.transM g4).transM g5) fun pl G6 H6 n6 g6 s6 e6 g56 => ?_
    have e6' := g56.fr _ _ e5 (by simp)
    have n6' := g56.out _ n5 (by rw [e5]; simp)
    walk_at "e"
    refine ⟨tp, 5, G6, _, rfl, g6.gh, t5.grow g56, by omega, by decide, by decide, fun r5 G7 H7 r50 r51 g7 t7 => ?_⟩
    have e7 := g7.fr _ _ e6' ((t5.grow g56).off e6')
    have n7 := g7.out _ n6' (by rw [e6']; simp)
    obtain ⟨yv, hyv, hyat⟩ : ∃ yv : Int, (0 ≤ yv ∧ yv ≤ 90) ∧ atI [V.int 30, V.int 40, V.int 50, V.int 51, V.int yy] r5 = some (.int yv) := by
      obtain ⟨v, h1, h2, _⟩ := at_mod (xs := [V.int 30, V.int 40, V.int 50, V.int 51, V.int yy]) (by simp) r50 (by simpa using r51)
      simp only [List.mem_cons, List.not_mem_nil, or_false] at h2
      rcases h2 with rfl | rfl | rfl | rfl | rfl <;> exact ⟨_, by omega, h1⟩
    walk_at "e"
    refine rd_ixL (SqL.of (g7.gh _ _ (g7.gg _ _ e6))) hyat ?_
    walk_at "e"
    refine rd_newT (g6.transM g7) fun pt G8 H8 n8 g8 s8 e8 g78 => ?_
    have e8' := g78.fr _ _ e7 (by simp)
    have n8' := g78.out _ n7 (by rw [e7]; simp)
    walk_at "e"
    refine rd_append g8 n8' (.inr n0) e8' (by have := dpa_len d'; rw [List.length_map] at this; omega) fun H9 g9 e9 g89 => ?_
    have t9 := (t7.grow g78).mut e8' g89
    walk_at "e"
    refine ⟨tp, 40, G8, _, rfl, g9.gh, t9, by omega, by decide, by decide, fun ma GA HA ma0 ma1 gA tA => ?_⟩
    have eA := gA.fr _ _ e9 (t9.off e9)
    have nA := gA.out _ n8' (by rw [e9]; simp)
    walk_at "e"
    refine rd_newD (g9.transM gA) fun pm GB HB nB gB sB eB gAB => ?_
    have eB' := gAB.fr _ _ eA (by simp)
    have nB' := gAB.out _ nA (by rw [eA]; simp)
    walk_at "e"
    refine ⟨tp, 7, GB, _, rfl, gB.gh, tA.grow gAB, by omega, by decide, by decide, fun r7 GC HC r70 r71 gC tC' => ?_⟩
    have eC := gC.fr _ _ eB' ((tA.grow gAB).off eB')
    have nC := gC.out _ nB' (by rw [eB']; simp)
    obtain ⟨mv, hmat⟩ : ∃ mv : Int, atI [V.int 0, V.int 10, V.int 50, V.int 99, V.int 100, V.int 101, V.int ma] r7 = some (.int mv) := by
      obtain ⟨v, h1, h2, _⟩ := at_mod (xs := [V.int 0, V.int 10, V.int 50, V.int 99, V.int 100, V.int 101, V.int ma]) (by simp) r70 (by simpa using r71)
      simp only [List.mem_cons, List.not_mem_nil, or_false] at h2
      rcases h2 with rfl | rfl | rfl | rfl | rfl | rfl | rfl <;> exact ⟨_, h1⟩
    walk_at "e"
    refine rd_ixL (SqL.of (gC.gh _ _ (gC.gg _ _ eB))) hmat ?_
    walk_at "e"
    have s18 : Same G8 GC := (gA.gg.trans sB).trans gC.gg
    refine ⟨mo + mv, _, _, GC, xs ++ [.ref pt], ts ++ [⟨mo, 0, wd, xx, yv⟩], rfl, gB.transM gC, eC, nC, ?_, ?_, by simp [hl], tC'.mono (by omega)⟩
    · rw [List.map_append]
      refine dpa_app (sm_dps s18 (sm_dps (((g4.gg.trans g5.gg).trans s6).trans (g7.gg.trans s8)) d')) (dpa_one (tD_iff.mpr ⟨pt, rfl, SqT.of (s18 _ _ e8)⟩))
    · intro t ht
      rcases List.mem_append.mp ht with h | h
      · exact so t h
      · rw [List.mem_singleton.mp h]
        exact ⟨⟨x0, by show xx ≤ 100; omega, hyv.1, by show yv ≤ 100; omega⟩, hwd⟩
  · rintro σ' H' ⟨mo, k', word, G', xs, ts, rfl, g', e', ng', d', so, hl, t'⟩
    walk_at "e"
    have gf := g'.frozen ng' n0 e'
    exact k fo xs ts _ _ gf upd_same (sm_dps (sm_new ng') d') so (by omega) (by omega) (by
      obtain ⟨c, ns, spot, left, h1, h2, h3, h4, h5, h6⟩ := t'.ex
      exact ⟨⟨c, ns, spot, left, h1, (sm_new ng').seq h2, h3, h4, by omega, h6⟩, by rw [upd_ne (fun z => t'.off e' (by simp [z]))]; exact t'.no⟩)
end
end K08

namespace K08
open PySem PySem.Spec PyProof.Rows L2 B
section
variable {P : Program} {w : World} {K : PySem.W.Frag} {mg : Str → Option Value} {base : Heap}
def Prs (K : PySem.W.Frag) (G : Hp) (v : V) : Prop := ∃ (p : Addr) (x y : Int), v = .ref p ∧ SqT K G p [.int x, .int y] ∧ -50000 ≤ x ∧ x ≤ 50000 ∧ -50000 ≤ y ∧ y ≤ 50000
theorem Prs.mono {K : PySem.W.Frag} {G G' : Hp} {v : V} (h : Prs K G v) (s : Same G G') : Prs K G' v := by
  obtain ⟨p, x, y, e, h, b⟩ := h
  exact ⟨p, x, y, e, sm_t s h, b⟩
theorem any_eq (dx dy s : Int) : beyond "any" dx dy s = decide (s * s < dx * dx + dy * dy) := by
  unfold beyond
  rw [if_neg (by decide), if_neg (by decide)]
theorem across_eq (dx dy s : Int) : beyond "across" dx dy s = decide (s < if 0 - dx > dx then 0 - dx else dx) := by
  unfold beyond
  rw [if_pos rfl]
  refine decide_eq_decide.mpr ?_
  unfold iabs
  split <;> split <;> omega
theorem along_eq (dx dy s : Int) : beyond "along" dx dy s = decide (s < if 0 - dy > dy then 0 - dy else dy) := by
  unfold beyond
  rw [if_neg (by decide), if_pos rfl]
  refine decide_eq_decide.mpr ?_
  unfold iabs
  split <;> split <;> omega
abbrev s_law : Stmt := topS 15
theorem sc_law : FnScope ["_law_script", "_law_tape_here", "_law_turn", "_law_slop", "_law_ways", "_law_dx", "_law_dy", "_law_due", "_law_first", "_law_fx", "_law_fy", "_law_others", "_law_x", "_law_y", "_law_was", "_law_now", "_law_cross", "_law_stroke_here", "_law_kept", "_law_way"] ["_law_script"] (defScope s_law) := ⟨rfl, rfl, rfl, by decide +kernel, rfl, by decide +kernel, by decide +kernel⟩

def sp_law (K : PySem.W.Frag) : Sp := fun vs H Q _ => ∃ (a : Addr) (ns : List Int), vs = [.ref a] ∧ SqL K H a (ns.map V.int) ∧ ns.length ≤ 63 ∧ ∀ H', Q (.bl true) H'
theorem body_law (T : Txt mg) (c__law_tape : Cal P w K mg base 1 "_law_tape" ["_law_script"] (sp_tape K)) (c__law_draw : Cal P w K mg base 1 "_law_draw" ["_law_tape_here", "_law_many"] (sp_draw K))
    (c__law_near : Cal P w K mg base 2 "_law_near" ["_law_tape_here", "_law_number"] (sp_near K)) (c__law_two : Cal P w K mg base 2 "_law_two" ["_law_tape_here"] (sp_two K)) (c__law_stroke : Cal P w K mg base 2 "_law_stroke" ["_law_tape_here"] (sp_stroke K))
    (c_is_beyond : Cal P w K mg base 2 "is_beyond" ["way", "dx", "dy", "slop"] sp_beyond) (c_is_spread : Cal P w K mg base 2 "is_spread" ["first", "other"] (sp_spread K)) (c_is_turned : Cal P w K mg base 1 "is_turned" ["first", "other"] (sp_turned (K := K)))
    (c_flung : Cal P w K mg base 3 "flung" ["touches"] (sp_flung K)) (c__law_flung : Cal P w K mg base 1 "_law_flung" ["_law_touches"] (sp_flung K)) : BodyOk P w K mg base 3 "law" s_law ["_law_script", "_law_tape_here", "_law_turn", "_law_slop", "_law_ways", "_law_dx", "_law_dy", "_law_due", "_law_first", "_law_fx", "_law_fy", "_law_others", "_law_x", "_law_y", "_law_was", "_law_now", "_law_cross", "_law_stroke_here", "_law_kept", "_law_way"] (sp_law K) := by
  rintro f cdv A outer s H vs Q E hr ⟨a, ns, rfl, hS, hlen, k⟩
  refine ⟨_, (pss_cons (ps_set (i := 1) sc_law.nd (by rfl) (Or.inl rfl) (pe_cal c__law_tape hr (by decide) (pa_cons (pv 0) pa_nil)))
      (pss_cons (ps_for PassesOwn.never (by rfl) (pi_range1 (by rfl) T.b_range (pa_cons pe_int pa_nil)) (pg_name (i := 2) sc_law.nd (by rfl) (Or.inl rfl)) (pss_cons (ps_set (i := 3) sc_law.nd (by rfl) (Or.inr rfl) (pe_ix (ix_listK K) (pe_lst (pa_cons pe_int (pa_cons pe_int (pa_cons pe_int (pa_cons (pe_cal c__law_draw hr (by decide) (pa_cons (pv 1) (pa_cons pe_int pa_nil))) pa_nil))))) (pe_cal c__law_draw hr (by decide) (pa_cons (pv 1) (pa_cons pe_int pa_nil))) (fun _ _ => rfl)))
      (pss_cons (ps_set (i := 4) sc_law.nd (by rfl) (Or.inl rfl) (pe_lst (pa_cons (pe_tup (pa_cons (pe_cal c__law_near hr (by decide) (pa_cons (pv 1) (pa_cons (pv 3) pa_nil))) (pa_cons (pe_op op_sub (pe_cal c__law_draw hr (by decide) (pa_cons (pv 1) (pa_cons pe_int pa_nil))) pe_int) pa_nil))) (pa_cons (pe_tup (pa_cons (pe_op op_sub (pe_cal c__law_draw hr (by decide) (pa_cons (pv 1) (pa_cons pe_int pa_nil))) pe_int) (pa_cons (pe_cal c__law_near hr (by decide) (pa_cons (pv 1) (pa_cons (pv 3) pa_nil))) pa_nil))) pa_nil))))
      (pss_cons (ps_set (i := 4) sc_law.nd (by rfl) (Or.inl rfl) (pe_op op_cat (pv 4) (pe_lst (pa_cons (pe_tup (pa_cons (pe_cal c__law_near hr (by decide) (pa_cons (pv 1) (pa_cons (pe_op op_mul pe_int (pe_op op_fdivW (pv 3) pe_int)) pa_nil))) (pa_cons (pe_cal c__law_near hr (by decide) (pa_cons (pv 1) (pa_cons (pe_op op_mul pe_int (pe_op op_fdivW (pv 3) pe_int)) pa_nil))) pa_nil))) (pa_cons (pe_cal c__law_two hr (by decide) (pa_cons (pv 1) pa_nil)) (pa_cons (pe_tup (pa_cons pe_int (pa_cons pe_int pa_nil))) pa_nil))))))
      (pss_cons (ps_for PassesOwn.never (by rfl) (pi_listK K (pv 4)) (pg_tupK K (by rfl) (pgs_cons (pg_name (i := 5) sc_law.nd (by rfl) (Or.inr rfl)) (pgs_cons (pg_name (i := 6) sc_law.nd (by rfl) (Or.inr rfl)) pgs_nil))) (pss_cons (ps_set (i := 7) sc_law.nd (by rfl) (Or.inl rfl) (pe_lst (pa_cons (pe_cmpR op_gt (pe_op op_add (pe_op op_mul (pv 5) (pv 5)) (pe_op op_mul (pv 6) (pv 6))) (pe_op op_mul (pv 3) (pv 3)) (nomark _)) (pa_cons (pe_cmpR op_gt (pe_callB (cl_max2 (by rfl)) (by rfl) T.b_max (by decide +kernel) (pa_cons (pv 5) (pa_cons (pe_op op_sub pe_int (pv 5)) pa_nil))) (pv 3) (nomark _)) (pa_cons (pe_cmpR op_gt (pe_callB (cl_max2 (by rfl)) (by rfl) T.b_max (by decide +kernel) (pa_cons (pv 6) (pa_cons (pe_op op_sub pe_int (pv 6)) pa_nil))) (pv 3) (nomark _)) pa_nil)))))
      (pss_one (ps_if (pt_cmpR (op_neDK K hr.units) (pe_lc (own := [("_law_way", 19)]) (by rfl) sc_law.nd (pi_listK K (pe_lst (pa_cons pe_str (pa_cons pe_str (pa_cons pe_str pa_nil))))) (blkOk_by (N := ["_law_script", "_law_tape_here", "_law_turn", "_law_slop", "_law_ways", "_law_dx", "_law_dy", "_law_due", "_law_first", "_law_fx", "_law_fy", "_law_others", "_law_x", "_law_y", "_law_was", "_law_now", "_law_cross", "_law_stroke_here", "_law_kept", "_law_way"]) (sc := defScope s_law) (by decide +kernel)) (fun _ _ _ _ _ => (pg_name (i := 19) sc_law.nd (by rfl) (Or.inl rfl))) (fun _ _ _ _ _ => pts_nil) (fun _ _ _ _ _ => (pe_cal c_is_beyond hr (by decide) (pa_cons (pv 19) (pa_cons (pv 5) (pa_cons (pv 6) (pa_cons (pv 3) pa_nil))))))) (pv 7) (nomark _)) (pss_one (ps_ret pe_bl)) pss_nil))))
      (pss_cons (ps_set (i := 8) sc_law.nd (by rfl) (Or.inl rfl) (pe_cal c__law_two hr (by decide) (pa_cons (pv 1) pa_nil)))
      (pss_cons (ps_asg (pv 8) (pg_tupK K (by rfl) (pgs_cons (pg_name (i := 9) sc_law.nd (by rfl) (Or.inl rfl)) (pgs_cons (pg_name (i := 10) sc_law.nd (by rfl) (Or.inl rfl)) pgs_nil))))
      (pss_cons (ps_set (i := 11) sc_law.nd (by rfl) (Or.inl rfl) (pe_lst (pa_cons (pe_cal c__law_two hr (by decide) (pa_cons (pv 1) pa_nil)) (pa_cons (pv 8) (pa_cons (pe_tup (pa_cons pe_int (pa_cons pe_int pa_nil))) (pa_cons (pe_tup (pa_cons (pe_op op_fdivW (pe_op op_mul (pv 9) pe_int) pe_int) (pa_cons (pe_op op_fdivW (pe_op op_mul (pv 10) pe_int) pe_int) pa_nil))) (pa_cons (pe_tup (pa_cons (pe_op op_fdivW (pe_op op_mul (pv 9) pe_int) pe_int) (pa_cons (pe_op op_fdivW (pe_op op_mul (pv 10) pe_int) pe_int) pa_nil))) pa_nil)))))))
      (pss_cons (ps_set (i := 11) sc_law.nd (by rfl) (Or.inl rfl) (pe_op op_cat (pv 11) (pe_lst (pa_cons (pe_tup (pa_cons (pe_op op_sub (pv 9) (pv 10)) (pa_cons (pe_op op_add (pv 9) (pv 10)) pa_nil))) (pa_cons (pe_tup (pa_cons (pe_op op_sub pe_int (pv 9)) (pa_cons (pe_op op_sub pe_int (pv 10)) pa_nil))) (pa_cons (pe_tup (pa_cons (pv 10) (pa_cons (pv 9) pa_nil))) pa_nil))))))
      (pss_cons (ps_for PassesOwn.never (by rfl) (pi_listK K (pe_op op_cat (pv 11) (pe_lst (pa_cons (pe_tup (pa_cons (pe_op op_add (pe_ix (ix_tupK K) (pe_ix (ix_listK K) (pv 11) pe_int (fun _ _ => rfl)) pe_int (fun _ _ => rfl)) pe_int) (pa_cons (pe_ix (ix_tupK K) (pe_ix (ix_listK K) (pv 11) pe_int (fun _ _ => rfl)) pe_int (fun _ _ => rfl)) pa_nil))) (pa_cons (pe_tup (pa_cons (pe_op op_add (pe_ix (ix_tupK K) (pe_ix (ix_listK K) (pv 11) pe_int (fun _ _ => rfl)) pe_int (fun _ _ => rfl)) pe_int) (pa_cons (pe_ix (ix_tupK K) (pe_ix (ix_listK K) (pv 11) pe_int (fun _ _ => rfl)) pe_int (fun _ _ => rfl)) pa_nil))) pa_nil))))) (pg_tupK K (by rfl) (pgs_cons (pg_name (i := 12) sc_law.nd (by rfl) (Or.inl rfl)) (pgs_cons (pg_name (i := 13) sc_law.nd (by rfl) (Or.inl rfl)) pgs_nil))) (pss_cons (ps_set (i := 14) sc_law.nd (by rfl) (Or.inl rfl) (pe_op op_add (pe_op op_mul (pe_ix (ix_tupK K) (pv 8) pe_int (fun _ _ => rfl)) (pe_ix (ix_tupK K) (pv 8) pe_int (fun _ _ => rfl))) (pe_op op_mul (pe_ix (ix_tupK K) (pv 8) pe_int (fun _ _ => rfl)) (pe_ix (ix_tupK K) (pv 8) pe_int (fun _ _ => rfl)))))
      (pss_cons (ps_set (i := 15) sc_law.nd (by rfl) (Or.inl rfl) (pe_op op_add (pe_op op_mul (pv 12) (pv 12)) (pe_op op_mul (pv 13) (pv 13))))
      (Evl.pss_cut (ps_if (pt_cmpR op_ne (pe_cal c_is_spread hr (by decide) (pa_cons (pv 8) (pa_cons (pe_tup (pa_cons (pv 12) (pa_cons (pv 13) pa_nil))) pa_nil))) (pe_or (pe_cmpR op_gt (pe_op op_mul (pv 15) pe_int) (pe_op op_mul (pv 14) pe_int) (nomark _)) (pe_one (pe_cmpR op_lt (pe_op op_mul (pv 15) pe_int) (pe_op op_mul (pv 14) pe_int) (nomark _)))) (nomark _)) (pss_one (ps_ret pe_bl)) pss_nil)
      (pss_cons (ps_set (i := 16) sc_law.nd (by rfl) (Or.inl rfl) (pe_op op_sub (pe_op op_mul (pe_ix (ix_tupK K) (pv 8) pe_int (fun _ _ => rfl)) (pv 13)) (pe_op op_mul (pe_ix (ix_tupK K) (pv 8) pe_int (fun _ _ => rfl)) (pv 12))))
      (pss_one (ps_if (pt_cmpR op_ne (pe_cal c_is_turned hr (by decide) (pa_cons (pv 8) (pa_cons (pe_tup (pa_cons (pv 12) (pa_cons (pv 13) pa_nil))) pa_nil))) (pe_cmpR op_gt (pe_callB (cl_max2 (by rfl)) (by rfl) T.b_max (by decide +kernel) (pa_cons (pv 16) (pa_cons (pe_op op_sub pe_int (pv 16)) pa_nil))) (pe_op op_add (pe_op op_mul (pe_ix (ix_tupK K) (pv 8) pe_int (fun _ _ => rfl)) (pv 12)) (pe_op op_mul (pe_ix (ix_tupK K) (pv 8) pe_int (fun _ _ => rfl)) (pv 13))) (nomark _)) (nomark _)) (pss_one (ps_ret pe_bl)) pss_nil)))))))
      (pss_cons (ps_set (i := 17) sc_law.nd (by rfl) (Or.inl rfl) (pe_cal c__law_stroke hr (by decide) (pa_cons (pv 1) pa_nil)))
      (pss_cons (ps_set (i := 18) sc_law.nd (by rfl) (Or.inl rfl) (pe_callTy (cl_listK K) (by rfl) T.b_list (by decide +kernel) (pa_cons (pv 17) pa_nil)))
      (pss_one (ps_if (PW.pt (pw_or (pt_cmpR (op_neDK K hr.units) (pe_cal c_flung hr (by decide) (pa_cons (pv 17) pa_nil)) (pe_cal c__law_flung hr (by decide) (pa_cons (pv 18) pa_nil)) (nomark _)) (pw_or1 (pt_cmpR (op_neDK K hr.units) (pv 17) (pv 18) (nomark _))))) (pss_one (ps_ret pe_bl)) pss_nil))))))))))))))
      (pss_one (ps_ret pe_bl)))), ?_⟩
  walk_at "e"
  refine ⟨a, ns, H, rfl, Same.refl _, hS, hlen, fun tp G1 H1 n1 g1 t1 => ?_⟩
  walk_at "e"
  refine loopR1 ⟨by decide, by decide⟩ (fun i σ' H' => ∃ (w2 w3 w4 w5 w6 w7 w8 w9 w10 w11 w12 w13 w14 w15 w16 w17 w18 w19 : Option V) (G' : Hp), σ' = [some (.ref a), some (.ref tp), w2, w3, w4, w5, w6, w7, w8, w9, w10, w11, w12, w13, w14, w15, w16, w17, w18, w19] ∧ Same G' H' ∧ Tape K G' H' tp (300 * i)) ?_ ?_ ?_
  · exact ⟨none, none, none, none, none, none, none, none, none, none, none, none, none, none, none, none, none, none, G1, rfl, g1.gh, t1⟩
  · rintro i σ' H2 hi ⟨w2, w3, w4, w5, w6, w7, w8, w9, w10, w11, w12, w13, w14, w15, w16, w17, w18, w19, G2, rfl, s2, t2⟩
    walk_at "e"
    -- slop
    refine ⟨tp, 1001, G2, _, rfl, s2, t2, by omega, by decide, by decide, fun sr G3 H3 sr0 sr1 g3 t3 => ?_⟩
    walk_at "e"
    refine rd_newD (Grow.refl (M := []) g3.gh) fun pl G4 H4 n4 g4 s4 e4 g34 => ?_
    walk_at "e"
    refine ⟨tp, 4, G4, _, rfl, g4.gh, t3.grow g34, by omega, by decide, by decide, fun r5 G5 H5 r50 r51 g5 t5 => ?_⟩
    obtain ⟨slop, ⟨sl0, sl1⟩, hsl⟩ : ∃ sv : Int, (0 ≤ sv ∧ sv ≤ 1000) ∧ atI [V.int 0, V.int 18, V.int 5, V.int sr] r5 = some (.int sv) := by
      obtain ⟨v, h1, h2, _⟩ := at_mod (xs := [V.int 0, V.int 18, V.int 5, V.int sr]) (by simp) r50 (by simpa using r51)
      simp only [List.mem_cons, List.not_mem_nil, or_false] at h2
      rcases h2 with rfl | rfl | rfl | rfl <;> exact ⟨_, by omega, h1⟩
    walk_at "e"
    refine rd_ixL (SqL.of (g5.gh _ _ (g5.gg _ _ e4))) hsl ?_
    clear e4 hsl
    walk_at "e"
    -- ways
    refine ⟨tp, slop, G5, _, rfl, g5.gh, t5, by omega, by omega, by omega, fun d1 G6 H6 d10 d11 g6 t6 => ?_⟩
    walk_at "e"
    refine ⟨tp, 9, G6, _, rfl, g6.gh, t6, by omega, by decide, by decide, fun d2 G7 H7 d20 d21 g7 t7 => ?_⟩
    walk_at "e"
    refine rd_newT (Grow.refl (M := []) g7.gh) fun q1 G8 H8 n8 g8 s8 e8 g78 => ?_
    have q1P : Prs K G8 (.ref q1) := ⟨q1, _, _, rfl, SqT.of e8, by omega, by omega, by omega, by omega⟩
    walk_at "e"
    refine ⟨tp, 9, G8, _, rfl, g8.gh, t7.grow g78, by omega, by decide, by decide, fun d3 G9 H9 d30 d31 g9 t9 => ?_⟩
    walk_at "e"
    refine ⟨tp, slop, G9, _, rfl, g9.gh, t9, by omega, by omega, by omega, fun d4 GA HA d40 d41 gA tA => ?_⟩
    walk_at "e"
    refine rd_newT (Grow.refl (M := []) gA.gh) fun q2 GB HB nB gB sB eB gAB => ?_
    have q2P : Prs K GB (.ref q2) := ⟨q2, _, _, rfl, SqT.of eB, by omega, by omega, by omega, by omega⟩
    walk_at "e"
    refine rd_newD (Grow.refl (M := []) gB.gh) fun pw GC HC nC gC sC eC gBC => ?_
    walk_at "e"
    refine ⟨tp, _, GC, _, rfl, gC.gh, (tA.grow gAB).grow gBC, by omega, by omega, by omega, fun d5 GD HD d50 d51 gD tD' => ?_⟩
    walk_at "e"
    refine ⟨tp, _, GD, _, rfl, gD.gh, tD', by omega, by omega, by omega, fun d6 GE HE d60 d61 gE tE => ?_⟩
    walk_at "e"
    refine rd_newT (Grow.refl (M := []) gE.gh) fun q3 GF HF nF gF sF eF gEF => ?_
    have q3P : Prs K GF (.ref q3) := ⟨q3, _, _, rfl, SqT.of eF, by omega, by omega, by omega, by omega⟩
    walk_at "e"
    refine ⟨tp, GF, _, rfl, gF.gh, tE.grow gEF, by omega, fun q4 x4 y4 GG HG x4b y4b gG hq4 tG => ?_⟩
    obtain ⟨x40, x41⟩ := x4b
    obtain ⟨y40, y41⟩ := y4b
    have q4P : Prs K GG (.ref q4) := ⟨q4, _, _, rfl, hq4, by omega, by omega, by omega, by omega⟩
    walk_at "e"
    refine rd_newT (Grow.refl (M := []) gG.gh) fun q5 GI HI nI gI sI eI gGI => ?_
    have q5P : Prs K GI (.ref q5) := ⟨q5, _, _, rfl, SqT.of eI, by omega, by omega, by omega, by omega⟩
    walk_at "e"
    refine rd_newD (Grow.refl (M := []) gI.gh) fun pv GJ HJ nJ gJ sJ eJ gIJ => ?_
    have tJ := (tG.grow gGI).grow gIJ
    walk_at "e"
    have hpw : HJ pw = some (.lst [.ref q1, .ref q2]) := gJ.gh _ _ ((by walk_at "sm" : Same GC GJ) _ _ eC)
    refine rd_cat (Grow.refl (M := []) gJ.gh) hpw (gJ.gh _ _ eJ) fun pw2 GK HK nK gK sK eK gJK => ?_
    have tK := tJ.grow gJK
    have hways : ∀ v ∈ ([.ref q1, .ref q2, .ref q3, .ref q4, .ref q5] : List V), Prs K GK v := by
      intro v hv
      simp only [List.mem_cons, List.not_mem_nil, or_false] at hv
      rcases hv with rfl | rfl | rfl | rfl | rfl
      · exact q1P.mono (by walk_at "sm")
      · exact q2P.mono (by walk_at "sm")
      · exact q3P.mono (by walk_at "sm")
      · exact q4P.mono (by walk_at "sm")
      · exact q5P.mono (by walk_at "sm")
    walk_at "e"
    have hpw2 : SqL K GK pw2 [.ref q1, .ref q2, .ref q3, .ref q4, .ref q5] := SqL.of eK
    refine loopL (gK.gh.seq hpw2) (fun j σ' H' => ∃ (w5 w6 w7 w8 w9 w10 w11 w12 w13 w14 w15 w16 w17 w18 w19 : Option V) (G' : Hp), σ' = [some (.ref a), some (.ref tp), some (.int i), some (.int slop), some (.ref pw2), w5, w6, w7, w8, w9, w10, w11, w12, w13, w14, w15, w16, w17, w18, w19] ∧ Same GK G' ∧ Same G' H' ∧ Tape K G' H' tp (300 * i + 50)) ?_ ?_ ?_ ?_
    · exact ⟨w5, w6, w7, w8, w9, w10, w11, w12, w13, w14, w15, w16, w17, w18, w19, GK, rfl, Same.refl _, gK.gh, tK.mono (by omega)⟩
    · rintro j σ' H' _ ⟨w5, w6, w7, w8, w9, w10, w11, w12, w13, w14, w15, w16, w17, w18, w19, G', rfl, sa, sb, _⟩
      exact (sa.trans sb).seq hpw2
    · rintro j x σ' H' hx ⟨w5, w6, w7, w8, w9, w10, w11, w12, w13, w14, w15, w16, w17, w18, w19, G', rfl, sa, sb, tt⟩
      obtain ⟨pq, dx, dy, rfl, hq, dx0, dx1, dy0, dy1⟩ := hways x (List.mem_of_getElem? hx)
      refine rd_gTup (sm_t (sa.trans sb) hq) rfl ?_
      walk_at "e"
      refine rd_newD (Grow.refl (M := []) sb) fun pd GL HL nL gL sL eL gJL => ?_
      walk_at "e"
      refine rd_newD (Grow.refl (M := []) gL.gh) fun pl3 GM HM nM gM sM eM gLM => ?_
      walk_at "e"
      refine lcL_ok (Grow.refl (M := []) gM.gh) (by simp) (fun _ _ => True) (fun m ds => ds = ((["any", "across", "along"] : List Str).take m).map fun w => PyData.bool (beyond w dx dy slop)) (fun m Hi sg _ => SqL.of (sg _ _ eM)) (by exact Nat.le_of_ble_eq_true rfl) trivial (by simp) (fun _ _ _ _ _ => trivial) ?_ ?_
      · rintro m xw Gi Hi ds hxw gi _ rfl NT NF kT kF
        obtain ⟨wd, hwd, rfl⟩ : ∃ wd : Str, (["any", "across", "along"] : List Str)[m]? = some wd ∧ xw = .str wd := by
          rw [show ([V.str "any", V.str "across", V.str "along"] : List V) = (["any", "across", "along"] : List Str).map V.str from rfl, List.getElem?_map] at hxw
          obtain ⟨wd, h1, h2⟩ := Option.map_eq_some_iff.mp hxw
          exact ⟨wd, h1, h2.symm⟩
        walk_at "e"
        refine ⟨rfl, ?_⟩
        walk_at "e"
        refine iteT ?_
        walk_at "e"
        refine ⟨wd, dx, dy, slop, rfl, by omega, by omega, by omega, ?_⟩
        refine kT _ Gi Hi (.bool (beyond wd dx dy slop)) (Grow.refl gi.gh) (.bl _) trivial ?_
        rw [List.take_add_one, hwd]
        simp
      · rintro D GN HN ys ds nD _ gN eD nGD dD _ rfl
        walk_at "e"
        have sN : Same (upd GN D (.lst ys)) HN := (Grow.freeze gN.gh nGD eD).2
        have dDue : Dp K GL (.ref pd) (.list ((["any", "across", "along"] : List Str).map fun w => PyData.bool (beyond w dx dy slop))) := by
          refine dp_lst.mpr ⟨pd, _, rfl, SqL.of eL, ?_⟩
          simp only [List.map_cons, List.map_nil, any_eq, across_eq, along_eq]
          exact .cons (.bl _) (.cons (.bl _) (.cons (.bl _) .nil))
        refine rd_neSame (d := .list ((["any", "across", "along"] : List Str).map fun w => PyData.bool (beyond w dx dy slop))) (n := 1) (dp_lst.mpr ⟨D, ys, rfl, SqL.of eD, sm_dps gN.gh dD⟩) (sm_dp ((gM.gg.trans gN.gg).trans gN.gh) dDue) (shp_lst (map_all fun _ _ => shp_bl)) ?_
        walk_at "e"
        refine iteF ?_
        walk_at "e"
        exact ⟨_, _, _, _, _, _, _, _, _, _, _, _, _, _, _, GN, rfl, ((sa.trans sL).trans sM).trans gN.gg, gN.gh, ((tt.grow gJL).grow gLM).grow gN⟩
    rintro σ' HO ⟨w5, w6, w7, w8, w9, w10, w11, w12, w13, w14, w15, w16, w17, w18, w19, GO, rfl, sO1, sO, tO⟩
    clear hpw2 hways hpw
    walk_at "e"
    -- first, others
    refine ⟨tp, GO, _, rfl, sO, tO, by omega, fun pf fx fy GP HP fxb fyb gP hpf tP => ?_⟩
    obtain ⟨fx0, fx1⟩ := fxb
    obtain ⟨fy0, fy1⟩ := fyb
    walk_at "e"
    refine rd_gTup (sm_t gP.gh hpf) rfl ?_
    walk_at "e"
    refine ⟨tp, GP, _, rfl, gP.gh, tP, by omega, fun o1 ox oy GQ HQ oxb oyb gQ ho1 tQ => ?_⟩
    obtain ⟨ox0, ox1⟩ := oxb
    obtain ⟨oy0, oy1⟩ := oyb
    walk_at "e"
    refine rd_newT (Grow.refl (M := []) gQ.gh) fun o2 GR HR nR gR sR eR gQR => ?_
    walk_at "e"
    refine rd_newT (Grow.refl (M := []) gR.gh) fun o3 GS HS nS gS sS eS gRS => ?_
    walk_at "e"
    refine rd_newT (Grow.refl (M := []) gS.gh) fun o4 GT HT nT gT sT eT gST => ?_
    walk_at "e"
    refine rd_newD (Grow.refl (M := []) gT.gh) fun po GU HU nU gU sU eU gTU => ?_
    have tU := (((tQ.grow gQR).grow gRS).grow gST).grow gTU
    walk_at "e"
    refine rd_newT (Grow.refl (M := []) gU.gh) fun o5 GV HV nV gV sV eV gUV => ?_
    walk_at "e"
    refine rd_newT (Grow.refl (M := []) gV.gh) fun o6 GW HW nW gW sW eW gVW => ?_
    walk_at "e"
    refine rd_newT (Grow.refl (M := []) gW.gh) fun o7 GX HX nX gX sX eX gWX => ?_
    walk_at "e"
    refine rd_newD (Grow.refl (M := []) gX.gh) fun pz GY HY nY gY sY eY gXY => ?_
    walk_at "e"
    have hpo : HY po = some (.lst [.ref o1, .ref pf, .ref o2, .ref o3, .ref o4]) := gY.gh _ _ ((by walk_at "sm" : Same GU GY) _ _ eU)
    refine rd_cat (Grow.refl (M := []) gY.gh) hpo (gY.gh _ _ eY) fun po2 GZ HZ nZ gZ sZ eZ gYZ => ?_
    have tZ := ((((tU.grow gUV).grow gVW).grow gWX).grow gXY).grow gYZ
    have P1 : Prs K GZ (.ref o1) := ⟨o1, _, _, rfl, sm_t (by walk_at "sm") ho1, by omega, by omega, by omega, by omega⟩
    have P2 : Prs K GZ (.ref pf) := ⟨pf, _, _, rfl, sm_t (by walk_at "sm") hpf, by omega, by omega, by omega, by omega⟩
    have P3 : Prs K GZ (.ref o2) := ⟨o2, _, _, rfl, sm_t (by walk_at "sm") (SqT.of eR), by omega, by omega, by omega, by omega⟩
    have P4 : SqT K GZ o3 [.int (fx * 5 / 4), .int (fy * 5 / 4)] := sm_t (by walk_at "sm") (SqT.of eS)
    have P5 : Prs K GZ (.ref o4) := ⟨o4, _, _, rfl, sm_t (by walk_at "sm") (SqT.of eT), by omega, by omega, by omega, by omega⟩
    have P6 : SqT K GZ o5 [.int (fx - fy), .int (fx + fy)] := sm_t (by walk_at "sm") (SqT.of eV)
    have P7 : Prs K GZ (.ref o6) := ⟨o6, _, _, rfl, sm_t (by walk_at "sm") (SqT.of eW), by omega, by omega, by omega, by omega⟩
    have P8 : Prs K GZ (.ref o7) := ⟨o7, _, _, rfl, sm_t (by walk_at "sm") (SqT.of eX), by omega, by omega, by omega, by omega⟩
    have hpf' : SqT K GZ pf [.int fx, .int fy] := sm_t (by walk_at "sm") hpf
    clear hpo eU eY eR eS eT eV eW eX ho1
    walk_at "e"
    have hL8 : SqL K HZ po2 [.ref o1, .ref pf, .ref o2, .ref o3, .ref o4, .ref o5, .ref o6, .ref o7] := SqL.of (gZ.gh _ _ eZ)
    have P6H := sm_t gZ.gh P6
    have P4H := sm_t gZ.gh P4
    walk_at "e"
    refine rd_newT (Grow.refl (M := []) gZ.gh) fun o8 Ga Ha na ga sa ea gZa => ?_
    have hL8a := ga.gh.seq (sa.seq (SqL.of (K := K) eZ))
    have P6a := sm_t (sa.trans ga.gh) P6
    have P4a := sm_t (sa.trans ga.gh) P4
    walk_at "e"
    refine rd_newT (Grow.refl (M := []) ga.gh) fun o9 Gb Hb nb gb sb eb gab => ?_
    walk_at "e"
    refine rd_newD (Grow.refl (M := []) gb.gh) fun pc Gc Hc nc gc sc ec gbc => ?_
    walk_at "e"
    refine rd_cat (Grow.refl (M := []) gc.gh) (gc.gh _ _ ((by walk_at "sm" : Same GZ Gc) _ _ eZ)) (gc.gh _ _ ec) fun pi Gd Hd nd gd sd ed gcd => ?_
    have sZd : Same GZ Gd := by walk_at "sm"
    have td := (((tZ.grow gZa).grow gab).grow gbc).grow gcd
    have hothers : ∀ v ∈ ([.ref o1, .ref pf, .ref o2, .ref o3, .ref o4, .ref o5, .ref o6, .ref o7, .ref o8, .ref o9] : List V), Prs K Gd v := by
      intro v hv
      simp only [List.mem_cons, List.not_mem_nil, or_false] at hv
      rcases hv with rfl | rfl | rfl | rfl | rfl | rfl | rfl | rfl | rfl | rfl
      · exact P1.mono sZd
      · exact P2.mono sZd
      · exact P3.mono sZd
      · exact ⟨o3, _, _, rfl, sm_t sZd P4, by omega, by omega, by omega, by omega⟩
      · exact P5.mono sZd
      · exact ⟨o5, _, _, rfl, sm_t sZd P6, by omega, by omega, by omega, by omega⟩
      · exact P7.mono sZd
      · exact P8.mono sZd
      · exact ⟨o8, _, _, rfl, sm_t (by walk_at "sm") (SqT.of ea), by omega, by omega, by omega, by omega⟩
      · exact ⟨o9, _, _, rfl, sm_t (by walk_at "sm") (SqT.of eb), by omega, by omega, by omega, by omega⟩
    have hpfd := sm_t sZd hpf'
    have hit : SqL K Gd pi [.ref o1, .ref pf, .ref o2, .ref o3, .ref o4, .ref o5, .ref o6, .ref o7, .ref o8, .ref o9] := SqL.of ed
    clear P1 P2 P3 P4 P5 P6 P7 P8 P6H P4H P6a P4a hL8 hL8a
    refine loopL (gd.gh.seq hit) (fun j σ' H' => ∃ (w5 w6 w7 w12 w13 w14 w15 w16 w17 w18 w19 : Option V) (G' : Hp), σ' = [some (.ref a), some (.ref tp), some (.int i), some (.int slop), some (.ref pw2), w5, w6, w7, some (.ref pf), some (.int fx), some (.int fy), some (.ref po2), w12, w13, w14, w15, w16, w17, w18, w19] ∧ Same Gd G' ∧ Same G' H' ∧ Tape K G' H' tp (300 * i + 80)) ?_ ?_ ?_ ?_
    · exact ⟨_, _, _, _, _, _, _, _, _, _, _, Gd, rfl, Same.refl _, gd.gh, td.mono (by omega)⟩
    · rintro j σ' H' _ ⟨w5, w6, w7, w12, w13, w14, w15, w16, w17, w18, w19, G', rfl, sa, sb, _⟩
      exact (sa.trans sb).seq hit
    · rintro j xv σ' H' hx ⟨w5, w6, w7, w12, w13, w14, w15, w16, w17, w18, w19, G', rfl, se1, se2, tt⟩
      obtain ⟨pq, x, y, rfl, hq, x0, x1, y0, y1⟩ := hothers xv (List.mem_of_getElem? hx)
      refine rd_gTup (sm_t (se1.trans se2) hq) rfl ?_
      have hpfe := sm_t (se1.trans se2) hpfd
      clear hothers hit hx
      walk_at "e"
      refine Evl.q_cut (M := fun σ2 H2 => ∃ (G2 : Hp), σ2 = [some (.ref a), some (.ref tp), some (.int i), some (.int slop), some (.ref pw2), w5, w6, w7, some (.ref pf), some (.int fx), some (.int fy), some (.ref po2), some (.int x), some (.int y), some (.int (fx * fx + fy * fy)), some (.int (x * x + y * y)), w16, w17, w18, w19] ∧ Same Gd G2 ∧ Same G2 H2 ∧ Tape K G2 H2 tp (300 * i + 80)) ?_ ?_
      · walk_at "e"
        refine rd_newT (Grow.refl (M := []) se2) fun pp Ge He ne ge sse ee gge => ?_
        walk_at "e"
        refine ⟨pf, pp, fx, fy, x, y, rfl, sm_t ((se1.trans sse).trans ge.gh) hpfd, SqT.of (ge.gh _ _ ee), by omega, by omega, by omega, by omega, ?_⟩
        have hsp : spread fx fy x y = (decide ((fx * fx + fy * fy) * 25 < (x * x + y * y) * 16) || decide ((x * x + y * y) * 25 < (fx * fx + fy * fy) * 16)) := by
          unfold spread
          simp only [Int.mul_comm]
        walk_at "e"
        refine rd_ite (c := _ < _) (fun h => ?_) (fun h => ?_)
        · rw [hsp, decide_eq_true h]
          walk_at "e"
          refine rd_ite (fun h2 => absurd rfl h2) (fun _ => ?_)
          walk_at "e"
          exact ⟨Ge, rfl, se1.trans sse, ge.gh, tt.grow gge⟩
        · rw [hsp, decide_eq_false h]
          walk_at "e"
          refine rd_ite (fun h2 => absurd rfl h2) (fun _ => ?_)
          walk_at "e"
          exact ⟨Ge, rfl, se1.trans sse, ge.gh, tt.grow gge⟩
      rintro σ2 H2 ⟨Gf, rfl, sf1, sf2, tf⟩
      have hpff := sm_t (sf1.trans sf2) hpfd
      walk_at "e"
      refine rd_newT (Grow.refl (M := []) sf2) fun pp Ge He ne ge sse ee gge => ?_
      have hpfe2 := sm_t ((sf1.trans sse).trans ge.gh) hpfd
      walk_at "e"
      refine ⟨pf, pp, fx, fy, x, y, rfl, hpfe2, SqT.of (ge.gh _ _ ee), by omega, by omega, ?_⟩
      walk_at "e"
      have htu : turned fx fy x y = decide (fx * x + fy * y < if 0 - (fx * y - fy * x) > fx * y - fy * x then 0 - (fx * y - fy * x) else fx * y - fy * x) := by
        unfold turned iabs
        refine decide_eq_decide.mpr ?_
        split <;> split <;> omega
      rw [htu]
      refine rd_ite (fun h2 => absurd rfl h2) (fun _ => ?_)
      walk_at "e"
      exact ⟨_, _, _, _, _, _, _, _, _, _, _, Ge, rfl, sf1.trans sse, ge.gh, tf.grow gge⟩
    rintro σ' Hg ⟨w5, w6, w7, w12, w13, w14, w15, w16, w17, w18, w19, Gg, rfl, sg1, sg2, tg⟩
    clear hothers hit hpfd sZd
    walk_at "e"
    refine ⟨tp, Gg, _, rfl, sg2, tg, by omega, fun pst xs ts Gh Hh gh est dst sto ts0 ts1 th => ?_⟩
    walk_at "e"
    refine rd_listN (Grow.refl (M := []) gh.gh) (.inl (SqL.of (gh.gh _ _ est))) fun pk Gi Hi ni gi si ei ghi => ?_
    obtain ⟨t0, tn, hd0, hdn⟩ : ∃ t0 tn, ts.head? = some t0 ∧ ts.getLast? = some tn := by
      cases ts with
      | nil => exact absurd ts0 (by simp)
      | cons t r => exact ⟨t, _, rfl, List.getLast?_eq_getLast (List.cons_ne_nil t r)⟩
    have hpl : ∀ t ∈ ts, Plc t.x ∧ Plc t.y := fun t ht => by
      obtain ⟨⟨h1, h2, h3, h4⟩, _⟩ := sto t ht
      exact ⟨⟨by omega, by omega⟩, ⟨by omega, by omega⟩⟩
    walk_at "e"
    refine ⟨pst, xs, ts, t0, tn, Gi, rfl, gi.gh, si.seq (SqL.of est), sm_dps si dst, hd0, hdn, hpl, by omega, fun t ht => (sto t ht).2, fun v1 Gj Hj gj dv1 => ?_⟩
    walk_at "e"
    refine ⟨pk, xs, ts, t0, tn, Gj, rfl, gj.gh, gj.gg.seq (SqL.of ei), sm_dps (si.trans gj.gg) dst, hd0, hdn, hpl, by omega, fun t ht => (sto t ht).2, fun v2 Gk Hk gk dv2 => ?_⟩
    have hshp : Shp 1 (flungT t0 tn ts) := by
      unfold flungT flungD
      split
      · exact shp_tup (n := 0) fun d hd => by
          simp only [List.mem_cons, List.not_mem_nil, or_false] at hd
          rcases hd with rfl | rfl <;> exact shp_int
      · exact shp_non
    refine rd_neSame (sm_dp (gk.gg.trans gk.gh) dv1) (sm_dp gk.gh dv2) hshp ?_
    walk_at "e"
    refine iteF ?_
    walk_at "e"
    have dL : Shp 2 (.list (ts.map tD)) := shp_lst (map_all fun t ht => tD_shp (sto t ht).2)
    have sik : Same Gi Hk := (gj.gg.trans gk.gg).trans gk.gh
    refine rd_neSame (d := .list (ts.map tD)) (dp_lst.mpr ⟨pst, xs, rfl, (si.trans sik).seq (SqL.of est), sm_dps (si.trans sik) dst⟩) (dp_lst.mpr ⟨pk, xs, rfl, sik.seq (SqL.of ei), sm_dps (si.trans sik) dst⟩) dL ?_
    walk_at "e"
    refine iteF ?_
    walk_at "e"
    exact ⟨_, _, _, _, _, _, _, _, _, _, _, _, _, _, _, _, _, _, Gk, rfl, gk.gh, (((th.grow ghi).grow gj).grow gk).mono (by omega)⟩
  · rintro σ' H2 ⟨w2, w3, w4, w5, w6, w7, w8, w9, w10, w11, w12, w13, w14, w15, w16, w17, w18, w19, G2, rfl, s2, t2⟩
    walk_at "e"
    exact k H2
end
end K08

namespace K08
open PySem PySem.Spec PyProof.Rows L2 B
def dd_square : He.DefD := ⟨("square", none), "square", "square", defArgs s_square, defBody s_square, defScope s_square, [], []⟩
def dd_is_beyond : He.DefD := ⟨("is_beyond", none), "is_beyond", "is_beyond", defArgs s_is_beyond, defBody s_is_beyond, defScope s_is_beyond, [], []⟩
def dd_is_spread : He.DefD := ⟨("is_spread", none), "is_spread", "is_spread", defArgs s_is_spread, defBody s_is_spread, defScope s_is_spread, [], []⟩
def dd_is_turned : He.DefD := ⟨("is_turned", none), "is_turned", "is_turned", defArgs s_is_turned, defBody s_is_turned, defScope s_is_turned, [], []⟩
def dd_flung : He.DefD := ⟨("flung", none), "flung", "flung", defArgs s_flung, defBody s_flung, defScope s_flung, [], []⟩
def dd__law_tape : He.DefD := ⟨("_law_tape", none), "_law_tape", "_law_tape", defArgs s__law_tape, defBody s__law_tape, defScope s__law_tape, [], []⟩
def dd__law_draw : He.DefD := ⟨("_law_draw", none), "_law_draw", "_law_draw", defArgs s__law_draw, defBody s__law_draw, defScope s__law_draw, [], []⟩
def dd__law_near : He.DefD := ⟨("_law_near", none), "_law_near", "_law_near", defArgs s__law_near, defBody s__law_near, defScope s__law_near, [], []⟩
def dd__law_two : He.DefD := ⟨("_law_two", none), "_law_two", "_law_two", defArgs s__law_two, defBody s__law_two, defScope s__law_two, [], []⟩
def dd__law_flung : He.DefD := ⟨("_law_flung", none), "_law_flung", "_law_flung", defArgs s__law_flung, defBody s__law_flung, defScope s__law_flung, [], []⟩
def dd__law_stroke : He.DefD := ⟨("_law_stroke", none), "_law_stroke", "_law_stroke", defArgs s__law_stroke, defBody s__law_stroke, defScope s__law_stroke, [], []⟩
def dd_law : He.DefD := ⟨("law", none), "law", "law", defArgs s_law, defBody s_law, defScope s_law, [], []⟩
def fn0 : List He.DefD := [dd_square, dd_is_beyond, dd_is_spread, dd_is_turned, dd_flung, dd__law_tape, dd__law_draw, dd__law_near, dd__law_two, dd__law_flung, dd__law_stroke, dd_law]
def fn : List He.DefD := fn0
def fa0 : List He.Fa := [.glo "square", .glo "is_beyond", .glo "is_spread", .glo "is_turned", .glo "flung", .glo "_law_tape", .glo "_law_draw", .glo "_law_near", .glo "_law_two", .glo "_law_flung", .glo "_law_stroke", .glo "law", .int "FLUNG" 50, .int "AGO" 100, .free "abs", .free "len", .free "range", .free "max", .free "list"]
def fa : List He.Fa := fa0
def loose0 : List PySem.Str := ["FLUNG", "AGO", "square", "is_beyond", "is_spread", "is_turned", "flung", "_law_tape", "_law_draw", "_law_near", "_law_two", "_law_flung", "_law_stroke"]
def loose : List PySem.Str := loose0
abbrev R : PySem.W.OpenRow := PySem.W.OpenLaw.row PySem.Challenge.rw_strokeguess_k08_measures
abbrev hk : PySem.W.Hook := He.hookD 5 fa fn
def ob (s : PySem.W.SharedT) : He.AlD := He.obsDG 5 fa fn (HandSHeadRun.getT s)
theorem ob_eq (s : PySem.W.SharedT) : ob s = hk.obs s.abs := He.obsDG_eq (HandSHeadRun.getT_eq s)
set_option maxHeartbeats 0 in
theorem run (w : World) : HandSHeadRun.RunEq R (PySem.W.view R.prog [15]) hk ob 1000 loose w := by
  intro os
  kernel_rfl
set_option maxHeartbeats 0 in
theorem facts {P : Program} {w : World} {K : PySem.W.Frag} {h : Heap} {mg : Str → Option Value} {f : Addr} (X : K.In h) (G : h.Ns mainGlobals mg) (hfa : mg ("law" : Str) = some (.ref f)) (c : He.SaysD fa fn K) :
    ∃ fd : FuncData, (∀ (s : Shared) (v : Value), BindsTo s fd ⟨[v], []⟩ [("_law_script", v)]) ∧ ∀ base : Heap, K.In base → base.Ns mainGlobals mg → FnOk P w K mg base CX0 4 f fd ["_law_script"] (sp_law K) := by
  have F_square : FunAt K mg "square" s_square := funAt_of X G c 0 0 rfl rfl
  have F_is_beyond : FunAt K mg "is_beyond" s_is_beyond := funAt_of X G c 1 1 rfl rfl
  have F_is_spread : FunAt K mg "is_spread" s_is_spread := funAt_of X G c 2 2 rfl rfl
  have F_is_turned : FunAt K mg "is_turned" s_is_turned := funAt_of X G c 3 3 rfl rfl
  have F_flung : FunAt K mg "flung" s_flung := funAt_of X G c 4 4 rfl rfl
  have F__law_tape : FunAt K mg "_law_tape" s__law_tape := funAt_of X G c 5 5 rfl rfl
  have F__law_draw : FunAt K mg "_law_draw" s__law_draw := funAt_of X G c 6 6 rfl rfl
  have F__law_near : FunAt K mg "_law_near" s__law_near := funAt_of X G c 7 7 rfl rfl
  have F__law_two : FunAt K mg "_law_two" s__law_two := funAt_of X G c 8 8 rfl rfl
  have F__law_flung : FunAt K mg "_law_flung" s__law_flung := funAt_of X G c 9 9 rfl rfl
  have F__law_stroke : FunAt K mg "_law_stroke" s__law_stroke := funAt_of X G c 10 10 rfl rfl
  obtain ⟨fd, F⟩ := c.def_ 11 (d := dd_law) rfl
  have e := hfa.symm.trans (He.glo_ok X G (c.fact 11 (f := .glo "law") rfl))
  cases e
  have T : Txt mg := { g_FLUNG := He.int_ok X G (c.fact 12 (f := .int "FLUNG" 50) rfl), g_AGO := He.int_ok X G (c.fact 13 (f := .int "AGO" 100) rfl), b_abs := He.free_ok X G (c.fact 14 (f := .free "abs") rfl), b_len := He.free_ok X G (c.fact 15 (f := .free "len") rfl), b_range := He.free_ok X G (c.fact 16 (f := .free "range") rfl), b_max := He.free_ok X G (c.fact 17 (f := .free "max") rfl), b_list := He.free_ok X G (c.fact 18 (f := .free "list") rfl) }
  have b := FunD.bindsA (ps := ["_law_script"]) F fun _ _ _ _ _ _ us hl => match us, hl with | [_], _ => rfl
  refine ⟨fd, fun s v => b s [v] rfl, fun base _ _ => ?_⟩
  have c_square := ok_square (P := P) (w := w) (base := base) F_square
  have c_is_beyond := ok_beyond T F_is_beyond c_square
  have c_is_spread := ok_spread F_is_spread c_square
  have c_is_turned := ok_turned (P := P) (w := w) (base := base) T F_is_turned
  have c_flung := ok_flung T F_flung c_is_beyond
  have c__law_tape := ok_tape (P := P) (w := w) (base := base) F__law_tape
  have c__law_draw := ok_draw (P := P) (w := w) (base := base) T F__law_draw
  have c__law_near := ok_near F__law_near c__law_draw
  have c__law_two := ok_two F__law_two c__law_draw
  have c__law_flung := ok_lflung (P := P) (w := w) (base := base) T F__law_flung
  have c__law_stroke := ok_stroke T F__law_stroke c__law_draw
  exact fnOk_of F sc_law (by rintro vs H Q E ⟨a, b, rfl, _⟩; rfl) (body_law T c__law_tape c__law_draw c__law_near c__law_two c__law_stroke c_is_beyond c_is_spread c_is_turned c_flung c__law_flung)
end K08
open PySem PySem.W PySem.Calls PyProof.Rows
set_option maxRecDepth 100000 in
set_option maxHeartbeats 0 in
theorem PySem.Challenge.cw_strokeguess_k08_measures_holds : PySem.Challenge.rw_strokeguess_k08_measures.Holds := by
  w_on; o_law
  refine HandSHeadRun.head_any (r := OpenLaw.row PySem.Challenge.rw_strokeguess_k08_measures) (q := view (OpenLaw.row PySem.Challenge.rw_strokeguess_k08_measures).prog [15]) (H := K08.hk) (ob := K08.ob) (M := 1000) (loose := K08.loose) (d := HandSHeadRun.topDef (OpenLaw.row PySem.Challenge.rw_strokeguess_k08_measures).prog 15) (kwd := []) K08.ob_eq
    (by kernel_rfl) (fun s => by kernel_rfl) K08.run (by kernel_rfl) (by kernel_rfl) (by kernel_rfl) (by rfl) (by first | assumption | decide +kernel) (by decide +kernel) ⟨rfl, rfl, rfl, rfl, rfl, by decide +kernel⟩ ?hw ?hc
  case hw => w_witness2
  case hc =>
    refine L2.walk_ofE (l := PySem.Challenge.rw_strokeguess_k08_measures) (n := 63) (k := 4) (x := "_law_script") (CX := L2.CX0) rfl (by decide) (by kernel_rfl) ⟨rfl, by decide, by decide⟩ ?F (fun _ _ _ _ z => z)
    intro w mg fa h Y G hmg0
    obtain ⟨K, KX, c⟩ := Y
    have hmg : mg ("law" : PySem.Str) = some (.ref fa) := by
      have e : (HandSHeadRun.topDef (OpenLaw.row PySem.Challenge.rw_strokeguess_k08_measures).prog 15).name = ("law" : PySem.Str) := by kernel_rfl
      rw [← e]
      exact hmg0
    obtain ⟨fd, hb, hF⟩ := K08.facts (P := (PySem.Challenge.rw_strokeguess_k08_measures).prog) (w := w) KX G hmg c
    exact ⟨K, fd, K08.sp_law K, KX, hb, fun H a ns hl _ hS => ⟨a, ns, rfl, hS, hl, fun _ => rfl⟩, hF⟩

