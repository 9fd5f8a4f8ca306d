import PyProof.Rows.All
import Wide.All
import OpenK.AllK
import Wide.FinOn
import HandS.ForMost
import HandS.Style
import HandS.RevRange
import HandS.IsInst
import HandS.Evl
import HandS.ForExc
import HandS.ExcCtx
import HandS.ExcIs
import HandS.HotCalls
import HandS.CallLocal
import HandS.Deep
import HandS.Steps
import KE.KRevIter
import HandS.StrMore
import PySem.Challenge.RW_pegtowers_k06_written
set_option Elab.async false
set_option linter.all false
set_option maxRecDepth 100000
namespace Peg
open PySem PyProof.Rows L2

/-! ### defs of the text and what they promise, by name -/
structure DefAt (K : PySem.W.Frag) (mg : Str → Option Value) (x : Str) (st : Stmt) (ps : List Str) (f : Addr) (fd : FuncData) : Prop where
  fn : Fun K x x st f fd
  gl : mg x = some (.ref f)
  ba : ∀ us : List Value, us.length = ps.length → bindArgs fd ⟨us, []⟩ = pure (ps.zip us)
theorem DefAt.bi {K : PySem.W.Frag} {mg : Str → Option Value} {x : Str} {st : Stmt} {ps : List Str} {f : Addr} {fd : FuncData} (D : DefAt K mg x st ps f fd) : Binds K fd ps [] := .all D.ba
/-- the def st stands at the name x -/
def Df (K : PySem.W.Frag) (mg : Str → Option Value) (x : Str) (st : Stmt) (ps : List Str) : Prop := ∃ f fd, DefAt K mg x st ps f fd
/-- the def at the name x keeps the promise sp -/
def Has (P : Program) (w : World) (K : PySem.W.Frag) (mg : Str → Option Value) (base : Heap) (CX : CXT) (k : Nat) (x : Str) (ps : List Str) (sp : Sp) : Prop :=
  ∃ f fd, FnOk P w K mg base CX k f fd ps sp ∧ mg x = some (.ref f) ∧ PySem.W.keepIn K (.ref f) = true ∧ Binds K fd ps []
section
variable {P : Program} {w : World} {K : PySem.W.Frag} {mg : Str → Option Value} {base : Heap}
theorem Df.ok {x : Str} {st : Stmt} {N ps : List Str} {k : Nat} {sp : Sp} (D : Df K mg x st ps) (S : FnScope N ps (defScope st)) (len : ∀ vs H Q E, sp vs H Q E → vs.length = ps.length)
    (hbody : ∀ (f : Addr) (cdv : Value) (A : Around) (outer : List Env) (s : Shared) (H : Hp) (vs : List V) (Q : VK) (E : XK), Room k (A.deeper (envOfC x (defScope st) s.heap.objs.size f cdv)) → sp vs H Q E →
      ∃ t, PSs (cxOf CX0 P w K mg base N x (defScope st) f cdv A outer s H E).nox (defBody st) t ∧ t { nx := fun _ H' => Q .non H', rt := Q } (start N vs) H) : Has P w K mg base CX0 (k + 1) x ps sp := by
  obtain ⟨f, fd, D⟩ := D
  exact ⟨f, fd, D.fn.ok S len (fun cdv A outer s H vs Q E hr h => hbody f cdv A outer s H vs Q E hr h), D.gl, D.fn.kp, D.bi⟩
theorem DefAt.okF {x : Str} {st : Stmt} {N ps : List Str} {k : Nat} {sp : Sp} {f : Addr} {fd : FuncData} (D : DefAt K mg x st ps f fd) (S : FnScope N ps (defScope st)) (len : ∀ vs H Q E, sp vs H Q E → vs.length = ps.length)
    (hbody : ∀ (f : Addr) (cdv : Value) (A : Around) (outer : List Env) (s : Shared) (H : Hp) (vs : List V) (Q : VK) (E : XK), Room k (A.deeper (envOfC x (defScope st) s.heap.objs.size f cdv)) → sp vs H Q E →
      ∃ t, PSs (cxOf CX0 P w K mg base N x (defScope st) f cdv A outer s H E).nox (defBody st) t ∧ t { nx := fun _ H' => Q .non H', rt := Q } (start N vs) H) : FnOk P w K mg base CX0 (k + 1) f fd ps sp :=
  D.fn.ok S len (fun cdv A outer s H vs Q E hr h => hbody f cdv A outer s H vs Q E hr h)
/-- what the top has written of a def -/
theorem df_mk {h : Heap} {x : Str} {st : Stmt} {ps : List Str} {f : Addr} {od an : Option Addr} {sl : Array (Option Value)} {oc kV dc pm cd ct : Value} (X : K.In h) (G : h.Ns mainGlobals mg)
    (a : PySem.W.nsIn K mainGlobals x = some (some (.ref f))) (l : K.lookup f = some ⟨oc, od, .func (PySem.W.fnOf x x (defArgs st) (defBody st) (defScope st) .none kV dc pm an cd ct), sl⟩) (c : PySem.W.codeIn K cd x = true) (k : PySem.W.keepIn K (.ref f) = true)
    (b : ∀ (kV doc pm : Value) (an : Option Addr) (cdv ct : Value) (us : List Value), us.length = ps.length → bindArgs (PySem.W.fnOf x x (defArgs st) (defBody st) (defScope st) .none kV doc pm an cdv ct) ⟨us, []⟩ = pure (ps.zip us)) : Df K mg x st ps :=
  ⟨f, _, fun_mk l c k, PySem.W.mg_of X G a, b _ _ _ _ _ _⟩
theorem df_go {C : Prop} {h : Heap} {x : Str} {st : Stmt} {ps : List Str} {f : Addr} {od an : Option Addr} {sl : Array (Option Value)} {oc kV dc pm cd ct : Value} (X : K.In h) (G : h.Ns mainGlobals mg)
    (a : PySem.W.nsIn K mainGlobals x = some (some (.ref f))) (l : K.lookup f = some ⟨oc, od, .func (PySem.W.fnOf x x (defArgs st) (defBody st) (defScope st) .none kV dc pm an cd ct), sl⟩) (c : PySem.W.codeIn K cd x = true) (k : PySem.W.keepIn K (.ref f) = true)
    (b : ∀ (kV doc pm : Value) (an : Option Addr) (cdv ct : Value) (us : List Value), us.length = ps.length → bindArgs (PySem.W.fnOf x x (defArgs st) (defBody st) (defScope st) .none kV doc pm an cdv ct) ⟨us, []⟩ = pure (ps.zip us)) (go : Df K mg x st ps → C) : C :=
  go (df_mk X G a l c k b)
theorem Has.mono {CX : CXT} {j k : Nat} {x : Str} {ps : List Str} {sp : Sp} (h : Has P w K mg base CX j x ps sp) (l : j ≤ k) : Has P w K mg base CX k x ps sp := by
  obtain ⟨f, fd, F, a, b, c⟩ := h
  exact ⟨f, fd, F.mono l, a, b, c⟩
end
theorem pe_h {X : Cx} {CX : CXT} {k : Nat} {x : Str} {ps : List Str} {sp : Sp} {E : XK} {p pos : Pos} {e : Expr} {es : List Expr} {t : TA} (h : Has X.prog X.w X.K X.mg X.base CX k x ps sp) (hr : Room k X.A) (hx : Passes CX X E) (ha : PA X (e :: es) t) (hg : Gl X x := by rfl)
    (hdb : (x == ("__debug__" : Str)) = false := by decide) (he : starEach (e :: es) X.env = (false, eval e X.env) :: starEach es X.env := by rfl) (hpl : (backTo pos (starEach es X.env)).any (·.1) = false := by rfl) :
    PE X (.Call (.Name x p) (e :: es) [] pos) (tCall sp [] E t) := by
  obtain ⟨f, fd, F, hm, hk, hb⟩ := h
  exact pe_call F hr hg hm hk hb .nil hx ha hdb he hpl

/-! ### readings, step by step -/
section
variable {nx bk ct : L2.St → Hp → Prop} {rt : VK} {σ : L2.St} {H : Hp} {t u : TS} {te ta tb : TE} {tc td : TT} {i : Nat} {Q : VK} {QB : Bool → Hp → Prop} {v x y z : V} {QA : List V → Hp → Prop}
theorem rd_seq (h : t ⟨u ⟨nx, rt, bk, ct⟩, rt, bk, ct⟩ σ H) : tSeq t u ⟨nx, rt, bk, ct⟩ σ H := h
theorem rd_next (h : nx σ H) : tNext ⟨nx, rt, bk, ct⟩ σ H := h
theorem rd_asgN (h : te σ H fun v H' => nx (σ.set i (some v)) H') : tAsg te (gName i) ⟨nx, rt, bk, ct⟩ σ H := h
theorem rd_asgT {K : PySem.W.Frag} {n : Nat} {g : TGs} (h : te σ H fun v H' => gTup K n g v σ H' nx) : tAsg te (gTup K n g) ⟨nx, rt, bk, ct⟩ σ H := h
theorem rd_ret (h : te σ H rt) : tRet te ⟨nx, rt, bk, ct⟩ σ H := h
theorem rd_retN (h : rt .non H) : tRetN ⟨nx, rt, bk, ct⟩ σ H := h
theorem rd_drop (h : te σ H fun _ H' => nx σ H') : tDrop te ⟨nx, rt, bk, ct⟩ σ H := h
theorem rd_ifs (h : tc σ H fun b H1 => if b = true then t ⟨nx, rt, bk, ct⟩ σ H1 else u ⟨nx, rt, bk, ct⟩ σ H1) : tIfS tc t u ⟨nx, rt, bk, ct⟩ σ H := h
theorem rd_aug {ti : TIp} (e : σ[i]? = some (some x)) (h : te σ H fun y H1 => ti x y H1 fun z H2 => nx (σ.set i (some z)) H2) : tAug i te ti ⟨nx, rt, bk, ct⟩ σ H := ⟨x, e, h⟩
theorem rd_ipI {f : Int → Int → Int} {a b : Int} (h : Q (.int (f a b)) H) : ipI f (.int a) (.int b) H Q := ⟨a, b, rfl, rfl, h⟩
theorem rd_par {j : Nat} {tA : TA} (h : tA σ H fun vs H1 => ∃ v w, vs = [v, w] ∧ nx ((σ.set i (some v)).set j (some w)) H1) : tPar i j tA ⟨nx, rt, bk, ct⟩ σ H := h
theorem rd_par2 {w : V} {R : V → V → Prop} (h : R v w) : ∃ a b, [v, w] = [a, b] ∧ R a b := ⟨v, w, rfl, h⟩
theorem rd_par3 {j l : Nat} {tA : TA} (h : tA σ H fun vs H1 => ∃ u v w, vs = [u, v, w] ∧ nx (((σ.set i (some u)).set j (some v)).set l (some w)) H1) : tPar3 i j l tA ⟨nx, rt, bk, ct⟩ σ H := h
theorem rd_par33 {w : V} {R : V → V → V → Prop} (h : R x v w) : ∃ a b c, [x, v, w] = [a, b, c] ∧ R a b c := ⟨x, v, w, rfl, h⟩
theorem rd_var (e : σ[i]? = some (some v)) (h : Q v H) : tVar i σ H Q := ⟨v, e, h⟩
theorem rd_c (h : Q v H) : tC v σ H Q := h
theorem rd_op {r : R2} (h : ta σ H fun x H1 => tb σ H1 fun y H2 => r x y H2 Q) : tOp r ta tb σ H Q := h
theorem rd_un {r : V → Hp → VK → Prop} (h : ta σ H fun x H1 => r x H1 Q) : tUn r ta σ H Q := h
theorem rd_rU {g : Int → V} {a : Int} (h : Q (g a) H) : rU g (.int a) H Q := ⟨a, rfl, h⟩
theorem rd_rI0 {g : Int → Int → V} {a b : Int} (h : Q (g a b) H) : rI0 g (.int a) (.int b) H Q := ⟨a, b, rfl, rfl, h⟩
theorem rd_rI {C : Int → Int → Prop} {g : Int → Int → V} {a b : Int} (c : C a b) (h : Q (g a b) H) : rI C g (.int a) (.int b) H Q := ⟨a, b, rfl, rfl, c, h⟩
theorem rd_rEq (c : scal x y = true) (h : Q (.bl (decide (x = y))) H) : rEq x y H Q := ⟨c, h⟩
theorem rd_rNe (c : scal x y = true) (h : Q (.bl (!decide (x = y))) H) : rNe x y H Q := ⟨c, h⟩
theorem rd_test (h : te σ H fun x H1 => ∃ k, x = .bl k ∧ QB k H1) : tTest te σ H QB := h
theorem rd_tB (h : te σ H fun x H1 => ∃ k, x = .bl k ∧ QB k H1) : tB te σ H QB := h
theorem rd_bl {b : Bool} {R : Bool → Prop} (h : R b) : ∃ k, V.bl b = .bl k ∧ R k := ⟨b, rfl, h⟩
theorem rd_and (h : tc σ H fun c H1 => if c = true then td σ H1 QB else QB false H1) : tAnd tc td σ H QB := h
theorem rd_or (h : tc σ H fun c H1 => if c = true then QB true H1 else td σ H1 QB) : tOr tc td σ H QB := h
theorem rd_not (h : tc σ H fun c H1 => QB (!c) H1) : tNot tc σ H QB := h
theorem rd_andV (h : ta σ H fun x H1 => ∃ c, x = .bl c ∧ if c = true then tb σ H1 Q else Q (.bl false) H1) : tAndV ta tb σ H Q := h
theorem rd_orV (h : ta σ H fun x H1 => ∃ c, x = .bl c ∧ if c = true then Q (.bl true) H1 else tb σ H1 Q) : tOrV ta tb σ H Q := h
theorem rd_notV (h : ta σ H fun x H1 => ∃ c, x = .bl c ∧ Q (.bl (!c)) H1) : tNotV ta σ H Q := h
theorem rd_ife (h : tc σ H fun c H1 => if c = true then ta σ H1 Q else tb σ H1 Q) : tIf tc ta tb σ H Q := h
theorem rd_nil (h : QA [] H) : tNil σ H QA := h
theorem rd_cons {tr : TA} (h : te σ H fun x H1 => tr σ H1 fun xs H2 => QA (x :: xs) H2) : tCons te tr σ H QA := h
theorem rd_call {sp : Sp} {dvs : List V} {E : XK} {tA : TA} (h : tA σ H fun vs H1 => sp (vs ++ dvs) H1 Q E) : tCall sp dvs E tA σ H Q := h
theorem rd_cb {r : List V → Hp → VK → Prop} {tA : TA} (h : tA σ H fun vs H1 => r vs H1 Q) : tCB r tA σ H Q := h
theorem rd_bm {K : PySem.W.Frag} {T : String} {r : V → List V → Hp → VK → Prop} {tA : TA} (h : te σ H fun x H1 => tyV K T x H1 ∧ tA σ H1 fun xs H2 => r x xs H2 Q) : tBM K T r te tA σ H Q := h
theorem rd_bm0 {K : PySem.W.Frag} {T : String} {r : V → List V → Hp → VK → Prop} (h : te σ H fun x H1 => tyV K T x H1 ∧ r x [] H1 Q) : tBM0 K T r te σ H Q := h
theorem rd_gN {R : L2.St → Hp → Prop} (h : R (σ.set i (some v)) H) : gName i v σ H R := h
theorem sz_of {n : Nat} (h : n ≤ 100000) : n ≤ sizeLine := Nat.le_trans h (by decide)
theorem sz_lt {n : Nat} (h : n < 100000) : n < sizeLine := Nat.lt_of_lt_of_le h (by decide)
/-- a new tuple, a new list: what stood stands -/
theorem same_new {H : Hp} {p : Addr} {o : HO} (h : H p = none) : Same H (upd H p o) := fun b x e => by
  rw [upd_ne (ne_of_none e h)]
  exact e
theorem rd_tup {tA : TA} (h : tA σ H fun xs H1 => xs.length ≤ sizeLine ∧ ∀ p, H1 p = none → Q (.ref p) (upd H1 p (.tup xs))) : tTup tA σ H Q := h
theorem rd_lst {tA : TA} (h : tA σ H fun xs H1 => xs.length ≤ sizeLine ∧ ∀ p, H1 p = none → Q (.ref p) (upd H1 p (.lst xs))) : tLst tA σ H Q := h
/-- items -/
theorem rd_ixL {K : PySem.W.Frag} {p : Addr} {xs : List V} {i : Int} (h : SqL K H p xs) (a : atI xs i = some v) (q : Q v H) : rIxL K (.ref p) (.int i) H Q := ⟨p, xs, i, v, rfl, rfl, h, a, q⟩
theorem rd_ixT {K : PySem.W.Frag} {p : Addr} {xs : List V} {i : Int} (h : SqT K H p xs) (a : atI xs i = some v) (q : Q v H) : rIxT K (.ref p) (.int i) H Q := ⟨p, xs, i, v, rfl, rfl, h, a, q⟩
theorem rd_gT {K : PySem.W.Frag} {n : Nat} {g : TGs} {R : L2.St → Hp → Prop} {p : Addr} {xs : List V} (h : SqT K H p xs) (l : xs.length = n) (q : g xs σ H R) : gTup K n g (.ref p) σ H R := ⟨p, xs, rfl, h, l, q⟩
theorem rd_gC {g : TG} {gs : TGs} {r : List V} {R : L2.St → Hp → Prop} (q : g v σ H fun σ' H' => gs r σ' H' R) : gCons g gs (v :: r) σ H R := ⟨v, r, rfl, q⟩
theorem rd_gNil {R : L2.St → Hp → Prop} (q : R σ H) : gNil [] σ H R := ⟨rfl, q⟩
theorem tyV_l {K : PySem.W.Frag} {H : Hp} {p : Addr} {xs : List V} (h : SqL K H p xs) : tyV K "list" (.ref p) H := .inl ⟨rfl, _, h⟩
theorem rd_app {p : Addr} {xs : List V} (h : H p = some (.lst xs)) (l : xs.length < sizeLine) (q : Q .non (upd H p (.lst (xs ++ [v])))) : rAppend (.ref p) [v] H Q := ⟨p, xs, v, rfl, rfl, h, l, q⟩
theorem sqL_of {K : PySem.W.Frag} {p : Addr} {xs : List V} (h : H p = some (.lst xs)) : SqL K H p xs := .inl (.inl h)
theorem sqT_of {K : PySem.W.Frag} {p : Addr} {xs : List V} (h : H p = some (.tup xs)) : SqT K H p xs := .inl (.inl h)
theorem sqT_mono {K : PySem.W.Frag} {H' : Hp} {p : Addr} {xs : List V} (e : Same H H') (h : SqT K H p xs) : SqT K H' p xs := by
  rcases h with (h | ⟨o, h⟩) | h
  · exact .inl (.inl (e _ _ h))
  · exact .inl (.inr ⟨o, e _ _ h⟩)
  · exact .inr h
/-- a list that was not there may change -/
theorem same_mut {H H' : Hp} {p : Addr} {o : HO} (e : Same H H') (h : H p = none) : Same H (upd H' p o) := fun a u ha => by
  rw [upd_ne (ne_of_none ha h)]
  exact e a u ha
theorem rd_len {K : PySem.W.Frag} {p : Addr} {xs : List V} (h : SqL K H p xs) (q : Q (.int xs.length) H) : ∃ a ys, [V.ref p] = [.ref a] ∧ (SqL K H a ys ∨ SqT K H a ys) ∧ Q (.int ys.length) H := ⟨p, xs, rfl, .inl h, q⟩
theorem atI_neg1 {xs : List V} {v : V} : atI (xs ++ [v]) (-1) = some v := atI_last _ _
end
section
variable {H : Hp} {Q : VK} {a b : Int} {X : Cx}
theorem V.int_dec (a b : Int) : decide (V.int a = V.int b) = decide (a = b) := by
  by_cases h : a = b
  · subst h
    rw [decide_eq_true rfl, decide_eq_true rfl]
  · rw [decide_eq_false h, decide_eq_false fun q => h (V.int.inj q)]
theorem rd_eqI (h : Q (.bl (decide (a = b))) H) : rEq (.int a) (.int b) H Q := ⟨rfl, by
  rw [← V.int_dec] at h
  exact h⟩
theorem rd_neI (h : Q (.bl (!decide (a = b))) H) : rNe (.int a) (.int b) H Q := ⟨rfl, by
  rw [← V.int_dec] at h
  exact h⟩
theorem rd_neB {a b : Bool} (h : Q (.bl (a != b)) H) : rNe (.bl a) (.bl b) H Q := ⟨rfl, by
  have e : (!decide (V.bl a = V.bl b)) = (a != b) := by cases a <;> cases b <;> rfl
  rw [e]
  exact h⟩
theorem szb {n : Nat} (h : Nat.ble n 100000 = true) : n ≤ sizeLine := Nat.le_trans (Nat.le_of_ble_eq_true h) (by decide)
theorem rd_sz {A : Prop} {n : Nat} (c : Nat.ble n 100000 = true) (h : A) : n ≤ sizeLine ∧ A := ⟨szb c, h⟩
def iabs (n : Int) : Int := if n < 0 then -n else n
def rAbs : List V → Hp → VK → Prop := fun xs H Q => ∃ i, xs = [.int i] ∧ Q (.int (iabs i)) H
theorem ca_abs : CallR X (.builtin "abs") rAbs := call_abs
theorem rd_abs (h : Q (.int (iabs a)) H) : rAbs [.int a] H Q := ⟨a, rfl, h⟩
def rLen (K : PySem.W.Frag) : List V → Hp → VK → Prop := fun xs H Q => ∃ p ys, xs = [.ref p] ∧ (SqL K H p ys ∨ SqT K H p ys) ∧ Q (.int ys.length) H
theorem ca_len : CallR X (.builtin "len") (rLen X.K) := call_len_seq
theorem rd_lenL {K : PySem.W.Frag} {p : Addr} {xs : List V} (h : SqL K H p xs) (q : Q (.int xs.length) H) : rLen K [.ref p] H Q := ⟨p, xs, rfl, .inl h, q⟩
theorem rd_lenT {K : PySem.W.Frag} {p : Addr} {xs : List V} (h : SqT K H p xs) (q : Q (.int xs.length) H) : rLen K [.ref p] H Q := ⟨p, xs, rfl, .inr h, q⟩
def rMin2 : List V → Hp → VK → Prop := fun xs H Q => ∃ i j, xs = [.int i, .int j] ∧ Q (.int (if j < i then j else i)) H
def rMax2 : List V → Hp → VK → Prop := fun xs H Q => ∃ i j, xs = [.int i, .int j] ∧ Q (.int (if j > i then j else i)) H
theorem ca_min (hc : X.calm = true) : CallR X (.builtin "min") rMin2 := call_min2 hc
theorem ca_max (hc : X.calm = true) : CallR X (.builtin "max") rMax2 := call_max2 hc
theorem rd_min (h : Q (.int (if b < a then b else a)) H) : rMin2 [.int a, .int b] H Q := ⟨a, b, rfl, h⟩
theorem rd_max (h : Q (.int (if b > a then b else a)) H) : rMax2 [.int a, .int b] H Q := ⟨a, b, rfl, h⟩
def rListOf (K : PySem.W.Frag) : List V → Hp → VK → Prop := fun xs H Q => ∃ p ys, xs = [.ref p] ∧ (SqL K H p ys ∨ SqT K H p ys) ∧ ∀ l, H l = none → Q (.ref l) (upd H l (.lst ys))
theorem ca_list : CallR X (.type "list") (rListOf X.K) := call_list_of
theorem rd_listL {K : PySem.W.Frag} {p : Addr} {xs : List V} (h : SqL K H p xs) (q : ∀ l, H l = none → Q (.ref l) (upd H l (.lst xs))) : rListOf K [.ref p] H Q := ⟨p, xs, rfl, .inl h, q⟩
def rStrI : List V → Hp → VK → Prop := fun xs H Q => ∃ i, xs = [.int i] ∧ i.natAbs.log2 < 1920 ∧ Q (.str (toString i)) H
theorem ca_str : CallR X (.type "str") rStrI := call_str_int
end
section
variable {A B : Prop} {c : Bool}
theorem rd_ifT (hc : c = true) (h : A) : if c = true then A else B := by
  rw [if_pos hc]
  exact h
theorem rd_ifF (hc : c = false) (h : B) : if c = true then A else B := by
  rw [hc, if_neg Bool.false_ne_true]
  exact h
theorem rd_if2 (h1 : c = true → A) (h2 : c = false → B) : if c = true then A else B := by
  cases c
  · exact rd_ifF rfl (h2 rfl)
  · exact rd_ifT rfl (h1 rfl)
theorem rd_ifP {p : Prop} [Decidable p] (h1 : p → A) (h2 : ¬ p → B) : if decide p = true then A else B := rd_if2 (fun h => h1 (of_decide_eq_true h)) (fun h => h2 (of_decide_eq_false h))
theorem rd_ifN {p : Prop} [Decidable p] (h1 : ¬ p → A) (h2 : p → B) : if (!decide p) = true then A else B := by
  by_cases h : p
  · exact rd_ifF (by rw [decide_eq_true h]; rfl) (h2 h)
  · exact rd_ifT (by rw [decide_eq_false h]; rfl) (h1 h)
end
theorem cxOf_K {CX : CXT} {P : Program} {w : World} {K : PySem.W.Frag} {mg : Str → Option Value} {base : Heap} {N : List Str} {q : Str} {sc : Scope} {f : Addr} {cd : Value} {A : Around} {o : List Env} {s : Shared} {H : Hp} {E : XK} :
    (cxOf CX P w K mg base N q sc f cd A o s H E).nox.K = K := rfl
/-! ### loops -/
def ForW (J : It) (g : TG) (tb : TS) (D : Ends) (σ : L2.St) (H : Hp) : Prop := ∃ W : Nat → Nat → L2.St → Hp → Prop, (∃ m, W 0 m σ H) ∧ ∀ i m σ H, W i m σ H →
  (J.stop i H ∧ D.nx σ H) ∨ (J.go i H ∧ ∃ N : L2.St → Hp → Prop, (∀ σ' H', N σ' H' → ∃ m', m' < m ∧ W (i + 1) m' σ' H') ∧ ∀ x H', J.yld i H x H' → g x σ H' fun σ2 H2 => tb { D with nx := N, ct := N, bk := D.nx } σ2 H2)
def iR1 : List V → Hp → (It → Hp → Prop) → Prop := fun vs H1 R => ∃ j : Int, vs = [.int j] ∧ -(2 ^ 62) ≤ j ∧ j < 2 ^ 62 ∧ R (Itr 0 j.toNat) H1
def iR2 : List V → Hp → (It → Hp → Prop) → Prop := fun vs H1 R => ∃ i j : Int, vs = [.int i, .int j] ∧ (-(2 ^ 62) ≤ i ∧ i < 2 ^ 62 ∧ -(2 ^ 62) ≤ j ∧ j < 2 ^ 62) ∧ R (Itr i (j - i).toNat) H1
def iL1 (K : PySem.W.Frag) : V → Hp → (It → Hp → Prop) → Prop := fun x H1 R => ∃ a, x = .ref a ∧ (∃ xs, SqL K H1 a xs) ∧ R (Itl K a) H1
def iT1 (K : PySem.W.Frag) : V → Hp → (It → Hp → Prop) → Prop := fun x H1 R => ∃ a, x = .ref a ∧ (∃ xs, SqT K H1 a xs) ∧ R (Itt K a) H1
def iE1 (K : PySem.W.Frag) : List V → Hp → (It → Hp → Prop) → Prop := fun vs H1 R => ∃ a xs, vs = [.ref a] ∧ SqL K H1 a xs ∧ R (Ite K a) H1
def iV1 (K : PySem.W.Frag) : List V → Hp → (It → Hp → Prop) → Prop := fun vs H1 R => ∃ (a : Addr) (xs : List V), vs = [.ref a] ∧ SqL K H1 a xs ∧ R (Itv K a xs.length) H1
section
variable {nx bk ct : L2.St → Hp → Prop} {rt : VK} {σ : L2.St} {H : Hp} {tb : TS} {te : TE} {tA : TA} {j l n : Nat} {K : PySem.W.Frag} {a : Addr} {xs : List V} {R : It → Hp → Prop} {wi : TI} {g : TG}
theorem rd_for (h : wi σ H fun J H1 => ForW J g tb ⟨nx, rt, bk, ct⟩ σ H1) : tFor wi g tb ⟨nx, rt, bk, ct⟩ σ H := h
theorem rd_iR1 (h : tA σ H fun vs H1 => iR1 vs H1 R) : iRng1 tA σ H R := h
theorem rd_iR2 (h : tA σ H fun vs H1 => iR2 vs H1 R) : iRng2 tA σ H R := h
theorem rd_iL (h : te σ H fun x H1 => iL1 K x H1 R) : iList K te σ H R := h
theorem rd_iT (h : te σ H fun x H1 => iT1 K x H1 R) : iTup K te σ H R := h
theorem rd_iE (h : tA σ H fun vs H1 => iE1 K vs H1 R) : iEnum K tA σ H R := h
theorem rd_iV (h : tA σ H fun vs H1 => iV1 K vs H1 R) : iRev K tA σ H R := h
theorem rd_r1 (c : n ≤ 1000000) (h : R (Itr 0 n) H) : iR1 [.int (n : Int)] H R := ⟨n, rfl, by omega, by omega, by rw [Int.toNat_natCast]; exact h⟩
theorem rd_r1i {i : Int} (c : 0 ≤ i ∧ i ≤ 1000000) (h : R (Itr 0 i.toNat) H) : iR1 [.int i] H R := ⟨i, rfl, by omega, by omega, h⟩
theorem rd_l1 (c : SqL K H a xs) (h : R (Itl K a) H) : iL1 K (.ref a) H R := ⟨a, rfl, ⟨xs, c⟩, h⟩
theorem rd_t1 (c : SqT K H a xs) (h : R (Itt K a) H) : iT1 K (.ref a) H R := ⟨a, rfl, ⟨xs, c⟩, h⟩
theorem rd_e1 (c : SqL K H a xs) (h : R (Ite K a) H) : iE1 K [.ref a] H R := ⟨a, xs, rfl, c, h⟩
theorem rd_v1 (c : SqL K H a xs) (h : R (Itv K a xs.length) H) : iV1 K [.ref a] H R := ⟨a, xs, rfl, c, h⟩
/-- for x in range(n) -/
theorem for_r (Pv : Nat → L2.St → Hp → Prop) (h0 : Pv 0 σ H) (hs : ∀ i σ H, i < n → Pv i σ H → tb ⟨Pv (i + 1), rt, nx, Pv (i + 1)⟩ (σ.set j (some (.int (i : Nat)))) H) (hd : ∀ σ H, Pv n σ H → nx σ H) :
    ForW (Itr 0 n) (gName j) tb ⟨nx, rt, bk, ct⟩ σ H :=
  for_range (D := ⟨nx, rt, bk, ct⟩) Pv h0 (fun i σ H hi p => by
    show tb ⟨Pv (i + 1), rt, nx, Pv (i + 1)⟩ (σ.set j (some (.int (0 + (i : Int))))) H
    rw [Int.zero_add]
    exact hs i σ H hi p) hd
/-- for x in xs -/
theorem for_l (Pv : Nat → L2.St → Hp → Prop) (h0 : Pv 0 σ H) (hl : ∀ i σ H, i ≤ xs.length → Pv i σ H → SqL K H a xs) (hs : ∀ i x σ H, xs[i]? = some x → Pv i σ H → tb ⟨Pv (i + 1), rt, nx, Pv (i + 1)⟩ (σ.set j (some x)) H) (hd : ∀ σ H, Pv xs.length σ H → nx σ H) :
    ForW (Itl K a) (gName j) tb ⟨nx, rt, bk, ct⟩ σ H :=
  for_list (D := ⟨nx, rt, bk, ct⟩) Pv h0 hl hs hd
/-- for x in xs, any target -/
theorem for_lg (Pv : Nat → L2.St → Hp → Prop) (h0 : Pv 0 σ H) (hl : ∀ i σ H, i ≤ xs.length → Pv i σ H → SqL K H a xs) (hs : ∀ i x σ H, xs[i]? = some x → Pv i σ H → g x σ H fun σ2 H2 => tb ⟨Pv (i + 1), rt, nx, Pv (i + 1)⟩ σ2 H2) (hd : ∀ σ H, Pv xs.length σ H → nx σ H) :
    ForW (Itl K a) g tb ⟨nx, rt, bk, ct⟩ σ H :=
  for_list (D := ⟨nx, rt, bk, ct⟩) Pv h0 hl hs hd
/-- for x in a tuple -/
theorem for_t (Pv : Nat → L2.St → Hp → Prop) (h0 : Pv 0 σ H) (hl : ∀ i σ H, i ≤ xs.length → Pv i σ H → SqT K H a xs) (hs : ∀ i x σ H, xs[i]? = some x → Pv i σ H → g x σ H fun σ2 H2 => tb ⟨Pv (i + 1), rt, nx, Pv (i + 1)⟩ σ2 H2) (hd : ∀ σ H, Pv xs.length σ H → nx σ H) :
    ForW (Itt K a) g tb ⟨nx, rt, bk, ct⟩ σ H :=
  for_tup (D := ⟨nx, rt, bk, ct⟩) Pv h0 hl hs hd
/-- for x, y in enumerate(xs) -/
theorem for_e {m : Nat} (Pv : Nat → L2.St → Hp → Prop) (h0 : Pv 0 σ H) (hl : ∀ i σ H, i ≤ xs.length → Pv i σ H → SqL K H a xs)
    (hs : ∀ i x σ H H', xs[i]? = some x → Pv i σ H → Same H H' → tb ⟨Pv (i + 1), rt, nx, Pv (i + 1)⟩ ((σ.set j (some (.int (i : Nat)))).set l (some x)) H') (hd : ∀ σ H, Pv xs.length σ H → nx σ H) (hm : m = 2 := by rfl) :
    ForW (Ite K a) (gTup K m (gCons (gName j) (gCons (gName l) gNil))) tb ⟨nx, rt, bk, ct⟩ σ H := by
  subst hm
  refine ⟨fun i m σ H => m = xs.length - i ∧ i ≤ xs.length ∧ Pv i σ H, ⟨xs.length, by simp, Nat.zero_le _, h0⟩, ?_⟩
  rintro i m σ H ⟨rfl, hi, p⟩
  have q := hl i σ H hi p
  by_cases hlt : i < xs.length
  · refine .inr ⟨⟨xs, xs[i], q, by simp [hlt]⟩, Pv (i + 1), fun σ' H' p' => ⟨xs.length - (i + 1), by omega, rfl, hlt, p'⟩, fun x H' y => ?_⟩
    obtain ⟨T, x', rfl, nT, rfl, y⟩ := y
    exact ⟨T, _, rfl, sqT_of upd_same, rfl, _, _, rfl, _, _, rfl, rfl, hs i x' σ H _ (y xs q) p (same_new nT)⟩
  · have e : i = xs.length := by omega
    subst e
    exact .inl ⟨⟨xs, q, Nat.le_refl _⟩, hd σ H p⟩
/-- for x in reversed(xs) -/
theorem for_v (Pv : Nat → L2.St → Hp → Prop) (h0 : Pv 0 σ H) (hl : ∀ i σ H, i ≤ xs.length → Pv i σ H → SqL K H a xs)
    (hs : ∀ i x σ H, i < xs.length → xs[xs.length - 1 - i]? = some x → Pv i σ H → tb ⟨Pv (i + 1), rt, nx, Pv (i + 1)⟩ (σ.set j (some x)) H) (hd : ∀ σ H, Pv xs.length σ H → nx σ H) :
    ForW (Itv K a xs.length) (gName j) tb ⟨nx, rt, bk, ct⟩ σ H := by
  refine ⟨fun i m σ H => m = xs.length - i ∧ i ≤ xs.length ∧ Pv i σ H, ⟨xs.length, by simp, Nat.zero_le _, h0⟩, ?_⟩
  rintro i m σ H ⟨rfl, hi, p⟩
  have q := hl i σ H hi p
  by_cases hlt : i < xs.length
  · have hlt2 : xs.length - 1 - i < xs.length := by omega
    refine .inr ⟨⟨hlt, xs, xs[xs.length - 1 - i], q, by simp [hlt2]⟩, Pv (i + 1), fun σ' H' p' => ⟨xs.length - (i + 1), by omega, rfl, hlt, p'⟩, fun x H' y => ?_⟩
    obtain ⟨rfl, y⟩ := y
    exact hs i x σ _ hlt (y xs q) p
  · have e : i = xs.length := by omega
    subst e
    exact .inl ⟨Nat.le_refl _, hd σ H p⟩
/-- for x in reversed(range(n)) -/
theorem for_rv (Pv : Nat → L2.St → Hp → Prop) (h0 : Pv 0 σ H) (hs : ∀ i σ H, i < n → Pv i σ H → tb ⟨Pv (i + 1), rt, nx, Pv (i + 1)⟩ (σ.set j (some (.int ((n - 1 - i : Nat) : Int)))) H) (hd : ∀ σ H, Pv n σ H → nx σ H) {lo : Int} (e : lo = (n : Int) - 1) :
    ForW (Itc lo (-1) n) (gName j) tb ⟨nx, rt, bk, ct⟩ σ H :=
  for_rangeC (D := ⟨nx, rt, bk, ct⟩) Pv h0 (fun i σ H hi p => by
    show tb ⟨Pv (i + 1), rt, nx, Pv (i + 1)⟩ (σ.set j (some (.int (lo + (i : Nat) * (-1))))) H
    have z : lo + (i : Nat) * (-1) = ((n - 1 - i : Nat) : Int) := by omega
    rw [z]
    exact hs i σ H hi p) hd
end
theorem tup_keep {H : Hp} {p l : Addr} {x ys : List V} {o : HO} (hp : H p = some (.tup x)) (hl : H l = some (.lst ys)) : upd H l o p = some (.tup x) := by
  rw [upd_ne (ne_of hp hl (by intro z; cases z))]
  exact hp
theorem paired_last {α β : Type} {F : α → β → Prop} {b : β} : ∀ {l₂ : List β} {l₁ : List α}, Paired F l₁ (l₂ ++ [b]) → ∃ us v, l₁ = us ++ [v] ∧ Paired F us l₂ ∧ F v b
  | [], _, .cons h .nil => ⟨[], _, rfl, .nil, h⟩
  | _ :: l₂, _, .cons h t => by
    obtain ⟨us, v, e, h1, h2⟩ := paired_last (l₂ := l₂) t
    subst e
    exact ⟨_ :: us, v, rfl, .cons h h1, h2⟩
theorem paired_get2 {α β : Type} {F : α → β → Prop} : ∀ {l₁ : List α} {l₂ : List β}, Paired F l₁ l₂ → ∀ {i : Nat} {b : β}, l₂[i]? = some b → ∃ a, l₁[i]? = some a ∧ F a b
  | _, _, .nil, i, b, h => by simp at h
  | _, _, .cons r t, 0, b, h => by
    cases h
    exact ⟨_, rfl, r⟩
  | _, _, .cons r t, i + 1, b, h => paired_get2 t (i := i) h
theorem paired_get1 {α β : Type} {F : α → β → Prop} : ∀ {l₁ : List α} {l₂ : List β}, Paired F l₁ l₂ → ∀ {i : Nat} {a : α}, l₁[i]? = some a → ∃ b, l₂[i]? = some b ∧ F a b
  | _, _, .nil, i, b, h => by simp at h
  | _, _, .cons r t, 0, b, h => by
    cases h
    exact ⟨_, rfl, r⟩
  | _, _, .cons r t, i + 1, b, h => paired_get1 t (i := i) h

/-! ### data compared -/
mutual
theorem Dp.mono {K : PySem.W.Frag} {H H' : Hp} (e : Same H H') : ∀ (d : PyData) (v : V), Dp K H v d → Dp K H' v d
  | .none, _, h => by
    cases h
    exact .non
  | .bool _, _, h => by
    cases h
    exact .bl _
  | .int _, _, h => by
    cases h
    exact .int _
  | .str _, _, h => by
    cases h
    exact .str _
  | .list ds, _, h => by
    cases h with
    | lst hs ha => exact .lst (e.seq hs) (Dp.monoAll e ds _ ha)
  | .tuple ds, _, h => by
    cases h with
    | tup hs ha => exact .tup (sqT_mono e hs) (Dp.monoAll e ds _ ha)
  | .dict _, _, h => by cases h
theorem Dp.monoAll {K : PySem.W.Frag} {H H' : Hp} (e : Same H H') : ∀ (ds : List PyData) (vs : List V), DpAll K H vs ds → DpAll K H' vs ds
  | [], _, h => by
    cases h
    exact .nil
  | d :: ds, _, h => by
    cases h with
    | cons h1 h2 => exact .cons (Dp.mono e d _ h1) (Dp.monoAll e ds _ h2)
end
/-! numbers, texts, lists and tuples of such -/
mutual
def plain : PyData → Bool
  | .int _ => true
  | .str _ => true
  | .list xs => plainAll xs
  | .tuple xs => plainAll xs
  | _ => false
def plainAll : List PyData → Bool
  | [] => true
  | x :: xs => plain x && plainAll xs
end
mutual
theorem eqv_plain : ∀ d e : PyData, plain d = true → plain e = true → (PyData.eqv d e = true ↔ d = e)
  | .int i, .int j, _, _ => by simp [PyData.eqv]
  | .str i, .str j, _, _ => by simp [PyData.eqv]
  | .list xs, .list ys, h1, h2 => by
    have := eqvAll_plain xs ys (by simpa [plain] using h1) (by simpa [plain] using h2)
    simp [PyData.eqv, this]
  | .tuple xs, .tuple ys, h1, h2 => by
    have := eqvAll_plain xs ys (by simpa [plain] using h1) (by simpa [plain] using h2)
    simp [PyData.eqv, this]
  | .int _, .str _, _, _ => by simp [PyData.eqv]
  | .int _, .list _, _, _ => by simp [PyData.eqv]
  | .int _, .tuple _, _, _ => by simp [PyData.eqv]
  | .str _, .int _, _, _ => by simp [PyData.eqv]
  | .str _, .list _, _, _ => by simp [PyData.eqv]
  | .str _, .tuple _, _, _ => by simp [PyData.eqv]
  | .list _, .int _, _, _ => by simp [PyData.eqv]
  | .list _, .str _, _, _ => by simp [PyData.eqv]
  | .list _, .tuple _, _, _ => by simp [PyData.eqv]
  | .tuple _, .int _, _, _ => by simp [PyData.eqv]
  | .tuple _, .str _, _, _ => by simp [PyData.eqv]
  | .tuple _, .list _, _, _ => by simp [PyData.eqv]
  | .none, _, h, _ => by simp [plain] at h
  | .bool _, _, h, _ => by simp [plain] at h
  | .dict _, _, h, _ => by simp [plain] at h
  | .int _, .none, _, h => by simp [plain] at h
  | .int _, .bool _, _, h => by simp [plain] at h
  | .int _, .dict _, _, h => by simp [plain] at h
  | .str _, .none, _, h => by simp [plain] at h
  | .str _, .bool _, _, h => by simp [plain] at h
  | .str _, .dict _, _, h => by simp [plain] at h
  | .list _, .none, _, h => by simp [plain] at h
  | .list _, .bool _, _, h => by simp [plain] at h
  | .list _, .dict _, _, h => by simp [plain] at h
  | .tuple _, .none, _, h => by simp [plain] at h
  | .tuple _, .bool _, _, h => by simp [plain] at h
  | .tuple _, .dict _, _, h => by simp [plain] at h
theorem eqvAll_plain : ∀ xs ys : List PyData, plainAll xs = true → plainAll ys = true → (PyData.eqvAll xs ys = true ↔ xs = ys)
  | [], [], _, _ => by simp [PyData.eqvAll]
  | x :: xs, y :: ys, h1, h2 => by
    simp only [plainAll, Bool.and_eq_true] at h1 h2
    have a := eqv_plain x y h1.1 h2.1
    have b := eqvAll_plain xs ys h1.2 h2.2
    simp [PyData.eqvAll, a, b]
  | [], _ :: _, _, _ => by simp [PyData.eqvAll]
  | _ :: _, [], _, _ => by simp [PyData.eqvAll]
end
theorem eqv_dec {d e : PyData} {p : Prop} [Decidable p] (h1 : plain d = true) (h2 : plain e = true) (h : d = e ↔ p) : PyData.eqv d e = decide p := by
  have k := (eqv_plain d e h1 h2).trans h
  by_cases q : p
  · rw [decide_eq_true q]
    exact k.mpr q
  · rw [decide_eq_false q]
    cases z : PyData.eqv d e with
    | false => rfl
    | true => exact absurd (k.mp z) q
/-- what of it the rules ask -/
structure Good (d : PyData) : Prop where
  pl : plain d = true
  sh : SeqAt.shaped d = true
def dInts (ns : List Int) : PyData := .list (ns.map .int)
def dPair (c : Int × Int) : PyData := .tuple [.int c.1, .int c.2]
def dPairs (cs : List (Int × Int)) : PyData := .list (cs.map dPair)
theorem plainAll_of : ∀ {ds : List PyData}, (∀ d ∈ ds, plain d = true) → plainAll ds = true
  | [], _ => rfl
  | d :: ds, h => by
    show (plain d && plainAll ds) = true
    rw [h d List.mem_cons_self, plainAll_of fun x hx => h x (List.mem_cons_of_mem _ hx)]
    rfl
theorem canAll_of : ∀ {ds : List PyData}, (∀ d ∈ ds, d.canLay0 = true) → PyData.canLayAll0 ds = true
  | [], _ => by simp [PyData.canLayAll0]
  | d :: ds, h => by
    simp only [PyData.canLayAll0, Bool.and_eq_true]
    exact ⟨h d List.mem_cons_self, canAll_of fun x hx => h x (List.mem_cons_of_mem _ hx)⟩
theorem depthAll_of {n : Nat} : ∀ {ds : List PyData}, (∀ d ∈ ds, d.depth ≤ n) → PyData.depthAll ds ≤ n
  | [], _ => by simp [PyData.depthAll]
  | d :: ds, h => by
    have h1 := h d List.mem_cons_self
    have h2 := depthAll_of (ds := ds) fun x hx => h x (List.mem_cons_of_mem _ hx)
    simp only [PyData.depthAll]
    omega
/-- data of depth n at most -/
structure GoodN (n : Nat) (d : PyData) : Prop where
  pl : plain d = true
  cl : d.canLay0 = true
  dp : d.depth ≤ n
theorem GoodN.good {n : Nat} {d : PyData} (h : GoodN n d) (hn : n ≤ 64 := by decide) : Good d := ⟨h.pl, by
  unfold SeqAt.shaped
  rw [h.cl, decide_eq_true (Nat.le_trans h.dp hn)]
  rfl⟩
theorem GoodN.int (n : Nat) (i : Int) : GoodN n (.int i) := ⟨rfl, by simp [PyData.canLay0], by simp [PyData.depth]⟩
theorem GoodN.list {n : Nat} {ds : List PyData} (h : ∀ d ∈ ds, GoodN n d) : GoodN (n + 1) (.list ds) :=
  ⟨by simpa [plain] using plainAll_of fun d hd => (h d hd).pl, by simpa [PyData.canLay0] using canAll_of fun d hd => (h d hd).cl, by simpa [PyData.depth] using depthAll_of fun d hd => (h d hd).dp⟩
theorem GoodN.tuple {n : Nat} {ds : List PyData} (h : ∀ d ∈ ds, GoodN n d) : GoodN (n + 1) (.tuple ds) :=
  ⟨by simpa [plain] using plainAll_of fun d hd => (h d hd).pl, by simpa [PyData.canLay0] using canAll_of fun d hd => (h d hd).cl, by simpa [PyData.depth] using depthAll_of fun d hd => (h d hd).dp⟩
theorem good_ints (n : Nat) (ns : List Int) : GoodN (n + 1) (dInts ns) := .list fun d hd => by
  obtain ⟨i, _, rfl⟩ := List.mem_map.mp hd
  exact .int n i
theorem good_pair (n : Nat) (c : Int × Int) : GoodN (n + 1) (dPair c) := .tuple fun d hd => by
  rcases List.mem_cons.mp hd with rfl | hd
  · exact .int n _
  · rcases List.mem_cons.mp hd with rfl | hd
    · exact .int n _
    · cases hd
theorem good_pairs (n : Nat) (cs : List (Int × Int)) : GoodN (n + 2) (dPairs cs) := .list fun d hd => by
  obtain ⟨i, _, rfl⟩ := List.mem_map.mp hd
  exact good_pair n i
theorem dInts_inj {ns ms : List Int} : dInts ns = dInts ms ↔ ns = ms := by
  constructor
  · intro h
    have h := PyData.list.inj h
    exact List.map_inj_right (fun _ _ z => PyData.int.inj z) |>.mp h
  · rintro rfl
    rfl
theorem dPair_inj {c d : Int × Int} : dPair c = dPair d ↔ c = d := by
  constructor
  · intro h
    have h := PyData.tuple.inj h
    simp only [List.cons.injEq, PyData.int.injEq, and_true] at h
    exact Prod.ext h.1 h.2
  · rintro rfl
    rfl
theorem dPairs_inj {ns ms : List (Int × Int)} : dPairs ns = dPairs ms ↔ ns = ms := by
  constructor
  · intro h
    have h := PyData.list.inj h
    exact List.map_inj_right (fun _ _ z => dPair_inj.mp z) |>.mp h
  · rintro rfl
    rfl
theorem dpAll_ints {K : PySem.W.Frag} {H : Hp} : ∀ ns : List Int, DpAll K H (ns.map V.int) (ns.map PyData.int)
  | [] => .nil
  | n :: ns => .cons (.int n) (dpAll_ints ns)
theorem dp_ints {K : PySem.W.Frag} {H : Hp} {a : Addr} {ns : List Int} (h : SqL K H a (ns.map V.int)) : Dp K H (.ref a) (dInts ns) := .lst h (dpAll_ints ns)
section
variable {K : PySem.W.Frag} {H : Hp} {Q : VK} {x y : V} {d e : PyData} {p : Prop} [Decidable p]
theorem rd_eqD (hx : Dp K H x d) (hy : Dp K H y e) (gd : Good d) (ge : Good e) (hp : d = e ↔ p) (q : Q (.bl (decide p)) H) : rEqD K x y H Q := ⟨d, e, hx, hy, gd.sh, ge.sh, by
  rw [eqv_dec gd.pl ge.pl hp]
  exact q⟩
theorem rd_neD (hx : Dp K H x d) (hy : Dp K H y e) (gd : Good d) (ge : Good e) (hp : d = e ↔ p) (q : Q (.bl (!decide p)) H) : rNeD K x y H Q := ⟨d, e, hx, hy, gd.sh, ge.sh, by
  rw [eqv_dec gd.pl ge.pl hp]
  exact q⟩
end

def rRev (K : PySem.W.Frag) : V → Hp → VK → Prop := fun x H Q => ∃ a xs, x = .ref a ∧ SqL K H a xs ∧ ∀ p, H p = none → Q (.ref p) (upd H p (.lst xs.reverse))
section
variable {K : PySem.W.Frag} {σ : L2.St} {H : Hp} {Q : VK} {te : TE} {a : Addr} {xs : List V} {lo hi : Option Int} {i : Int} {tl th t1 : TO} {QO : Option Int → Hp → Prop} {l b : Addr} {ys : List V}
theorem rd_rev (h : te σ H fun x H1 => rRev K x H1 Q) : tRevL K te σ H Q := h
theorem rd_rev1 (h : SqL K H a xs) (q : ∀ p, H p = none → Q (.ref p) (upd H p (.lst xs.reverse))) : rRev K (.ref a) H Q := ⟨a, xs, rfl, h, q⟩
theorem rd_sl {r : V → Option Int → Option Int → Hp → VK → Prop} (h : te σ H fun x H1 => tl σ H1 fun l H2 => th σ H2 fun u H3 => r x l u H3 Q) : tSl r te tl th σ H Q := h
theorem rd_noP (h : QO none H) : tNoPart σ H QO := h
theorem rd_part (h : te σ H fun x H1 => ∃ i, x = .int i ∧ QO (some i) H1) : tPart te σ H QO := h
theorem rd_int1 {R : Int → Prop} (h : R i) : ∃ j, V.int i = .int j ∧ R j := ⟨i, rfl, h⟩
theorem rd_slL (h : SqL K H a xs) (q : ∀ p, H p = none → Q (.ref p) (upd H p (.lst (cutV xs lo hi)))) : rSlL K (.ref a) lo hi H Q := ⟨a, xs, rfl, h, q⟩
theorem rd_cat (h1 : H l = some (.lst xs)) (h2 : H b = some (.lst ys)) (z : xs.length + ys.length ≤ 100000) (q : ∀ p, H p = none → Q (.ref p) (upd H p (.lst (xs ++ ys)))) : rCat (.ref l) (.ref b) H Q := ⟨l, b, xs, ys, rfl, rfl, h1, h2, sz_of z, q⟩
theorem flat_rep {α : Type} (v : α) : ∀ n : Nat, (List.replicate n [v]).flatten = List.replicate n v
  | 0 => rfl
  | n + 1 => by
    rw [List.replicate_succ, List.flatten_cons, flat_rep v n, List.replicate_succ] <;> rfl
theorem rd_rep1 {v : V} {n : Nat} (h1 : H l = some (.lst [v])) (z : n ≤ 100000) (q : ∀ p, H p = none → Q (.ref p) (upd H p (.lst (List.replicate n v)))) : rRep (.ref l) (.int (n : Int)) H Q :=
  ⟨l, n, [v], rfl, rfl, h1, by omega, by omega, sz_of (by rw [Int.toNat_natCast]; show 1 * n ≤ 100000; omega), by
    rw [Int.toNat_natCast, flat_rep]
    exact q⟩
end

/-! ### kinds -/
/-- the built-in type of a value, where it is one of the plain ones -/
def tyF : V → Option String
  | .non => some "NoneType"
  | .bl _ => some "bool"
  | .int _ => some "int"
  | .str _ => some "str"
  | _ => none
section
variable {K : PySem.W.Frag} {H : Hp} {Q : VK} {x : V} {a c : String} {b : Bool} {i : Int}
theorem rd_isi (ty : TyX K H x (.type a)) (e : kitB a c = some b) (q : Q (.bl b) H) : rIsi K [x, .ty c] H Q := ⟨x, .ty c, _, _, b, rfl, .ty c, ty, kit_ty e, q⟩
theorem ty_int : TyX K H (.int i) (.type "int") := .base (.int i)
theorem rd_isiI (q : Q (.bl true) H) : rIsi K [.int i, .ty "int"] H Q := rd_isi ty_int (by decide +kernel) q
theorem rd_isiB (q : Q (.bl false) H) : rIsi K [.int i, .ty "bool"] H Q := rd_isi ty_int (by decide +kernel) q
theorem rd_isiS {s : Str} (q : Q (.bl true) H) : rIsi K [.str s, .ty "str"] H Q := rd_isi (.base (.str s)) (by decide +kernel) q
/-- a list that is read has the type list -/
theorem ty_list {p : Addr} {xs : List V} (h : SqL K H p xs) : TyX K H (.ref p) (.type "list") := by
  rcases h with (h | ⟨o, h⟩) | ⟨o, its, n, h1, h2, _⟩
  · exact .base (.lst h)
  · exact .base (.frz h)
  · exact .kList h1 h2
theorem ty_tup {p : Addr} {xs : List V} (h : SqT K H p xs) : TyX K H (.ref p) (.type "tuple") := by
  rcases h with (h | ⟨o, h⟩) | ⟨o, its, n, h1, h2, _⟩
  · exact .base (.tup h)
  · exact .fTuple h
  · exact .kTuple h1 h2
theorem rd_isiL {p : Addr} {xs : List V} (h : SqL K H p xs) (q : Q (.bl true) H) : rIsi K [.ref p, .ty "list"] H Q := rd_isi (ty_list h) (by decide +kernel) q
theorem rd_isiT {p : Addr} {xs : List V} (h : SqT K H p xs) (q : Q (.bl true) H) : rIsi K [.ref p, .ty "tuple"] H Q := rd_isi (ty_tup h) (by decide +kernel) q
end
section
variable {nx bk ct : L2.St → Hp → Prop} {rt : VK} {σ : L2.St} {H : Hp} {Q : VK} {te ta tb tc : TE} {r r' : R2} {x : V}
theorem rd_chain (h : ta σ H fun x H1 => tb σ H1 fun y H2 => r x y H2 fun z H3 => ∃ k, z = .bl k ∧ if k = true then tc σ H3 fun w H4 => r' y w H4 Q else Q (.bl false) H3) : tChain r r' ta tb tc σ H Q := h
/-- in, not in -/
theorem rd_in {K : PySem.W.Frag} {neg : Bool} {p : Addr} {xs : List V} (h : SqL K H p xs) (hx : flatV x = true) (ha : xs.all flatV = true) (q : Q (.bl (if neg then !inV x xs else inV x xs)) H) : rIn K neg x (.ref p) H Q := ⟨p, xs, rfl, .inl h, hx, ha, q⟩
/-- all -/
theorem rd_all {K : PySem.W.Frag} {p : Addr} {bs : List Bool} (h : SqL K H p (bs.map V.bl)) (q : Q (.bl (bs.all id)) H) : rAll K [.ref p] H Q := ⟨p, bs, rfl, h, q⟩
theorem rd_any {K : PySem.W.Frag} {p : Addr} {bs : List Bool} (h : SqL K H p (bs.map V.bl)) (q : Q (.bl (bs.any id)) H) : rAny K [.ref p] H Q := ⟨p, bs, rfl, h, q⟩
end
/-! ### comprehensions -/
def LcW (J : It) (D : Addr) (g : TG) (tt : TT) (te : TE) (vs : List Nat) (σ : L2.St) (Q : VK) (H1 : Hp) : Prop := ∃ W : Nat → Nat → Hp → Prop, (∃ m, W 0 m (upd H1 D (.lst []))) ∧ ∀ i m H, W i m H →
  (J.stop i H ∧ Q (.ref D) H) ∨ (J.go i H ∧ ∃ Nx : Hp → Prop, (∀ H', Nx H' → ∃ m', m' < m ∧ W (i + 1) m' H') ∧ ∀ x H', J.yld i H x H' → g x (wipe σ vs) H' fun σ2 H2 => wipe σ2 vs = wipe σ vs ∧ tt σ2 H2 fun b H3 =>
    if b = true then te σ2 H3 fun y H4 => ∃ acc, H4 D = some (.lst acc) ∧ acc.length < sizeLine ∧ Nx (upd H4 D (.lst (acc ++ [y]))) else Nx H3)
section
variable {σ : L2.St} {H : Hp} {Q : VK} {te : TE} {wi : TI} {g : TG} {tt : TT} {vs : List Nat} {K : PySem.W.Frag} {a D : Addr} {xs : List V}
theorem rd_lc (h : wi σ H fun J H1 => ∀ D, H1 D = none → LcW J D g tt te vs σ Q H1) : tLc wi g tt te vs σ H Q := h
/-- [e for x in xs], no test -/
theorem lc_l {j : Nat} (Pv : Nat → Hp → Prop) (h0 : Pv 0 (upd H D (.lst []))) (hl : ∀ i H, i ≤ xs.length → Pv i H → SqL K H a xs)
    (hs : ∀ i x H, xs[i]? = some x → Pv i H → wipe ((wipe σ vs).set j (some x)) vs = wipe σ vs ∧ te ((wipe σ vs).set j (some x)) H fun y H4 => ∃ acc, H4 D = some (.lst acc) ∧ acc.length < sizeLine ∧ Pv (i + 1) (upd H4 D (.lst (acc ++ [y]))))
    (hd : ∀ H, Pv xs.length H → Q (.ref D) H) : LcW (Itl K a) D (gName j) tYes te vs σ Q H :=
  lc_list (D := D) Pv h0 hl (fun i x H hi p => ⟨(hs i x H hi p).1, rd_ifT (B := Pv (i + 1) H) (c := true) rfl (hs i x H hi p).2⟩) hd
/-- any target -/
theorem lc_lg (Pv : Nat → Hp → Prop) (h0 : Pv 0 (upd H D (.lst []))) (hl : ∀ i H, i ≤ xs.length → Pv i H → SqL K H a xs)
    (hs : ∀ i x H, xs[i]? = some x → Pv i H → g x (wipe σ vs) H fun σ2 H2 => wipe σ2 vs = wipe σ vs ∧ te σ2 H2 fun y H4 => ∃ acc, H4 D = some (.lst acc) ∧ acc.length < sizeLine ∧ Pv (i + 1) (upd H4 D (.lst (acc ++ [y]))))
    (hg : ∀ (x : V) (σ : L2.St) (H : Hp) (R R' : L2.St → Hp → Prop), (∀ σ H, R σ H → R' σ H) → g x σ H R → g x σ H R')
    (hd : ∀ H, Pv xs.length H → Q (.ref D) H) : LcW (Itl K a) D g tYes te vs σ Q H :=
  lc_list (D := D) Pv h0 hl (fun i x H hi p => hg _ _ _ _ _ (fun σ2 H2 k => ⟨k.1, rd_ifT (B := Pv (i + 1) H2) (c := true) rfl k.2⟩) (hs i x H hi p)) hd
end

theorem rd_cut {nx bk ct : L2.St → Hp → Prop} {rt : VK} {σ : L2.St} {H : Hp} {t u : TS} (Mid : L2.St → Hp → Prop) (h : t ⟨Mid, rt, bk, ct⟩ σ H) (k : ∀ σ' H', Mid σ' H' → u ⟨nx, rt, bk, ct⟩ σ' H') : Evl.tCut t u ⟨nx, rt, bk, ct⟩ σ H := ⟨Mid, h, k⟩
theorem ite_bl {b : Bool} {A : Prop} (h : b = true → A) (h2 : b = false → A) : A := by
  cases b
  · exact h2 rfl
  · exact h rfl

theorem cut_to {α : Type} (f : α → V) (xs : List α) {i : Int} (n : Nat) (h : i = (n : Int)) : cutV (xs.map f) none (some i) = (xs.take n).map f := by
  subst h
  unfold cutV
  rw [HT.sIx_none, HT.sIx_nat, List.drop_zero, Nat.sub_zero, List.map_take]
  by_cases q : n ≤ (xs.map f).length
  · rw [Nat.min_eq_left q]
  · rw [Nat.min_eq_right (by omega), List.take_length, List.take_of_length_le (by omega)]
theorem cut_from {α : Type} (f : α → V) (xs : List α) {i : Int} (n : Nat) (h : i = (n : Int)) : cutV (xs.map f) (some i) none = (xs.drop n).map f := by
  subst h
  unfold cutV
  rw [HT.sIx_none, HT.sIx_nat, List.map_drop]
  by_cases q : n ≤ (xs.map f).length
  · rw [Nat.min_eq_left q]
    exact List.take_of_length_le (by rw [List.length_drop]; exact Nat.le_refl _)
  · rw [Nat.min_eq_right (by omega), List.drop_length, List.take_nil, List.drop_of_length_le (by omega)]
theorem inV_ints (x : Int) (xs : List Int) : inV (.int x) (xs.map V.int) = decide (x ∈ xs) := by
  unfold inV
  rw [List.any_map]
  by_cases h : x ∈ xs
  · rw [decide_eq_true h]
    exact List.any_eq_true.mpr ⟨x, h, by show eqV (.int x) (.int x) = true; simp [eqV]⟩
  · rw [decide_eq_false h]
    refine List.any_eq_false.mpr fun y hy q => h ?_
    have q : eqV (.int y) (.int x) = true := q
    have : y = x := by simpa [eqV] using q
    exact this ▸ hy
theorem flat_ints (xs : List Int) : (xs.map V.int).all flatV = true := List.all_eq_true.mpr fun v hv => by
  obtain ⟨i, _, rfl⟩ := List.mem_map.mp hv
  rfl
theorem rd_inI {K : PySem.W.Frag} {H : Hp} {Q : VK} {p : Addr} {x : Int} {xs : List Int} (h : SqL K H p (xs.map V.int)) (q : Q (.bl (decide (x ∈ xs))) H) : rIn K false (.int x) (.ref p) H Q := rd_in h rfl (flat_ints xs) (by
  rw [inV_ints]
  exact q)
theorem rd_niI {K : PySem.W.Frag} {H : Hp} {Q : VK} {p : Addr} {x : Int} {xs : List Int} (h : SqL K H p (xs.map V.int)) (q : Q (.bl (!decide (x ∈ xs))) H) : rIn K true (.int x) (.ref p) H Q := rd_in h rfl (flat_ints xs) (by
  rw [inV_ints]
  exact q)

theorem ne_dec {p q : Prop} [Decidable p] [Decidable q] (h : p ↔ q) : (decide p != decide q) = false := by
  by_cases hp : p
  · rw [decide_eq_true hp, decide_eq_true (h.mp hp)]
    rfl
  · rw [decide_eq_false hp, decide_eq_false fun z => hp (h.mpr z)]
    rfl
theorem good_nilT (n : Nat) : GoodN (n + 1) (.tuple []) := .tuple fun d hd => by cases hd
theorem good_nilL (n : Nat) : GoodN (n + 1) (.list []) := .list fun d hd => by cases hd

theorem sqL_upd {K : PySem.W.Frag} {H : Hp} {s b : Addr} {xs : List V} {o : HO} (h : SqL K H s xs) (n : s ≠ b) : SqL K (upd H b o) s xs := by
  rcases h with (h | ⟨o2, h⟩) | h
  · exact .inl (.inl (by rw [upd_ne n]; exact h))
  · exact .inl (.inr ⟨o2, by rw [upd_ne n]; exact h⟩)
  · exact .inr h
theorem sqT_upd {K : PySem.W.Frag} {H : Hp} {t b : Addr} {xs ys : List V} {o : HO} (h : SqT K H t xs) (hb : H b = some (.lst ys)) : SqT K (upd H b o) t xs := by
  rcases h with (h | ⟨o2, h⟩) | h
  · exact .inl (.inl (tup_keep h hb))
  · refine .inl (.inr ⟨o2, ?_⟩)
    rw [upd_ne (ne_of h hb (by intro z; cases z))]
    exact h
  · exact .inr h

/-- [e for x in a tuple], no test -/
theorem lc_t {σ : L2.St} {H : Hp} {Q : VK} {te : TE} {vs : List Nat} {K : PySem.W.Frag} {a D : Addr} {xs : List V} {j : Nat} (Pv : Nat → Hp → Prop) (h0 : Pv 0 (upd H D (.lst []))) (hl : ∀ i H, i ≤ xs.length → Pv i H → SqT K H a xs)
    (hs : ∀ i x H, xs[i]? = some x → Pv i H → wipe ((wipe σ vs).set j (some x)) vs = wipe σ vs ∧ te ((wipe σ vs).set j (some x)) H fun y H4 => ∃ acc, H4 D = some (.lst acc) ∧ acc.length < sizeLine ∧ Pv (i + 1) (upd H4 D (.lst (acc ++ [y]))))
    (hd : ∀ H, Pv xs.length H → Q (.ref D) H) : LcW (Itt K a) D (gName j) tYes te vs σ Q H :=
  lc_tup (D := D) Pv h0 hl (fun i x H hi p => ⟨(hs i x H hi p).1, rd_ifT (B := Pv (i + 1) H) (c := true) rfl (hs i x H hi p).2⟩) hd

/-- [e for x in xs] where each e is True -/
theorem lc_true {σ : L2.St} {H : Hp} {Q : VK} {te : TE} {vs : List Nat} {K : PySem.W.Frag} {a D : Addr} {xs : List V} {j : Nat} (hs : SqL K H a xs) (nd : H D = none) (hz : xs.length ≤ 90000) (hw : ∀ x, wipe ((wipe σ vs).set j (some x)) vs = wipe σ vs)
    (ht : ∀ x ∈ xs, ∀ (H' : Hp) (Q' : VK), Same H H' → (∀ H'', Same H' H'' → Q' (.bl true) H'') → te ((wipe σ vs).set j (some x)) H' Q')
    (hd : ∀ H', Same H H' → H' D = some (.lst ((List.replicate xs.length true).map V.bl)) → Q (.ref D) H') : LcW (Itl K a) D (gName j) tYes te vs σ Q H := by
  refine lc_l (xs := xs) (fun i H' => Same H H' ∧ H' D = some (.lst ((List.replicate i true).map V.bl))) ⟨same_new nd, upd_same⟩ (fun i H' _ h => h.1.seq hs) ?_ (fun H' h => hd H' h.1 h.2)
  rintro i x H' hx ⟨sH, hl⟩
  have hi := (List.getElem?_eq_some_iff.mp hx).1
  refine ⟨hw x, ht x (List.mem_of_getElem? hx) H' _ sH fun H'' e => ⟨_, e _ _ hl, sz_lt ?_, same_mut (sH.trans e) nd, ?_⟩⟩
  · rw [List.length_map, List.length_replicate]
    omega
  · rw [upd_same, List.replicate_succ', List.map_append]
    rfl
theorem lcT_true {σ : L2.St} {H : Hp} {Q : VK} {te : TE} {vs : List Nat} {K : PySem.W.Frag} {a D : Addr} {xs : List V} {j : Nat} (hs : SqT K H a xs) (nd : H D = none) (hz : xs.length ≤ 90000) (hw : ∀ x, wipe ((wipe σ vs).set j (some x)) vs = wipe σ vs)
    (ht : ∀ x ∈ xs, ∀ (H' : Hp) (Q' : VK), Same H H' → (∀ H'', Same H' H'' → Q' (.bl true) H'') → te ((wipe σ vs).set j (some x)) H' Q')
    (hd : ∀ H', Same H H' → H' D = some (.lst ((List.replicate xs.length true).map V.bl)) → Q (.ref D) H') : LcW (Itt K a) D (gName j) tYes te vs σ Q H := by
  refine lc_t (xs := xs) (fun i H' => Same H H' ∧ H' D = some (.lst ((List.replicate i true).map V.bl))) ⟨same_new nd, upd_same⟩ (fun i H' _ h => sqT_mono h.1 hs) ?_ (fun H' h => hd H' h.1 h.2)
  rintro i x H' hx ⟨sH, hl⟩
  have hi := (List.getElem?_eq_some_iff.mp hx).1
  refine ⟨hw x, ht x (List.mem_of_getElem? hx) H' _ sH fun H'' e => ⟨_, e _ _ hl, sz_lt ?_, same_mut (sH.trans e) nd, ?_⟩⟩
  · rw [List.length_map, List.length_replicate]
    omega
  · rw [upd_same, List.replicate_succ', List.map_append]
    rfl
theorem rd_allT {K : PySem.W.Frag} {H : Hp} {Q : VK} {p : Addr} {n : Nat} (h : H p = some (.lst ((List.replicate n true).map V.bl))) (q : Q (.bl true) H) : rAll K [.ref p] H Q := rd_all (sqL_of h) (by
  have e : (List.replicate n true).all id = true := List.all_eq_true.mpr fun x hx => List.eq_of_mem_replicate hx
  rw [e]
  exact q)
theorem cut_fromV (xs : List V) {i : Int} (n : Nat) (h : i = (n : Int)) : cutV xs (some i) none = xs.drop n := by
  have := cut_from (fun v : V => v) xs n h
  rw [List.map_id', List.map_id'] at this
  exact this
theorem cut_toV (xs : List V) {i : Int} (n : Nat) (h : i = (n : Int)) : cutV xs none (some i) = xs.take n := by
  have := cut_to (fun v : V => v) xs n h
  rw [List.map_id', List.map_id'] at this
  exact this
theorem paired_drop {α β : Type} {F : α → β → Prop} : ∀ {l₁ : List α} {l₂ : List β} (n : Nat), Paired F l₁ l₂ → Paired F (l₁.drop n) (l₂.drop n)
  | _, _, 0, h => h
  | _, _, _ + 1, .nil => .nil
  | _, _, n + 1, .cons _ t => paired_drop n t
/-- an item of a list of numbers -/
theorem at_int {ns : List Int} {i : Nat} {z : Int} (h : ns[i]? = some z) : atI (ns.map V.int) (i : Int) = some (.int z) := atI_nat (by rw [List.getElem?_map, h]; rfl)
theorem get_int {ns : List Int} {i : Nat} {x : V} (h : (ns.map V.int)[i]? = some x) : ∃ z, ns[i]? = some z ∧ x = .int z := by
  rw [List.getElem?_map] at h
  cases e : ns[i]? with
  | none =>
    rw [e] at h
    cases h
  | some z =>
    rw [e] at h
    exact ⟨z, rfl, (Option.some.inj h).symm⟩

def iRR1 : Int → Int → Hp → (It → Hp → Prop) → Prop := fun a b H1 R => -(2 ^ 62) ≤ a ∧ a < 2 ^ 62 ∧ -(2 ^ 62) ≤ b ∧ b < 2 ^ 62 ∧ R (Itc (a + (((b - a).toNat : Nat) : Int) - 1) (-1) (b - a).toNat) H1
section
variable {σ : L2.St} {H : Hp} {te : TE} {R : It → Hp → Prop} {n : Nat}
theorem rd_iRR {tr : L2.St → Hp → (Int → Int → Hp → Prop) → Prop} (h : tr σ H fun a b H1 => iRR1 a b H1 R) : iRevR tr σ H R := h
theorem rd_tRg1 {QR : Int → Int → Hp → Prop} (h : te σ H fun x H1 => ∃ i, x = .int i ∧ QR 0 i H1) : tRg1 te σ H QR := h
theorem rd_rr1 (c : n ≤ 1000000) (h : R (Itc ((n : Int) - 1) (-1) n) H) : iRR1 0 (n : Int) H R := by
  refine ⟨by omega, by omega, by omega, by omega, ?_⟩
  have e : ((n : Int) - 0).toNat = n := by omega
  rw [e, Int.zero_add]
  exact h
end

/-! ### while -/
def WhW (c : TT) (tb : TS) (D : Ends) (σ : L2.St) (H : Hp) : Prop := ∃ W : Nat → L2.St → Hp → Prop, (∃ m, W m σ H) ∧ ∀ m σ H, W m σ H →
  c σ H fun b H1 => if b = true then ∃ N : L2.St → Hp → Prop, (∀ σ' H', N σ' H' → ∃ m', m' < m ∧ W m' σ' H') ∧ tb { D with nx := N, ct := N, bk := D.nx } σ H1 else D.nx σ H1
theorem rd_while {nx bk ct : L2.St → Hp → Prop} {rt : VK} {σ : L2.St} {H : Hp} {c : TT} {tb : TS} (h : WhW c tb ⟨nx, rt, bk, ct⟩ σ H) : tWhile c tb ⟨nx, rt, bk, ct⟩ σ H := h
theorem while_w {nx bk ct : L2.St → Hp → Prop} {rt : VK} {σ : L2.St} {H : Hp} {c : TT} {tb : TS} (W : Nat → L2.St → Hp → Prop) (m0 : Nat) (h0 : W m0 σ H)
    (hs : ∀ m σ H, W m σ H → c σ H fun b H1 => if b = true then ∃ N : L2.St → Hp → Prop, (∀ σ' H', N σ' H' → ∃ m', m' < m ∧ W m' σ' H') ∧ tb ⟨N, rt, nx, N⟩ σ H1 else nx σ H1) : WhW c tb ⟨nx, rt, bk, ct⟩ σ H := ⟨W, ⟨m0, h0⟩, hs⟩

/-- [e for x in xs] where each e is False -/
theorem lc_false {σ : L2.St} {H : Hp} {Q : VK} {te : TE} {vs : List Nat} {K : PySem.W.Frag} {a D : Addr} {xs : List V} {j : Nat} (hs : SqL K H a xs) (nd : H D = none) (hz : xs.length ≤ 90000) (hw : ∀ x, wipe ((wipe σ vs).set j (some x)) vs = wipe σ vs)
    (ht : ∀ x ∈ xs, ∀ (H' : Hp) (Q' : VK), Same H H' → (∀ H'', Same H' H'' → Q' (.bl false) H'') → te ((wipe σ vs).set j (some x)) H' Q')
    (hd : ∀ H', Same H H' → H' D = some (.lst ((List.replicate xs.length false).map V.bl)) → Q (.ref D) H') : LcW (Itl K a) D (gName j) tYes te vs σ Q H := by
  refine lc_l (xs := xs) (fun i H' => Same H H' ∧ H' D = some (.lst ((List.replicate i false).map V.bl))) ⟨same_new nd, upd_same⟩ (fun i H' _ h => h.1.seq hs) ?_ (fun H' h => hd H' h.1 h.2)
  rintro i x H' hx ⟨sH, hl⟩
  have hi := (List.getElem?_eq_some_iff.mp hx).1
  refine ⟨hw x, ht x (List.mem_of_getElem? hx) H' _ sH fun H'' e => ⟨_, e _ _ hl, sz_lt ?_, same_mut (sH.trans e) nd, ?_⟩⟩
  · rw [List.length_map, List.length_replicate]
    omega
  · rw [upd_same, List.replicate_succ', List.map_append]
    rfl
theorem rd_anyF {K : PySem.W.Frag} {H : Hp} {Q : VK} {p : Addr} {n : Nat} (h : H p = some (.lst ((List.replicate n false).map V.bl))) (q : Q (.bl false) H) : rAny K [.ref p] H Q := rd_any (sqL_of h) (by
  have e : (List.replicate n false).any id = false := List.any_eq_false.mpr fun x hx => by rw [List.eq_of_mem_replicate hx]; decide
  rw [e]
  exact q)
/-- [e for x, y in a list of pairs] -/
theorem lc_2 {σ : L2.St} {H : Hp} {Q : VK} {te : TE} {vs : List Nat} {K : PySem.W.Frag} {a D : Addr} {xs : List V} {j l m : Nat} (Pv : Nat → Hp → Prop) (h0 : Pv 0 (upd H D (.lst []))) (hl : ∀ i H, i ≤ xs.length → Pv i H → SqL K H a xs)
    (hs : ∀ i x H, xs[i]? = some x → Pv i H → ∃ t y z, x = .ref t ∧ SqT K H t [y, z] ∧ wipe (((wipe σ vs).set j (some y)).set l (some z)) vs = wipe σ vs ∧ te (((wipe σ vs).set j (some y)).set l (some z)) H fun y H4 => ∃ acc, H4 D = some (.lst acc) ∧ acc.length < sizeLine ∧ Pv (i + 1) (upd H4 D (.lst (acc ++ [y]))))
    (hd : ∀ H, Pv xs.length H → Q (.ref D) H) (hm : m = 2 := by rfl) : LcW (Itl K a) D (gTup K m (gCons (gName j) (gCons (gName l) gNil))) tYes te vs σ Q H := by
  subst hm
  refine lc_list (D := D) Pv h0 hl (fun i x H hi p => ?_) hd
  obtain ⟨t, y, z, rfl, ht, hw, he⟩ := hs i x H hi p
  exact ⟨t, _, rfl, ht, rfl, y, [z], rfl, z, [], rfl, rfl, hw, rd_ifT (B := Pv (i + 1) H) (c := true) rfl he⟩
theorem cut_mid {α : Type} (f : α → V) (xs : List α) {i j : Int} (n m : Nat) (h : i = (n : Int)) (h2 : j = (m : Int)) (hm : m ≤ xs.length) (hn : n ≤ m) : cutV (xs.map f) (some i) (some j) = ((xs.drop n).take (m - n)).map f := by
  subst h h2
  unfold cutV
  rw [HT.sIx_nat, HT.sIx_nat, List.length_map, Nat.min_eq_left hm, Nat.min_eq_left (by omega), List.map_take, List.map_drop]

theorem pg_2 {X : Cx} {i j k : Nat} {x y : Str} {px py pos : Pos} (hc : X.calm = true) (hN : X.N.Nodup) (hi : X.N[i]? = some x) (hj : X.N[j]? = some y) (lx : X.env.scope.names.lookup x = some .local) (ly : X.env.scope.names.lookup y = some .local) :
    PG X (.Tuple [.Name x px, .Name y py] k pos) (gTup X.K 2 (gCons (gName i) (gCons (gName j) gNil))) :=
  pg_tup hc (pgs_cons (pg_name hN hi (.inl lx) (.inr lx)) (pgs_cons (pg_name hN hj (.inl ly) (.inr ly)) pgs_nil))

theorem rd_sorted {K : PySem.W.Frag} {H : Hp} {Q : VK} {a : Addr} {ns : List Int} (h : SqL K H a (ns.map V.int)) (hl : ns.length < 64) (q : ∀ (ns' : List Int) (p : Addr), ns'.Perm ns → ns'.Pairwise (· ≤ ·) → H p = none → Q (.ref p) (upd H p (.lst (ns'.map V.int)))) : rSorted K [.ref a] H Q := ⟨a, ns, rfl, h, hl, q⟩
theorem lc_tt {σ : L2.St} {H : Hp} {Q : VK} {tt : TT} {te : TE} {vs : List Nat} {K : PySem.W.Frag} {a D : Addr} {xs : List V} {j : Nat} (Pv : Nat → Hp → Prop) (h0 : Pv 0 (upd H D (.lst []))) (hl : ∀ i H, i ≤ xs.length → Pv i H → SqT K H a xs)
    (hs : ∀ i x H, xs[i]? = some x → Pv i H → wipe ((wipe σ vs).set j (some x)) vs = wipe σ vs ∧ tt ((wipe σ vs).set j (some x)) H fun b H3 => if b = true then te ((wipe σ vs).set j (some x)) H3 fun y H4 => ∃ acc, H4 D = some (.lst acc) ∧ acc.length < sizeLine ∧ Pv (i + 1) (upd H4 D (.lst (acc ++ [y]))) else Pv (i + 1) H3)
    (hd : ∀ H, Pv xs.length H → Q (.ref D) H) : LcW (Itt K a) D (gName j) tt te vs σ Q H := lc_tup (D := D) Pv h0 hl hs hd
end Peg

namespace Peg

/-! ### the three rules -/
inductive Rule where
  | free | line | round
  deriving DecidableEq

def isNear (r : Rule) (a b : Int) : Bool := match r with
  | .line => decide (iabs (a - b) = 1)
  | .free => true
  | .round => decide (b = (a + 1) % 3)
/-- whether a move from a to another peg b is one of the rule's -/
def allowed (r : Rule) (a b : Int) : Bool := match r with
  | .line => decide (iabs (a - b) = 1)
  | .round => decide (b = (a + 1) % 3)
  | .free => !decide (a = b)
def P3 (p : Int) : Prop := p = 0 ∨ p = 1 ∨ p = 2
def AllP (s : List Int) : Prop := ∀ p ∈ s, P3 p

def tower (r : Rule) (c : Int × Int) (a b : Int) : Int := if a = b then 0 else if isNear r a b = true then c.1 else c.2
def steps (r : Rule) (a b : Int) : List (Int × Int) := if a = b then [] else if isNear r a b = true then [(a, b)] else [(a, 3 - a - b), (3 - a - b, b)]
def tw (r : Rule) : Nat → Int × Int
  | 0 => (0, 0)
  | n + 1 => match r with
    | .free => (2 * (tw r n).1 + 1, 2 * (tw r n).1 + 1)
    | .line => ((tw r n).2 + 1 + (tw r n).1, 3 * (tw r n).2 + 2)
    | .round => (2 * (tw r n).2 + 1, 2 * (tw r n).2 + 2 + (tw r n).1)
/-- the peg for which the lesser discs go first -/
def gn (r : Rule) (a g : Int) : Int := if a = g then g else if isNear r a g = true then 3 - a - g else g
def bf (r : Rule) (a g : Int) (c : Int × Int) : Int := if a = g then 0 else if isNear r a g = true then 1 + tower r c (3 - a - g) g else 2 + tower r c g a + tower r c a g
/-- how many moves are left: the greatest disc first -/
def L (r : Rule) : List Int → Int → Int
  | [], _ => 0
  | a :: s, g => bf r a g (tw r s.length) + L r s (gn r a g)
/-- where a disc goes first -/
def fst (r : Rule) (a g : Int) : Int := if isNear r a g = true then g else 3 - a - g
/-- the next move -/
def N (r : Rule) : List Int → Int → Option (Nat × Int)
  | [], _ => none
  | a :: s, g => match N r s (gn r a g) with
    | some m => some m
    | none => if a = g then none else some (s.length, fst r a g)

/-- a move: disc d to peg e -/
inductive Mv (r : Rule) : List Int → Nat → Int → List Int → Prop
  | here {a e : Int} {s : List Int} (h : allowed r a e = true) (ha : ∀ x ∈ s, x = 3 - a - e) (hp : P3 e) : Mv r (a :: s) s.length e (e :: s)
  | there {a e : Int} {s s' : List Int} {d : Nat} (h : Mv r s d e s') : Mv r (a :: s) d e (a :: s')

theorem Mv.len {r : Rule} {s s' : List Int} {d : Nat} {e : Int} (h : Mv r s d e s') : s'.length = s.length ∧ d < s.length := by
  induction h with
  | here _ _ _ => exact ⟨rfl, Nat.lt_succ_self _⟩
  | there _ ih => exact ⟨congrArg (· + 1) ih.1, Nat.lt_succ_of_lt ih.2⟩
theorem Mv.peg {r : Rule} {s s' : List Int} {d : Nat} {e : Int} (h : Mv r s d e s') : P3 e := by
  induction h with
  | here _ _ hp => exact hp
  | there _ ih => exact ih
theorem Mv.all {r : Rule} {s s' : List Int} {d : Nat} {e : Int} (h : Mv r s d e s') (hs : AllP s) : AllP s' := by
  induction h with
  | here _ _ hp => exact fun p hp' => (List.mem_cons.mp hp').elim (fun q => q ▸ hp) fun q => hs p (List.mem_cons_of_mem _ q)
  | there _ ih => exact fun p hp' => (List.mem_cons.mp hp').elim (fun q => q ▸ hs _ List.mem_cons_self) fun q => ih (fun x hx => hs x (List.mem_cons_of_mem _ hx)) p q

theorem P3.third {a e : Int} (ha : P3 a) (he : P3 e) (h : a ≠ e) : P3 (3 - a - e) := by
  unfold P3 at *; omega
theorem allowed_ne {r : Rule} {a e : Int} (ha : P3 a) (h : allowed r a e = true) : a ≠ e := by
  intro q; subst q
  cases r
  · simp [allowed] at h
  · simp [allowed, iabs] at h
  · rcases ha with rfl | rfl | rfl <;> revert h <;> decide

/-! ### what is known of whole towers -/
structure TwOk (r : Rule) (c : Int × Int) : Prop where
  nn : 0 ≤ c.1
  le : c.1 ≤ c.2
  le2 : c.2 ≤ 2 * c.1
  fr : r = .free → c.1 = c.2
  li : r = .line → c.2 = 2 * c.1
theorem tw_ok (r : Rule) : ∀ n, TwOk r (tw r n)
  | 0 => ⟨Int.le_refl 0, Int.le_refl 0, Int.le_refl 0, fun _ => rfl, fun _ => rfl⟩
  | n + 1 => by
    have ih := tw_ok r n
    obtain ⟨h1, h2, h3, h4, h5⟩ := ih
    cases r
    · have h4 := h4 rfl
      exact ⟨by simp only [tw]; omega, by simp only [tw]; omega, by simp only [tw]; omega, fun _ => rfl, fun q => nomatch q⟩
    · have h5 := h5 rfl
      exact ⟨by simp only [tw]; omega, by simp only [tw]; omega, by simp only [tw]; omega, (fun q => nomatch q), fun _ => by simp only [tw]; omega⟩
    · exact ⟨by simp only [tw]; omega, by simp only [tw]; omega, by simp only [tw]; omega, (fun q => nomatch q), fun q => nomatch q⟩

theorem gn_P3 {r : Rule} {a g : Int} (ha : P3 a) (hg : P3 g) : P3 (gn r a g) := by
  unfold gn
  split
  · exact hg
  · split
    · exact ha.third hg (by assumption)
    · exact hg
theorem fst_P3 {r : Rule} {a g : Int} (ha : P3 a) (hg : P3 g) (h : a ≠ g) : P3 (fst r a g) := by
  unfold fst
  split
  · exact hg
  · exact ha.third hg h
theorem fst_ne {r : Rule} {a g : Int} (h : a ≠ g) (ha : P3 a) (hg : P3 g) : fst r a g ≠ a := by
  unfold fst
  split
  · exact fun q => h q.symm
  · unfold P3 at *; omega
theorem fst_allowed {r : Rule} {a g : Int} (ha : P3 a) (hg : P3 g) (h : a ≠ g) : allowed r a (fst r a g) = true := by
  cases r <;> rcases ha with rfl | rfl | rfl <;> rcases hg with rfl | rfl | rfl <;> revert h <;> decide
/-- the peg on which the lesser ones wait, while the disc goes its first step -/
theorem fst_gn {r : Rule} {a g : Int} (ha : P3 a) (hg : P3 g) (h : a ≠ g) : gn r a g = 3 - a - fst r a g := by
  cases r <;> rcases ha with rfl | rfl | rfl <;> rcases hg with rfl | rfl | rfl <;> revert h <;> decide

/-- a whole tower -/
theorem L_rep (r : Rule) {c : Int} (hc : P3 c) : ∀ (n : Nat) {g : Int}, P3 g → L r (List.replicate n c) g = tower r (tw r n) c g
  | 0, g, _ => by
    show (0 : Int) = tower r (0, 0) c g
    unfold tower
    split
    · rfl
    · split <;> rfl
  | n + 1, g, hg => by
    have ih := L_rep r hc n (g := gn r c g) (gn_P3 hc hg)
    show bf r c g (tw r (List.replicate n c).length) + L r (List.replicate n c) (gn r c g) = _
    rw [ih, List.length_replicate]
    obtain ⟨h1, h2, h3, h4, h5⟩ := tw_ok r n
    show _ = tower r (tw r (n + 1)) c g
    generalize hx : (tw r n).1 = x at *
    generalize hy : (tw r n).2 = y at *
    have hp : tw r n = (x, y) := by rw [← hx, ← hy]
    cases r <;> rcases hc with rfl | rfl | rfl <;> rcases hg with rfl | rfl | rfl <;> simp only [tw, hp] <;>
      simp (config := { decide := true }) [bf, gn, tower, isNear, iabs] <;> omega

/-! ### left -/
theorem tower_nn {r : Rule} {c : Int × Int} (h : TwOk r c) (a b : Int) : 0 ≤ tower r c a b := by
  have h1 := h.nn
  have h2 := h.le
  unfold tower
  split
  · exact Int.le_refl _
  · split <;> omega
theorem bf_nn {r : Rule} {c : Int × Int} (h : TwOk r c) (a g : Int) : 0 ≤ bf r a g c := by
  have h1 := tower_nn h (3 - a - g) g
  have h2 := tower_nn h g a
  have h3 := tower_nn h a g
  unfold bf
  split
  · exact Int.le_refl _
  · split <;> omega
theorem bf_pos {r : Rule} {c : Int × Int} (h : TwOk r c) {a g : Int} (q : a ≠ g) : 0 < bf r a g c := by
  have h1 := tower_nn h (3 - a - g) g
  have h2 := tower_nn h g a
  have h3 := tower_nn h a g
  unfold bf
  rw [if_neg q]
  split <;> omega
theorem L_nn (r : Rule) : ∀ (s : List Int) (g : Int), 0 ≤ L r s g
  | [], _ => Int.le_refl _
  | a :: s, g => by
    have h1 := L_nn r s (gn r a g)
    have h2 := bf_nn (tw_ok r s.length) a g
    show 0 ≤ bf r a g (tw r s.length) + L r s (gn r a g)
    omega
theorem gn_self (r : Rule) (g : Int) : gn r g g = g := if_pos rfl
theorem bf_self (r : Rule) (g : Int) (c : Int × Int) : bf r g g c = 0 := if_pos rfl
theorem L_zero (r : Rule) : ∀ (s : List Int) (g : Int), L r s g = 0 ↔ ∀ p ∈ s, p = g
  | [], g => ⟨fun _ p h => (nomatch h), fun _ => rfl⟩
  | a :: s, g => by
    have h1 := L_nn r s (gn r a g)
    have h2 := bf_nn (tw_ok r s.length) a g
    constructor
    · intro h
      have h : bf r a g (tw r s.length) + L r s (gn r a g) = 0 := h
      have ea : a = g := by
        by_cases q : a = g
        · exact q
        · have := bf_pos (tw_ok r s.length) q
          omega
      subst ea
      rw [gn_self, bf_self] at h
      have ih := (L_zero r s a).mp (by omega)
      exact fun p hp => (List.mem_cons.mp hp).elim id (ih p)
    · intro h
      have ea : a = g := h a List.mem_cons_self
      subst ea
      show bf r a a (tw r s.length) + L r s (gn r a a) = 0
      rw [gn_self, bf_self, (L_zero r s a).mpr fun p hp => h p (List.mem_cons_of_mem _ hp)]
      rfl
theorem N_none (r : Rule) : ∀ (s : List Int) (g : Int), N r s g = none ↔ ∀ p ∈ s, p = g
  | [], g => ⟨fun _ p h => (nomatch h), fun _ => rfl⟩
  | a :: s, g => by
    constructor
    · intro h
      unfold N at h
      split at h
      · cases h
      · rename_i hn
        split at h
        · rename_i ea
          subst ea
          rw [gn_self] at hn
          exact fun p hp => (List.mem_cons.mp hp).elim id ((N_none r s a).mp hn p)
        · cases h
    · intro h
      have ea : a = g := h a List.mem_cons_self
      subst ea
      unfold N
      rw [gn_self, (N_none r s a).mpr fun p hp => h p (List.mem_cons_of_mem _ hp)]
      exact if_pos rfl
theorem N_lt (r : Rule) : ∀ (s : List Int) (g : Int) (d : Nat) (e : Int), N r s g = some (d, e) → d < s.length
  | [], g, d, e, h => nomatch h
  | a :: s, g, d, e, h => by
    unfold N at h
    split at h
    · rename_i m hm
      cases h
      exact Nat.lt_succ_of_lt (N_lt r s _ d e hm)
    · split at h
      · cases h
      · cases h
        exact Nat.lt_succ_self _
theorem rep_of {s : List Int} {c : Int} (h : ∀ x ∈ s, x = c) : s = List.replicate s.length c := List.eq_replicate_iff.mpr ⟨rfl, h⟩

/-- the next move is one that can be done -/
theorem N_mv (r : Rule) : ∀ (s : List Int) (g : Int), AllP s → P3 g → ∀ (d : Nat) (e : Int), N r s g = some (d, e) → ∃ s', Mv r s d e s'
  | [], g, _, _, d, e, h => nomatch h
  | a :: s, g, hs, hg, d, e, h => by
    have ha : P3 a := hs a List.mem_cons_self
    have hs' : AllP s := fun p hp => hs p (List.mem_cons_of_mem _ hp)
    unfold N at h
    split at h
    · rename_i m hm
      cases h
      obtain ⟨s', hv⟩ := N_mv r s (gn r a g) hs' (gn_P3 ha hg) d e hm
      exact ⟨_, .there hv⟩
    · rename_i hn
      split at h
      · cases h
      · rename_i ne
        cases h
        refine ⟨_, .here (fst_allowed ha hg ne) (fun x hx => ?_) (fst_P3 ha hg ne)⟩
        rw [← fst_gn ha hg ne]
        exact (N_none r s _).mp hn x hx

/-- THE STEP: behind a move no less than one fewer, by the rules that go both ways no more than one more; one fewer behind the next move alone -/
structure Step (r : Rule) (s : List Int) (g : Int) (d : Nat) (e : Int) (s' : List Int) : Prop where
  lo : -1 ≤ L r s' g - L r s g
  hi : r ≠ .round → L r s' g - L r s g ≤ 1
  one : L r s' g - L r s g = -1 ↔ N r s g = some (d, e)
theorem step_here (r : Rule) {a e c g : Int} (n : Nat) (ha : P3 a) (he : P3 e) (hg : P3 g) (h : allowed r a e = true) (hc : c = 3 - a - e) :
    Step r (a :: List.replicate n c) g n e (e :: List.replicate n c) := by
  have hne := allowed_ne ha h
  have hcp : P3 c := by
    rw [hc]
    exact ha.third he hne
  have e1 : L r (a :: List.replicate n c) g = bf r a g (tw r n) + tower r (tw r n) c (gn r a g) := by
    show bf r a g (tw r (List.replicate n c).length) + L r (List.replicate n c) (gn r a g) = _
    rw [L_rep r hcp n (gn_P3 ha hg), List.length_replicate]
  have e2 : L r (e :: List.replicate n c) g = bf r e g (tw r n) + tower r (tw r n) c (gn r e g) := by
    show bf r e g (tw r (List.replicate n c).length) + L r (List.replicate n c) (gn r e g) = _
    rw [L_rep r hcp n (gn_P3 he hg), List.length_replicate]
  -- the next move: the disc's own where the lesser ones stand as they shall
  have e3 : N r (a :: List.replicate n c) g = some (n, e) ↔ (a ≠ g ∧ (n = 0 ∨ c = gn r a g) ∧ e = fst r a g) := by
    by_cases q : n = 0 ∨ c = gn r a g
    · have hn : N r (List.replicate n c) (gn r a g) = none := (N_none r _ _).mpr fun p hp => by
        rcases q with q | q
        · subst q
          cases hp
        · rw [List.eq_of_mem_replicate hp, q]
      have e4 : N r (a :: List.replicate n c) g = if a = g then none else some (n, fst r a g) := by
        show (match N r (List.replicate n c) (gn r a g) with | some m => some m | none => if a = g then none else some ((List.replicate n c).length, fst r a g)) = _
        rw [hn, List.length_replicate]
      rw [e4]
      split
      · rename_i z
        exact ⟨(fun w => nomatch w), fun w => absurd z w.1⟩
      · rename_i z
        constructor
        · intro w
          cases w
          exact ⟨z, q, rfl⟩
        · rintro ⟨_, _, rfl⟩
          rfl
    · constructor
      · intro w
        exfalso
        have w : (match N r (List.replicate n c) (gn r a g) with | some m => some m | none => if a = g then none else some ((List.replicate n c).length, fst r a g)) = some (n, e) := w
        split at w
        · rename_i m hm
          cases w
          have := N_lt r _ _ _ _ hm
          rw [List.length_replicate] at this
          omega
        · rename_i hn
          have hn := (N_none r _ _).mp hn
          apply q
          cases n with
          | zero => exact .inl rfl
          | succ n => exact .inr (hn c (by rw [List.replicate_succ]; exact List.mem_cons_self))
      · rintro ⟨_, w, _⟩
        exact absurd w q
  -- a tower is nothing just where it stands or has no discs
  have z0 : n = 0 → tw r n = (0, 0) := fun q => by rw [q]; rfl
  have z1 : n ≠ 0 → 0 < (tw r n).1 := fun q => by
    obtain ⟨m, rfl⟩ : ∃ m, n = m + 1 := ⟨n - 1, by omega⟩
    obtain ⟨h1, h2, h3, h4, h5⟩ := tw_ok r m
    cases r
    · show 0 < 2 * (tw .free m).1 + 1
      omega
    · show 0 < (tw .line m).2 + 1 + (tw .line m).1
      omega
    · show 0 < 2 * (tw .round m).2 + 1
      omega
  obtain ⟨h1, h2, h3, h4, h5⟩ := tw_ok r n
  refine ⟨?_, ?_, ?_⟩
  all_goals (first | rw [e3] | skip)
  all_goals rw [e1, e2]
  all_goals clear e1 e2 e3
  all_goals generalize hx : (tw r n).1 = x at *
  all_goals generalize hy : (tw r n).2 = y at *
  all_goals have hp : tw r n = (x, y) := by rw [← hx, ← hy]
  all_goals rw [hp]
  all_goals rw [hp] at z0
  all_goals subst hc
  all_goals clear hx hy hp hcp
  all_goals by_cases hn : n = 0
  all_goals first
    | (have zz := z0 hn; simp only [Prod.mk.injEq] at zz; obtain ⟨rfl, rfl⟩ := zz; clear z0 z1)
    | (have zz := z1 hn; clear z0 z1)
  all_goals cases r <;> rcases ha with rfl | rfl | rfl <;> rcases he with rfl | rfl | rfl <;> first
    | (exfalso; revert h; decide)
    | skip
  all_goals rcases hg with rfl | rfl | rfl
  all_goals simp (config := { decide := true }) [bf, gn, tower, isNear, iabs, fst, hn] at *
  all_goals omega
theorem step_of (r : Rule) : ∀ {s : List Int} {d : Nat} {e : Int} {s' : List Int}, Mv r s d e s' → ∀ {g : Int}, AllP s → P3 g → Step r s g d e s' := by
  intro s d e s' h
  induction h with
  | @here a e s h hc he =>
    intro g hs hg
    have es := rep_of hc
    have k := step_here r s.length (hs a List.mem_cons_self) he hg h rfl
    rw [← es] at k
    exact k
  | @there a e s s' d h ih =>
    intro g hs hg
    have ha : P3 a := hs a List.mem_cons_self
    obtain ⟨i1, i2, i3⟩ := ih (g := gn r a g) (fun p hp => hs p (List.mem_cons_of_mem _ hp)) (gn_P3 ha hg)
    have hl := h.len
    have e1 : L r (a :: s') g - L r (a :: s) g = L r s' (gn r a g) - L r s (gn r a g) := by
      show (bf r a g (tw r s'.length) + L r s' (gn r a g)) - (bf r a g (tw r s.length) + L r s (gn r a g)) = _
      rw [hl.1]
      omega
    refine ⟨by rw [e1]; exact i1, fun q => by rw [e1]; exact i2 q, ?_⟩
    rw [e1, i3]
    show _ ↔ (match N r s (gn r a g) with | some m => some m | none => if a = g then none else some (s.length, fst r a g)) = some (d, e)
    cases hn : N r s (gn r a g) with
    | some m => exact Iff.rfl
    | none =>
      constructor
      · intro w
        cases w
      · intro w
        exfalso
        simp only at w
        split at w
        · cases w
        · cases w
          omega

/-! ### the goals of all discs, and left as their sum -/
def goalsL (r : Rule) : List Int → Int → List Int
  | [], _ => []
  | a :: s, g => g :: goalsL r s (gn r a g)
theorem goalsL_len (r : Rule) : ∀ (l : List Int) (g : Int), (goalsL r l g).length = l.length
  | [], _ => rfl
  | _ :: l, g => congrArg (· + 1) (goalsL_len r l _)
def goalAt (r : Rule) (l : List Int) (g : Int) (i : Nat) : Int := (l.take i).foldl (fun g a => gn r a g) g
theorem goalsL_get (r : Rule) : ∀ (l : List Int) (g : Int) (i : Nat), i < l.length → (goalsL r l g)[i]? = some (goalAt r l g i)
  | [], _, _, h => absurd h (Nat.not_lt_zero _)
  | _ :: _, _, 0, _ => rfl
  | a :: l, g, i + 1, h => by
    show (goalsL r l (gn r a g))[i]? = _
    rw [goalsL_get r l (gn r a g) i (Nat.lt_of_succ_lt_succ h)]
    rfl
theorem goalAt_succ (r : Rule) (l : List Int) (g : Int) (i : Nat) {a : Int} (h : l[i]? = some a) : goalAt r l g (i + 1) = gn r a (goalAt r l g i) := by
  unfold goalAt
  rw [List.take_add_one, h, List.foldl_append]
  rfl
theorem goalsL_take (r : Rule) (l : List Int) (g : Int) {i : Nat} (h : i < l.length) : (goalsL r l g).take (i + 1) = (goalsL r l g).take i ++ [goalAt r l g i] := by
  rw [List.take_add_one, goalsL_get r l g i h]
  rfl
theorem goalsL_P3 (r : Rule) : ∀ (l : List Int) (g : Int), AllP l → P3 g → AllP (goalsL r l g)
  | [], _, _, _ => fun _ h => nomatch h
  | a :: l, g, hl, hg => fun p hp => (List.mem_cons.mp hp).elim (fun q => q ▸ hg) fun q =>
    goalsL_P3 r l _ (fun x hx => hl x (List.mem_cons_of_mem _ hx)) (gn_P3 (hl a List.mem_cons_self) hg) p q
def M (r : Rule) : List (Int × Int) → Int
  | [] => 0
  | (a, g) :: z => bf r a g (tw r z.length) + M r z
theorem L_M (r : Rule) : ∀ (l : List Int) (g : Int), L r l g = M r (l.zip (goalsL r l g))
  | [], _ => rfl
  | a :: l, g => by
    show bf r a g (tw r l.length) + L r l (gn r a g) = bf r a g (tw r (l.zip (goalsL r l (gn r a g))).length) + M r (l.zip (goalsL r l (gn r a g)))
    rw [L_M r l (gn r a g), List.length_zip, goalsL_len, Nat.min_self]
/-- the least i discs' part -/
def Lpart (r : Rule) (l : List Int) (g : Int) (i : Nat) : Int := M r ((l.zip (goalsL r l g)).drop (l.length - i))
theorem Lpart_zero (r : Rule) (l : List Int) (g : Int) : Lpart r l g 0 = 0 := by
  unfold Lpart
  rw [List.drop_of_length_le (by rw [List.length_zip, goalsL_len, Nat.min_self]; exact Nat.le_refl _)]
  rfl
theorem Lpart_all (r : Rule) (l : List Int) (g : Int) : Lpart r l g l.length = L r l g := by
  unfold Lpart
  rw [Nat.sub_self, List.drop_zero, L_M]
theorem Lpart_succ (r : Rule) (l : List Int) (g : Int) {i : Nat} {a p : Int} (h : i < l.length) (ha : l[l.length - 1 - i]? = some a) (hp : (goalsL r l g)[l.length - 1 - i]? = some p) :
    Lpart r l g (i + 1) = Lpart r l g i + bf r a p (tw r i) := by
  unfold Lpart
  have hz : (l.zip (goalsL r l g)).length = l.length := by rw [List.length_zip, goalsL_len, Nat.min_self]
  have h1 : l.length - (i + 1) < (l.zip (goalsL r l g)).length := by rw [hz]; omega
  rw [List.drop_eq_getElem_cons h1]
  have e1 : l.length - (i + 1) + 1 = l.length - i := by omega
  have e2 : (l.zip (goalsL r l g))[l.length - (i + 1)] = (a, p) := by
    have e3 : l.length - (i + 1) = l.length - 1 - i := by omega
    apply Option.some.inj
    rw [← List.getElem?_eq_getElem h1, e3, List.getElem?_zip_eq_some]
    exact ⟨ha, hp⟩
  rw [e1, e2]
  show bf r a p (tw r ((l.zip (goalsL r l g)).drop (l.length - i)).length) + M r ((l.zip (goalsL r l g)).drop (l.length - i)) = _
  rw [List.length_drop, hz, show l.length - (l.length - i) = i by omega]
  omega
/-- the least discs alone -/
theorem Lpart_drop (r : Rule) : ∀ (l : List Int) (g : Int) (k : Nat), k ≤ l.length → Lpart r l g (l.length - k) = L r (l.drop k) (goalAt r l g k)
  | l, g, 0, _ => by
    rw [Nat.sub_zero, Lpart_all]
    rfl
  | [], g, k + 1, h => absurd h (Nat.not_succ_le_zero _)
  | a :: l, g, k + 1, h => by
    have ih := Lpart_drop r l (gn r a g) k (Nat.le_of_succ_le_succ h)
    have e : Lpart r (a :: l) g ((a :: l).length - (k + 1)) = Lpart r l (gn r a g) (l.length - k) := by
      unfold Lpart
      have e1 : (a :: l).length - ((a :: l).length - (k + 1)) = k + 1 := by
        have : k + 1 ≤ (a :: l).length := h
        omega
      have e2 : l.length - (l.length - k) = k := by
        have : k + 1 ≤ l.length + 1 := h
        omega
      rw [e1, e2]
      rfl
    rw [e, ih]
    rfl
/-- a disc's moves, step by step -/
def bstep (r : Rule) (c : Int × Int) (s : Int × Int) (x : Int × Int) : Int × Int := ((if s.1 > 0 then s.1 + tower r c s.2 (3 - x.1 - x.2) else s.1) + 1, 3 - x.1 - x.2)
theorem tower_self (r : Rule) (c : Int × Int) (a : Int) : tower r c a a = 0 := if_pos rfl
theorem bf_fold (r : Rule) (c : Int × Int) (a g : Int) : ((steps r a g).foldl (bstep r c) (0, g)).1 + tower r c ((steps r a g).foldl (bstep r c) (0, g)).2 g = bf r a g c := by
  unfold steps bf
  split
  · show (0 : Int) + tower r c g g = 0
    rw [tower_self]
    rfl
  · split
    · show ((if (0 : Int) > 0 then (0 : Int) + tower r c g (3 - a - g) else 0) + 1) + tower r c (3 - a - g) g = _
      rw [if_neg (by decide)]
      omega
    · show ((if ((if (0 : Int) > 0 then (0 : Int) + tower r c g (3 - a - (3 - a - g)) else 0) + 1) > 0 then ((if (0 : Int) > 0 then (0 : Int) + tower r c g (3 - a - (3 - a - g)) else 0) + 1) + tower r c (3 - a - (3 - a - g)) (3 - (3 - a - g) - g) else ((if (0 : Int) > 0 then (0 : Int) + tower r c g (3 - a - (3 - a - g)) else 0) + 1)) + 1) + tower r c (3 - (3 - a - g) - g) g = _
      have z0 : ¬ ((0 : Int) > 0) := by decide
      have z1 : ((0 : Int) + 1 > 0) := by decide
      rw [if_neg z0, if_pos z1, show 3 - a - (3 - a - g) = g by omega, show 3 - (3 - a - g) - g = a by omega]
      omega
theorem steps_nil {r : Rule} {a g : Int} : steps r a g = [] ↔ a = g := by
  unfold steps
  split
  · exact ⟨fun _ => by assumption, fun _ => rfl⟩
  · constructor
    · intro h
      split at h <;> cases h
    · intro h
      exact absurd h (by assumption)
theorem steps_fst {r : Rule} {a g : Int} (h : a ≠ g) : ∃ l, steps r a g = (a, fst r a g) :: l := by
  unfold steps fst
  rw [if_neg h]
  split
  · exact ⟨[], rfl⟩
  · exact ⟨_, rfl⟩
theorem gn_fst {r : Rule} {a g : Int} (h : a ≠ g) : gn r a g = 3 - a - fst r a g := by
  unfold gn fst
  rw [if_neg h]
  split
  · rfl
  · omega
theorem gn_eq {r : Rule} {a g : Int} (h : a = g) : gn r a g = g := if_pos h
theorem N_drop (r : Rule) : ∀ (l : List Int) (g : Int) (k : Nat) {m : Nat × Int}, N r (l.drop k) (goalAt r l g k) = some m → N r l g = some m
  | l, g, 0, m, h => h
  | [], g, k + 1, m, h => by
    simp at h
    cases h
  | a :: l, g, k + 1, m, h => by
    have ih := N_drop r l (gn r a g) k (m := m) h
    show (match N r l (gn r a g) with | some m => some m | none => _) = some m
    rw [ih]
end Peg

namespace Peg
open PySem PyProof.Rows L2
/-- what the module's names are -/
structure Blt (mg : Str → Option Value) : Prop where
  abs : mg "abs" = none
  len : mg "len" = none
  range : mg "range" = none
  enumerate : mg "enumerate" = none
  reversed : mg "reversed" = none
  isinstance : mg "isinstance" = none
  int : mg "int" = none
  bool : mg "bool" = none
  str : mg "str" = none
  list : mg "list" = none
  tuple : mg "tuple" = none
  all : mg "all" = none
  any : mg "any" = none
  max : mg "max" = none
  min : mg "min" = none
  sorted : mg "sorted" = none
def Rule.s : Rule → Str
  | .free => "free"
  | .line => "line"
  | .round => "round"
theorem Rule.s_inj : ∀ {r r' : Rule}, r.s = r'.s → r = r' := by
  intro r r' h
  cases r <;> cases r' <;> first | rfl | (exfalso; revert h; decide +kernel)
theorem Rule.s_eq (r r' : Rule) : decide (V.str r.s = V.str r'.s) = decide (r = r') := by
  by_cases h : r = r'
  · subst h
    rw [decide_eq_true rfl, decide_eq_true rfl]
  · rw [decide_eq_false h, decide_eq_false fun q => h (Rule.s_inj (V.str.inj q))]
section
variable {H : Hp} {Q : VK} {r : Rule}
theorem rd_eqF (h : Q (.bl (decide (r = .free))) H) : rEq (.str r.s) (.str (Str.ofString "free")) H Q := ⟨rfl, by
  have e := Rule.s_eq r .free
  rw [← e] at h
  exact h⟩
theorem rd_eqL (h : Q (.bl (decide (r = .line))) H) : rEq (.str r.s) (.str (Str.ofString "line")) H Q := ⟨rfl, by
  have e := Rule.s_eq r .line
  rw [← e] at h
  exact h⟩
theorem rd_eqR (h : Q (.bl (decide (r = .round))) H) : rEq (.str r.s) (.str (Str.ofString "round")) H Q := ⟨rfl, by
  have e := Rule.s_eq r .round
  rw [← e] at h
  exact h⟩
theorem rd_mulL {a b : Int} {g : Int → Int → V} (c : -(2 ^ 64) < a ∧ a < 2 ^ 64) (h : Q (g a b) H) : rI CMul g (.int a) (.int b) H Q := ⟨a, b, rfl, rfl, .inl c, h⟩
theorem rd_mulR {a b : Int} {g : Int → Int → V} (c : -(2 ^ 64) < b ∧ b < 2 ^ 64) (h : Q (g a b) H) : rI CMul g (.int a) (.int b) H Q := ⟨a, b, rfl, rfl, .inr c, h⟩
theorem rd_modP {a b : Int} {g : Int → Int → V} (c : 0 < b) (h : Q (g a b) H) : rI (fun _ j => 0 < j) g (.int a) (.int b) H Q := ⟨a, b, rfl, rfl, c, h⟩
theorem rd_divP {a b : Int} {g : Int → Int → V} (c : 0 < b ∧ b < 1073741824) (h : Q (g a b) H) : rI CDiv g (.int a) (.int b) H Q := ⟨a, b, rfl, rfl, c, h⟩

/-! ### the promises -/
def sp_is_near : Sp := fun vs H Q _ => ∃ (r : Rule) (a b : Int), vs = [.str r.s, .int a, .int b] ∧ Q (.bl (isNear r a b)) H
theorem rd_is_near {E : XK} {a b : Int} (h : Q (.bl (isNear r a b)) H) : sp_is_near ([.str r.s, .int a, .int b] ++ []) H Q E := ⟨r, a, b, rfl, h⟩
/-- a pair of numbers stands at p -/
def Pair (K : PySem.W.Frag) (H : Hp) (v : V) (c : Int × Int) : Prop := ∃ p, v = .ref p ∧ SqT K H p [.int c.1, .int c.2]
theorem Pair.mono {K : PySem.W.Frag} {H' : Hp} {v : V} {c : Int × Int} (e : Same H H') (h : Pair K H v c) : Pair K H' v c := by
  obtain ⟨p, e1, h1⟩ := h
  exact ⟨p, e1, sqT_mono e h1⟩
def sp_tower (K : PySem.W.Frag) : Sp := fun vs H Q _ => ∃ (r : Rule) (v : V) (c : Int × Int) (a b : Int), vs = [.str r.s, v, .int a, .int b] ∧ Pair K H v c ∧ Q (.int (tower r c a b)) H
theorem rd_tower {K : PySem.W.Frag} {E : XK} {v : V} {c : Int × Int} {a b : Int} (p : Pair K H v c) (h : Q (.int (tower r c a b)) H) : sp_tower K ([.str r.s, v, .int a, .int b] ++ []) H Q E := ⟨r, v, c, a, b, rfl, p, h⟩
/-- a list of pairs stands at p -/
def Pairs (K : PySem.W.Frag) (H : Hp) (p : Addr) (cs : List (Int × Int)) : Prop := ∃ vs : List V, SqL K H p vs ∧ Paired (fun v c => Pair K H v c) vs cs
theorem Pairs.mono {K : PySem.W.Frag} {H' : Hp} {p : Addr} {cs : List (Int × Int)} (e : Same H H') (h : Pairs K H p cs) : Pairs K H' p cs := by
  obtain ⟨vs, h1, h2⟩ := h
  exact ⟨vs, e.seq h1, Paired.mapP h2 fun _ _ q => q.mono e⟩
def sp_steps_of (K : PySem.W.Frag) : Sp := fun vs H Q _ => ∃ (r : Rule) (a b : Int), vs = [.str r.s, .int a, .int b] ∧ ∀ p H', H p = none → Same H H' → Pairs K H' p (steps r a b) → Q (.ref p) H'
def sp_towers (K : PySem.W.Frag) : Sp := fun vs H Q _ => ∃ (r : Rule) (n : Nat), vs = [.str r.s, .int n] ∧ n ≤ 1000 ∧ ∀ p H', H p = none → Same H H' → Pairs K H' p ((List.range (n + 1)).map (tw r)) → Q (.ref p) H'
/-- pairs that are laid while a list grows -/
def Laid (H : Hp) (vs : List V) (cs : List (Int × Int)) : Prop := Paired (fun v c => ∃ p, v = .ref p ∧ H p = some (.tup [.int c.1, .int c.2])) vs cs
theorem Laid.app {H : Hp} {vs ys : List V} {cs : List (Int × Int)} {l t : Addr} {a b : Int} {o : HO} (h : Laid H vs cs) (hl : H l = some (.lst ys)) (nt : H t = none) : Laid (upd (upd H t (.tup [.int a, .int b])) l o) (vs ++ [.ref t]) (cs ++ [(a, b)]) := by
  have hl2 := same_new (o := .tup [.int a, .int b]) nt _ _ hl
  exact Paired.snoc (Paired.mapP h fun v c ⟨p, e, h⟩ => ⟨p, e, tup_keep (same_new nt _ _ h) hl2⟩) ⟨t, rfl, tup_keep upd_same hl2⟩
theorem Laid.pairs {K : PySem.W.Frag} {H : Hp} {vs : List V} {cs : List (Int × Int)} {l : Addr} (h : Laid H vs cs) (hl : H l = some (.lst vs)) : Pairs K H l cs := ⟨vs, sqL_of hl, Paired.mapP h fun _ _ ⟨p, e, h⟩ => ⟨p, e, sqT_of h⟩⟩
theorem Laid.len {H : Hp} {vs : List V} {cs : List (Int × Int)} (h : Laid H vs cs) : vs.length = cs.length := Paired.length h
theorem Pair.dp {K : PySem.W.Frag} {H : Hp} {v : V} {c : Int × Int} (h : Pair K H v c) : Dp K H v (dPair c) := by
  obtain ⟨p, rfl, h⟩ := h
  exact .tup h (.cons (.int _) (.cons (.int _) .nil))
theorem dpAll_pairs {K : PySem.W.Frag} {H : Hp} : ∀ {vs : List V} {cs : List (Int × Int)}, Paired (fun v c => Pair K H v c) vs cs → DpAll K H vs (cs.map dPair)
  | _, _, .nil => .nil
  | _, _, .cons h t => .cons h.dp (dpAll_pairs t)
theorem Pairs.dp {K : PySem.W.Frag} {H : Hp} {p : Addr} {cs : List (Int × Int)} (h : Pairs K H p cs) : Dp K H (.ref p) (dPairs cs) := by
  obtain ⟨vs, h1, h2⟩ := h
  exact .lst h1 (dpAll_pairs h2)
/-- steps != [] -/
theorem rd_nePairs {K : PySem.W.Frag} {H : Hp} {Q : VK} {p l : Addr} {cs : List (Int × Int)} (h : Pairs K H p cs) (nl : H l = none) (q : Q (.bl (!decide (cs = []))) (upd H l (.lst []))) : rNeD K (.ref p) (.ref l) (upd H l (.lst [])) Q :=
  rd_neD (d := dPairs cs) (e := dPairs []) (h.mono (same_new nl)).dp (.lst (sqL_of upd_same) .nil) (good_pairs 0 cs).good (good_pairs 0 []).good dPairs_inj q
theorem rd_eqPairs {K : PySem.W.Frag} {H : Hp} {Q : VK} {p l : Addr} {cs : List (Int × Int)} (h : Pairs K H p cs) (nl : H l = none) (q : Q (.bl (decide (cs = []))) (upd H l (.lst []))) : rEqD K (.ref p) (.ref l) (upd H l (.lst [])) Q :=
  rd_eqD (d := dPairs cs) (e := dPairs []) (h.mono (same_new nl)).dp (.lst (sqL_of upd_same) .nil) (good_pairs 0 cs).good (good_pairs 0 []).good dPairs_inj q
def sp_behind_first (K : PySem.W.Frag) : Sp := fun vs H Q _ => ∃ (r : Rule) (a g : Int) (v : V) (c : Int × Int), vs = [.str r.s, .int a, .int g, v] ∧ Pair K H v c ∧ ∀ H', Same H H' → Q (.int (bf r a g c)) H'
def sp_goals_of (K : PySem.W.Frag) : Sp := fun vs H Q _ => ∃ (r : Rule) (a : Addr) (s : List Int) (g : Int), vs = [.str r.s, .ref a, .int g] ∧ SqL K H a (s.map V.int) ∧ s.length ≤ 1000 ∧
  ∀ p H', H p = none → Same H H' → H' p = some (.lst (((goalsL r s.reverse g).reverse).map V.int)) → Q (.ref p) H'
def sp_left_of (K : PySem.W.Frag) : Sp := fun vs H Q _ => ∃ (r : Rule) (a tb : Addr) (s : List Int) (g : Int) (m : Nat), vs = [.str r.s, .ref a, .int g, .ref tb] ∧ SqL K H a (s.map V.int) ∧ s.length ≤ 1000 ∧ Pairs K H tb ((List.range (m + 1)).map (tw r)) ∧ s.length ≤ m + 1 ∧
  ∀ H', Same H H' → Q (.int (L r s.reverse g)) H'
/-! ### the checks, of what is right -/
def sp_is_whole : Sp := fun vs H Q _ => ∃ i : Int, vs = [.int i] ∧ Q (.bl true) H
def sp_is_peg : Sp := fun vs H Q _ => ∃ i : Int, vs = [.int i] ∧ Q (.bl (decide (0 ≤ i) && decide (i ≤ 2))) H
def sp_check_rule : Sp := fun vs H Q _ => ∃ r : Rule, vs = [.str r.s] ∧ Q .non H
def sp_check_state (K : PySem.W.Frag) : Sp := fun vs H Q _ => ∃ (a : Addr) (s : List Int), vs = [.ref a] ∧ SqL K H a (s.map V.int) ∧ s.length ≤ 1000 ∧ AllP s ∧ ∀ H', Same H H' → Q .non H'
def sp_check_peg : Sp := fun vs H Q _ => ∃ g : Int, vs = [.int g] ∧ P3 g ∧ Q .non H
def sp_left (K : PySem.W.Frag) : Sp := fun vs H Q _ => ∃ (r : Rule) (a : Addr) (s : List Int) (g : Int), vs = [.str r.s, .ref a, .int g] ∧ SqL K H a (s.map V.int) ∧ s.length ≤ 999 ∧ AllP s ∧ P3 g ∧ ∀ H', Same H H' → Q (.int (L r s.reverse g)) H'
/-- a move as it is told -/
def Told (H : Hp) (p : Addr) (m : Option (Nat × Int)) : Prop := match m with
  | some (d, e) => H p = some (.tup [.int (d : Int), .int e])
  | none => H p = some (.tup [])
def sp_next_move (K : PySem.W.Frag) : Sp := fun vs H Q _ => ∃ (r : Rule) (a : Addr) (s : List Int) (g : Int), vs = [.str r.s, .ref a, .int g] ∧ SqL K H a (s.map V.int) ∧ s.length ≤ 999 ∧ AllP s ∧ P3 g ∧
  ∀ p H', H p = none → Same H H' → Told H' p (N r s.reverse g) → Q (.ref p) H'
theorem P3.test {i : Int} (h : P3 i) : (decide (0 ≤ i) && decide (i ≤ 2)) = true := by
  rcases h with rfl | rfl | rfl <;> rfl
theorem inV_rules (r : Rule) : inV (.str r.s) [.str "free", .str "line", .str "round"] = true := by
  cases r <;> decide +kernel
end
end Peg

namespace Peg
/-! ### all moves that can be done, as the law's own look tells them (the least disc first) -/
def okM (r : Rule) (a e : Int) : Bool := match r with
  | .free => true
  | .line => decide (iabs (a - e) = 1)
  | .round => decide ((a + 1) % 3 = e)
/-- whether the disc i, at a, may go to e -/
def okB (r : Rule) (s : List Int) (i : Nat) (a e : Int) : Bool := !decide (a = e) && !decide (e ∈ s.take i) && okM r a e
def at_ (r : Rule) (s : List Int) (i : Nat) : List ((Nat × Int) × List Int) := match s[i]? with
  | none => []
  | some a => if a ∈ s.take i then [] else ([0, 1, 2].filter (okB r s i a)).map fun e => ((i, e), s.set i e)
def behindL (r : Rule) (s : List Int) : List ((Nat × Int) × List Int) := (List.range s.length).flatMap (at_ r s)
theorem okM_allowed {r : Rule} {a e : Int} (h : a ≠ e) : okM r a e = allowed r a e := by
  cases r
  · show true = !decide (a = e)
    rw [decide_eq_false h]
    rfl
  · rfl
  · show decide ((a + 1) % 3 = e) = decide (e = (a + 1) % 3)
    by_cases q : e = (a + 1) % 3
    · rw [decide_eq_true q, decide_eq_true q.symm]
    · rw [decide_eq_false q, decide_eq_false fun z => q z.symm]
theorem mem_at {r : Rule} {s : List Int} {i : Nat} {x : (Nat × Int) × List Int} : x ∈ at_ r s i ↔ ∃ a e, s[i]? = some a ∧ a ∉ s.take i ∧ P3 e ∧ okB r s i a e = true ∧ x = ((i, e), s.set i e) := by
  unfold at_
  cases hs : s[i]? with
  | none =>
    simp
  | some a =>
    by_cases ha : a ∈ s.take i
    · simp only [if_pos ha]
      constructor
      · intro h
        cases h
      · rintro ⟨a', e, h1, h2, _⟩
        cases h1
        exact absurd ha h2
    · simp only [if_neg ha]
      rw [List.mem_map]
      constructor
      · rintro ⟨e, he, rfl⟩
        obtain ⟨h1, h2⟩ := List.mem_filter.mp he
        refine ⟨a, e, rfl, ha, ?_, h2, rfl⟩
        simp only [List.mem_cons, List.not_mem_nil, or_false] at h1
        exact h1
      · rintro ⟨a', e, h1, h2, h3, h4, rfl⟩
        cases h1
        refine ⟨e, List.mem_filter.mpr ⟨?_, h4⟩, rfl⟩
        simp only [List.mem_cons, List.not_mem_nil, or_false]
        exact h3
theorem mem_behind {r : Rule} {s : List Int} {x : (Nat × Int) × List Int} : x ∈ behindL r s ↔ ∃ i a e, s[i]? = some a ∧ a ∉ s.take i ∧ P3 e ∧ okB r s i a e = true ∧ x = ((i, e), s.set i e) := by
  unfold behindL
  rw [List.mem_flatMap]
  constructor
  · rintro ⟨i, _, h⟩
    obtain ⟨a, e, h⟩ := mem_at.mp h
    exact ⟨i, a, e, h⟩
  · rintro ⟨i, a, e, h⟩
    refine ⟨i, ?_, mem_at.mpr ⟨a, e, h⟩⟩
    rw [List.mem_range]
    exact (List.getElem?_eq_some_iff.mp h.1).1
/-- the greatest disc first: the same move -/
theorem mv_of (r : Rule) : ∀ (hi : List Int) (a e : Int) (lo : List Int), allowed r a e = true → (∀ x ∈ lo, x = 3 - a - e) → P3 e → Mv r (hi ++ a :: lo) lo.length e (hi ++ e :: lo)
  | [], a, e, lo, h1, h2, h3 => .here h1 h2 h3
  | b :: hi, a, e, lo, h1, h2, h3 => .there (mv_of r hi a e lo h1 h2 h3)
theorem mv_split {r : Rule} {s s' : List Int} {d : Nat} {e : Int} (h : Mv r s d e s') : ∃ hi a lo, s = hi ++ a :: lo ∧ s' = hi ++ e :: lo ∧ lo.length = d ∧ allowed r a e = true ∧ (∀ x ∈ lo, x = 3 - a - e) ∧ P3 e := by
  induction h with
  | @here a e s h ha hp => exact ⟨[], a, s, rfl, rfl, rfl, h, ha, hp⟩
  | @there a e s s' d h ih =>
    obtain ⟨hi, b, lo, rfl, rfl, h1, h2, h3, h4⟩ := ih
    exact ⟨a :: hi, b, lo, rfl, rfl, h1, h2, h3, h4⟩
theorem split_at {s : List Int} {i : Nat} {a : Int} (h : s[i]? = some a) : s = s.take i ++ a :: s.drop (i + 1) ∧ (s.take i).length = i := by
  obtain ⟨hi, e⟩ := List.getElem?_eq_some_iff.mp h
  constructor
  · rw [← e, ← List.drop_eq_getElem_cons hi, List.take_append_drop]
  · rw [List.length_take]
    omega
theorem set_at {s : List Int} {i : Nat} {a e : Int} (h : s[i]? = some a) : s.set i e = s.take i ++ e :: s.drop (i + 1) := by
  obtain ⟨hi, _⟩ := List.getElem?_eq_some_iff.mp h
  rw [List.set_eq_take_append_cons_drop, if_pos hi]
theorem behind_mv {r : Rule} {s : List Int} (hs : AllP s) {d : Nat} {e : Int} {s' : List Int} (h : ((d, e), s') ∈ behindL r s) : Mv r s.reverse d e s'.reverse := by
  obtain ⟨i, a, e', h1, h2, h3, h4, h5⟩ := mem_behind.mp h
  simp only [Prod.mk.injEq] at h5
  obtain ⟨⟨rfl, rfl⟩, rfl⟩ := h5
  obtain ⟨k1, k2⟩ := split_at h1
  have k3 := set_at (e := e) h1
  simp only [okB, Bool.and_eq_true, Bool.not_eq_true', decide_eq_false_iff_not] at h4
  obtain ⟨⟨h4, h6⟩, h7⟩ := h4
  rw [okM_allowed h4] at h7
  have ea : s.reverse = (s.drop (d + 1)).reverse ++ a :: (s.take d).reverse := by
    conv => lhs; rw [k1]
    simp
  have eb : (s.set d e).reverse = (s.drop (d + 1)).reverse ++ e :: (s.take d).reverse := by
    rw [k3]
    simp
  have m := mv_of r (s.drop (d + 1)).reverse a e (s.take d).reverse h7 (fun x hx => ?_) h3
  · rw [List.length_reverse, k2] at m
    rw [ea, eb]
    exact m
  · have hx := List.mem_reverse.mp hx
    have p1 := hs a (List.mem_of_getElem? h1)
    have p2 := hs x (List.mem_of_mem_take hx)
    have n1 : x ≠ a := fun q => h2 (q ▸ hx)
    have n2 : x ≠ e := fun q => h6 (q ▸ hx)
    unfold P3 at *
    omega
theorem mv_behind {r : Rule} {s : List Int} (hs : AllP s) {d : Nat} {e : Int} {s' : List Int} (h : Mv r s.reverse d e s') : ((d, e), s'.reverse) ∈ behindL r s := by
  obtain ⟨hi, a, lo, h1, h2, h3, h4, h5, h6⟩ := mv_split h
  have e1 : s = lo.reverse ++ a :: hi.reverse := by
    have := congrArg List.reverse h1
    rw [List.reverse_reverse] at this
    rw [this]
    simp
  have e2 : s'.reverse = lo.reverse ++ e :: hi.reverse := by
    rw [h2]
    simp
  have pa : P3 a := hs a (by rw [e1]; simp)
  have ne := allowed_ne pa h4
  have g1 : s[d]? = some a := by
    rw [e1, List.getElem?_append_right (by rw [List.length_reverse]; omega), List.length_reverse, h3, Nat.sub_self]
    rfl
  have tk : s.take d = lo.reverse := by
    rw [e1, List.take_append_of_le_length (by rw [List.length_reverse]; omega), List.take_of_length_le (by rw [List.length_reverse]; omega)]
  refine mem_behind.mpr ⟨d, a, e, g1, ?_, h6, ?_, ?_⟩
  · rw [tk]
    intro q
    have := h5 a (List.mem_reverse.mp q)
    unfold P3 at *
    omega
  · simp only [okB, Bool.and_eq_true, Bool.not_eq_true', decide_eq_false_iff_not]
    refine ⟨⟨ne, ?_⟩, by rw [okM_allowed ne]; exact h4⟩
    rw [tk]
    intro q
    have := h5 e (List.mem_reverse.mp q)
    unfold P3 at *
    omega
  · rw [e2, set_at g1, tk]
    have : s.drop (d + 1) = hi.reverse := by
      rw [e1, List.drop_append, List.drop_of_length_le (by rw [List.length_reverse]; omega), List.length_reverse, h3, show d + 1 - d = 1 by omega]
      rfl
    rw [this]
theorem behind_len {r : Rule} {s : List Int} {x : (Nat × Int) × List Int} (h : x ∈ behindL r s) : x.2.length = s.length := by
  obtain ⟨i, a, e, _, _, _, _, rfl⟩ := mem_behind.mp h
  exact List.length_set
theorem behind_all {r : Rule} {s : List Int} (hs : AllP s) {x : (Nat × Int) × List Int} (h : x ∈ behindL r s) : AllP x.2 := by
  obtain ⟨i, a, e, _, _, h3, _, rfl⟩ := mem_behind.mp h
  intro p hp
  rcases List.mem_or_eq_of_mem_set hp with q | q
  · exact hs p q
  · exact q ▸ h3
theorem nodup_filter3 (f : Int → Bool) : (([0, 1, 2] : List Int).filter f).Nodup := List.Nodup.sublist List.filter_sublist (by decide)
theorem at_nodup (r : Rule) (s : List Int) (i : Nat) : ((at_ r s i).map (·.1)).Nodup := by
  unfold at_
  split
  · exact List.nodup_nil
  · split
    · exact List.nodup_nil
    · rw [List.map_map]
      exact List.Pairwise.map _ (fun a b (h : a ≠ b) q => h (by simpa using q)) (nodup_filter3 _)
theorem behind_nodup (r : Rule) (s : List Int) : ((behindL r s).map (·.1)).Nodup := by
  unfold behindL
  rw [List.map_flatMap]
  refine List.pairwise_flatMap.mpr ⟨fun i _ => at_nodup r s i, List.Pairwise.imp (fun {i j} (h : i < j) x hx y hy => ?_) List.pairwise_lt_range⟩
  obtain ⟨u, hu, rfl⟩ := List.mem_map.mp hx
  obtain ⟨v, hv, rfl⟩ := List.mem_map.mp hy
  obtain ⟨_, _, _, _, _, _, rfl⟩ := mem_at.mp hu
  obtain ⟨_, _, _, _, _, _, rfl⟩ := mem_at.mp hv
  intro q
  simp only [Prod.mk.injEq] at q
  omega
theorem filter_one {α β : Type} [DecidableEq β] (f : α → β) (m : β) : ∀ {l : List α}, (l.map f).Nodup → (l.filter fun x => decide (f x = m)).map f = if m ∈ l.map f then [m] else []
  | [], _ => by simp
  | x :: l, h => by
    have h' := List.nodup_cons.mp (show (f x :: l.map f).Nodup from h)
    have ih := filter_one f m h'.2
    by_cases q : f x = m
    · rw [List.filter_cons, if_pos (decide_eq_true q), List.map_cons, ih, if_neg (q ▸ h'.1), if_pos (by rw [List.map_cons, q]; exact List.mem_cons_self), q]
    · rw [List.filter_cons, if_neg (by simpa using q), ih]
      by_cases z : m ∈ l.map f
      · rw [if_pos z, if_pos (by rw [List.map_cons]; exact List.mem_cons_of_mem _ z)]
      · rw [if_neg z, if_neg]
        rw [List.map_cons]
        intro w
        rcases List.mem_cons.mp w with w | w
        · exact q w.symm
        · exact z w
/-- just one move leaves one fewer, the next one -/
theorem best_eq (r : Rule) {s : List Int} {g : Int} (hs : AllP s) (hg : P3 g) : ((behindL r s).filter fun x => decide (L r x.2.reverse g - L r s.reverse g = -1)).map (·.1) = match N r s.reverse g with | none => [] | some m => [m] := by
  have hs' : AllP s.reverse := fun p hp => hs p (List.mem_reverse.mp hp)
  have key : ∀ x ∈ behindL r s, (L r x.2.reverse g - L r s.reverse g = -1 ↔ N r s.reverse g = some x.1) := fun x hx => by
    have := (step_of r (behind_mv hs (show ((x.1.1, x.1.2), x.2) ∈ behindL r s from hx)) hs' hg).one
    exact this
  cases hN : N r s.reverse g with
  | none =>
    rw [List.filter_eq_nil_iff.mpr]
    · rfl
    · intro x hx
      have := key x hx
      rw [hN] at this
      simp only [decide_eq_true_eq]
      intro q
      cases this.mp q
  | some m =>
    have e : ((behindL r s).filter fun x => decide (L r x.2.reverse g - L r s.reverse g = -1)) = (behindL r s).filter fun x => decide (x.1 = m) := by
      apply List.filter_congr
      intro x hx
      have := key x hx
      rw [hN] at this
      by_cases q : x.1 = m
      · rw [decide_eq_true q, decide_eq_true (this.mpr (congrArg some q.symm))]
      · rw [decide_eq_false q, decide_eq_false fun z => q (Option.some.inj (this.mp z)).symm]
    rw [e, filter_one (fun x : (Nat × Int) × List Int => x.1) m (behind_nodup r s), if_pos]
    obtain ⟨d, p⟩ := m
    obtain ⟨s', hv⟩ := N_mv r s.reverse g hs' hg d p hN
    exact List.mem_map.mpr ⟨_, mv_behind hs hv, rfl⟩
/-- what the law asks of one move -/
theorem change_ok (r : Rule) {s : List Int} {g : Int} (hs : AllP s) (hg : P3 g) {x : (Nat × Int) × List Int} (hx : x ∈ behindL r s) : -1 ≤ L r x.2.reverse g - L r s.reverse g ∧ (r ≠ .round → L r x.2.reverse g - L r s.reverse g ≤ 1) := by
  have hs' : AllP s.reverse := fun p hp => hs p (List.mem_reverse.mp hp)
  have := step_of r (behind_mv hs (show ((x.1.1, x.1.2), x.2) ∈ behindL r s from hx)) hs' hg
  exact ⟨this.lo, this.hi⟩
/-! ### the pegs that are covered -/
def cov : List Int → List Int := List.foldl (fun c x => if x ∈ c then c else c ++ [x]) []
theorem cov_snoc (l : List Int) (x : Int) : cov (l ++ [x]) = if x ∈ cov l then cov l else cov l ++ [x] := by
  unfold cov
  rw [List.foldl_append]
  rfl
theorem covF_mem : ∀ (l c : List Int) (x : Int), x ∈ List.foldl (fun c x => if x ∈ c then c else c ++ [x]) c l ↔ x ∈ c ∨ x ∈ l
  | [], c, x => by simp
  | y :: l, c, x => by
    rw [List.foldl_cons, covF_mem l, List.mem_cons]
    split
    · rename_i h
      constructor
      · rintro (q | q)
        · exact .inl q
        · exact .inr (.inr q)
      · rintro (q | rfl | q)
        · exact .inl q
        · exact .inl h
        · exact .inr q
    · rw [List.mem_append, List.mem_singleton, or_assoc]
theorem cov_mem (l : List Int) (x : Int) : x ∈ cov l ↔ x ∈ l := by
  unfold cov
  rw [covF_mem]
  simp
theorem covF_len : ∀ (l c : List Int), (List.foldl (fun c x => if x ∈ c then c else c ++ [x]) c l).length ≤ c.length + l.length
  | [], c => Nat.le_refl _
  | y :: l, c => by
    rw [List.foldl_cons]
    refine Nat.le_trans (covF_len l _) ?_
    split
    · simp only [List.length_cons]
      omega
    · simp only [List.length_append, List.length_cons, List.length_nil]
      omega
theorem cov_len (l : List Int) : (cov l).length ≤ l.length := by
  have := covF_len l []
  unfold cov
  simpa using this
theorem at_len (r : Rule) (s : List Int) (i : Nat) : (at_ r s i).length ≤ 3 := by
  unfold at_
  split
  · exact Nat.zero_le _
  · split
    · exact Nat.zero_le _
    · rw [List.length_map]
      exact List.length_filter_le _ _
theorem flat_len (r : Rule) (s : List Int) (i : Nat) : ((List.range i).flatMap (at_ r s)).length ≤ 3 * i := by
  induction i with
  | zero => exact Nat.le_refl _
  | succ i ih =>
    rw [List.range_succ, List.flatMap_append, List.flatMap_singleton, List.length_append]
    have := at_len r s i
    omega
theorem key_inj {α β : Type} : ∀ {l : List (α × β)}, (l.map (·.1)).Nodup → ∀ {x y : α × β}, x ∈ l → y ∈ l → x.1 = y.1 → x = y
  | [], _, _, _, h, _, _ => nomatch h
  | a :: l, hn, x, y, hx, hy, e => by
    have h' := List.nodup_cons.mp (show (a.1 :: l.map (·.1)).Nodup from hn)
    have no : ∀ z ∈ l, z.1 ≠ a.1 := fun z hz q => h'.1 (q ▸ List.mem_map_of_mem (f := fun z : α × β => z.1) hz)
    rcases List.mem_cons.mp hx with q1 | q1
    · rcases List.mem_cons.mp hy with q2 | q2
      · rw [q1, q2]
      · exact absurd (e.symm.trans (congrArg (·.1) q1)) (no y q2)
    · rcases List.mem_cons.mp hy with q2 | q2
      · exact absurd (e.trans (congrArg (·.1) q2)) (no x q1)
      · exact key_inj h'.2 q1 q2 e
end Peg

namespace Peg
open PySem PyProof.Rows L2
/-! ### the law's own helpers -/
section
variable {H : Hp} {Q : VK} {r : Rule}
def sp_cell (K : PySem.W.Frag) : Sp := fun vs H Q _ => ∃ (a : Addr) (ns : List Int) (k : Nat), vs = [.ref a, .int (k : Int)] ∧ SqL K H a (ns.map V.int) ∧ ∀ x : Int, Q (.int x) H
def sp_draw : Sp := fun vs H Q _ => ∃ c k m : Int, vs = [.int c, .int k, .int m] ∧ 0 < m ∧ ∀ (d : Int) H', 0 ≤ d → d < m → Same H H' → Q (.int d) H'
def sp_state (K : PySem.W.Frag) : Sp := fun vs H Q _ => ∃ (a : Addr) (ns : List Int) (b : Int), vs = [.ref a, .int b] ∧ SqL K H a (ns.map V.int) ∧ ns.length ≤ 63 ∧
  ∀ (s : List Int) p H', AllP s → s.length ≤ 189 → H p = none → Same H H' → H' p = some (.lst (s.map V.int)) → Q (.ref p) H'
def sp_rule (K : PySem.W.Frag) : Sp := fun vs H Q _ => ∃ (a : Addr) (ns : List Int) (k : Nat), vs = [.ref a, .int (k : Int)] ∧ SqL K H a (ns.map V.int) ∧ ∀ (r : Rule) H', Same H H' → Q (.str r.s) H'
theorem rd_cell {K : PySem.W.Frag} {E : XK} {a : Addr} {ns : List Int} {k : Int} (hk : 0 ≤ k) (h : SqL K H a (ns.map V.int)) (q : ∀ x : Int, Q (.int x) H) : sp_cell K ([.ref a, .int k] ++ []) H Q E :=
  ⟨a, ns, k.toNat, by rw [Int.toNat_of_nonneg hk] <;> rfl, h, q⟩
theorem rd_draw {E : XK} {c k m : Int} (hm : 0 < m) (q : ∀ (d : Int) H', 0 ≤ d → d < m → Same H H' → Q (.int d) H') : sp_draw ([.int c, .int k, .int m] ++ []) H Q E := ⟨c, k, m, rfl, hm, q⟩
theorem rd_rule {K : PySem.W.Frag} {E : XK} {a : Addr} {ns : List Int} {k : Int} (hk : 0 ≤ k) (h : SqL K H a (ns.map V.int)) (q : ∀ (r : Rule) H', Same H H' → Q (.str r.s) H') : sp_rule K ([.ref a, .int k] ++ []) H Q E :=
  ⟨a, ns, k.toNat, by rw [Int.toNat_of_nonneg hk] <;> rfl, h, q⟩
theorem P3.of {d : Int} (h0 : 0 ≤ d) (h3 : d < 3) : P3 d := by
  unfold P3
  omega
/-- what the law's own look tells: a list of pairs of a move and the state behind it (a list that was not there at H0) -/
def Itm (K : PySem.W.Frag) (H0 H : Hp) (v : V) (x : (Nat × Int) × List Int) : Prop := ∃ t m s, v = .ref t ∧ SqT K H t [.ref m, .ref s] ∧ SqT K H m [.int (x.1.1 : Int), .int x.1.2] ∧ SqL K H s (x.2.map V.int) ∧ H0 s = none
def Beh (K : PySem.W.Frag) (H0 H : Hp) (p : Addr) (xs : List ((Nat × Int) × List Int)) : Prop := ∃ vs : List V, SqL K H p vs ∧ Paired (Itm K H0 H) vs xs
theorem Itm.mono {K : PySem.W.Frag} {H0 H' : Hp} {v : V} {x : (Nat × Int) × List Int} (e : Same H H') (h : Itm K H0 H v x) : Itm K H0 H' v x := by
  obtain ⟨t, m, s, h1, h2, h3, h4, h5⟩ := h
  exact ⟨t, m, s, h1, sqT_mono e h2, sqT_mono e h3, e.seq h4, h5⟩
/-- a list that was there changes -/
theorem Itm.upd {K : PySem.W.Frag} {H0 : Hp} {v : V} {x : (Nat × Int) × List Int} {b : Addr} {o u : HO} {ys : List V} (h : Itm K H0 H v x) (hb : H b = some (.lst ys)) (h0 : H0 b = some u) : Itm K H0 (upd H b o) v x := by
  obtain ⟨t, m, s, h1, h2, h3, h4, h5⟩ := h
  exact ⟨t, m, s, h1, sqT_upd h2 hb, sqT_upd h3 hb, sqL_upd h4 (ne_of_none h0 h5).symm, h5⟩
def sp_beh (K : PySem.W.Frag) : Sp := fun vs H Q _ => ∃ (r : Rule) (a : Addr) (s : List Int), vs = [.str r.s, .ref a] ∧ SqL K H a (s.map V.int) ∧ s.length ≤ 999 ∧ AllP s ∧
  ∀ p H', H p = none → Same H H' → Beh K H H' p (behindL r s) → Q (.ref p) H'
def sp_whole : Sp := fun vs H Q _ => ∃ i : Int, vs = [.int i] ∧ Q (.bl true) H
/-- while it grows: l the list itself, c the covered pegs -/
def Gro (H0 H : Hp) (l c : Addr) (vs : List V) (xs : List ((Nat × Int) × List Int)) : Prop := Paired (fun v x => ∃ t m s, v = .ref t ∧ H t = some (.tup [.ref m, .ref s]) ∧ H m = some (.tup [.int (x.1.1 : Int), .int x.1.2]) ∧ H s = some (.lst (x.2.map V.int)) ∧ s ≠ l ∧ s ≠ c ∧ H0 s = none) vs xs
theorem Gro.mono {H0 H' : Hp} {l c : Addr} {vs : List V} {xs : List ((Nat × Int) × List Int)} (e : Same H H') (h : Gro H0 H l c vs xs) : Gro H0 H' l c vs xs :=
  Paired.mapP h fun _ _ ⟨t, m, s, h1, h2, h3, h4, h5⟩ => ⟨t, m, s, h1, e _ _ h2, e _ _ h3, e _ _ h4, h5⟩
theorem Gro.upd {H0 : Hp} {l c d : Addr} {vs ys : List V} {o : HO} {xs : List ((Nat × Int) × List Int)} (h : Gro H0 H l c vs xs) (hd : d = l ∨ d = c) (hl : H d = some (.lst ys)) : Gro H0 (upd H d o) l c vs xs :=
  Paired.mapP h fun _ _ ⟨t, m, s, h1, h2, h3, h4, h5, h6⟩ => ⟨t, m, s, h1, tup_keep h2 hl, tup_keep h3 hl, (by
    rw [upd_ne]
    · exact h4
    · rcases hd with rfl | rfl
      · exact h5
      · exact h6.1), h5, h6⟩
theorem Gro.beh {H0 : Hp} {K : PySem.W.Frag} {l c : Addr} {vs : List V} {xs : List ((Nat × Int) × List Int)} (h : Gro H0 H l c vs xs) (hl : H l = some (.lst vs)) : Beh K H0 H l xs :=
  ⟨vs, sqL_of hl, Paired.mapP h fun _ _ ⟨t, m, s, h1, h2, h3, h4, _, _, h7⟩ => ⟨t, m, s, h1, sqT_of h2, sqT_of h3, sqL_of h4, h7⟩⟩
theorem Gro.len {H0 : Hp} {l c : Addr} {vs : List V} {xs : List ((Nat × Int) × List Int)} (h : Gro H0 H l c vs xs) : vs.length = xs.length := Paired.length h
/-! ### moves as data -/
def dMove (m : Nat × Int) : PyData := .tuple [.int (m.1 : Int), .int m.2]
def Mvp (K : PySem.W.Frag) (H : Hp) (v : V) (m : Nat × Int) : Prop := ∃ p, v = .ref p ∧ SqT K H p [.int (m.1 : Int), .int m.2]
theorem Mvp.mono {K : PySem.W.Frag} {H' : Hp} {v : V} {m : Nat × Int} (e : Same H H') (h : Mvp K H v m) : Mvp K H' v m := by
  obtain ⟨p, h1, h2⟩ := h
  exact ⟨p, h1, sqT_mono e h2⟩
theorem Mvp.upd {K : PySem.W.Frag} {v : V} {m : Nat × Int} {l : Addr} {ys : List V} {o : HO} (h : Mvp K H v m) (hl : H l = some (.lst ys)) : Mvp K (upd H l o) v m := by
  obtain ⟨p, h1, h2⟩ := h
  exact ⟨p, h1, sqT_upd h2 hl⟩
theorem dMove_inj {c d : Nat × Int} : dMove c = dMove d ↔ c = d := by
  constructor
  · intro h
    have h := PyData.tuple.inj h
    simp only [List.cons.injEq, PyData.int.injEq, and_true] at h
    exact Prod.ext (by omega) h.2
  · rintro rfl
    rfl
theorem dMoves_inj {ns ms : List (Nat × Int)} : PyData.list (ns.map dMove) = PyData.list (ms.map dMove) ↔ ns = ms := by
  constructor
  · intro h
    have h := PyData.list.inj h
    exact List.map_inj_right (fun _ _ z => dMove_inj.mp z) |>.mp h
  · rintro rfl
    rfl
theorem good_move (n : Nat) (c : Nat × Int) : GoodN (n + 1) (dMove c) := .tuple fun d hd => by
  rcases List.mem_cons.mp hd with rfl | hd
  · exact .int n _
  · rcases List.mem_cons.mp hd with rfl | hd
    · exact .int n _
    · cases hd
theorem good_moves (n : Nat) (cs : List (Nat × Int)) : GoodN (n + 2) (.list (cs.map dMove)) := .list fun d hd => by
  obtain ⟨i, _, rfl⟩ := List.mem_map.mp hd
  exact good_move n i
theorem Mvp.dp {K : PySem.W.Frag} {v : V} {c : Nat × Int} (h : Mvp K H v c) : Dp K H v (dMove c) := by
  obtain ⟨p, rfl, h⟩ := h
  exact .tup h (.cons (.int _) (.cons (.int _) .nil))
theorem dpAll_moves {K : PySem.W.Frag} : ∀ {vs : List V} {cs : List (Nat × Int)}, Paired (Mvp K H) vs cs → DpAll K H vs (cs.map dMove)
  | _, _, .nil => .nil
  | _, _, .cons h t => .cons h.dp (dpAll_moves t)
/-- a told move, as data -/
def dTold : Option (Nat × Int) → PyData
  | some m => dMove m
  | none => .tuple []
theorem Told.dp {K : PySem.W.Frag} {p : Addr} {m : Option (Nat × Int)} (h : Told H p m) : Dp K H (.ref p) (dTold m) := by
  cases m with
  | none => exact .tup (sqT_of h) .nil
  | some m => exact .tup (sqT_of h) (.cons (.int _) (.cons (.int _) .nil))
theorem Told.mono {H' : Hp} {p : Addr} {m : Option (Nat × Int)} (e : Same H H') (h : Told H p m) : Told H' p m := by
  cases m with
  | none => exact e _ _ h
  | some m => exact e _ _ h
theorem Told.tup {K : PySem.W.Frag} {p : Addr} {m : Option (Nat × Int)} (h : Told H p m) : ∃ is : List Int, SqT K H p (is.map V.int) ∧ is.length ≤ 2 := by
  cases m with
  | none => exact ⟨[], sqT_of h, by decide⟩
  | some m => exact ⟨[(m.1 : Int), m.2], sqT_of h, Nat.le_refl 2⟩
theorem good_told (m : Option (Nat × Int)) : GoodN 1 (dTold m) := by
  cases m with
  | none => exact .tuple fun d hd => nomatch hd
  | some m => exact good_move 0 m
theorem dTold_none {m : Option (Nat × Int)} : dTold m = .tuple [] ↔ m = none := by
  cases m with
  | none => exact ⟨fun _ => rfl, fun _ => rfl⟩
  | some m =>
    constructor
    · intro h
      have h := PyData.tuple.inj h
      cases h
    · intro h
      cases h
theorem rd_neFree (h : Q (.bl (!decide (r = .free))) H) : rNe (.str r.s) (.str (Str.ofString "free")) H Q := ⟨rfl, by
  have e := Rule.s_eq r .free
  rw [← e] at h
  exact h⟩
theorem rd_neRound (h : Q (.bl (!decide (r = .round))) H) : rNe (.str r.s) (.str (Str.ofString "round")) H Q := ⟨rfl, by
  have e := Rule.s_eq r .round
  rw [← e] at h
  exact h⟩
def sp_right (K : PySem.W.Frag) : Sp := fun vs H Q _ => ∃ (r : Rule) (a : Addr) (s : List Int) (g : Int), vs = [.str r.s, .ref a, .int g] ∧ SqL K H a (s.map V.int) ∧ s.length ≤ 500 ∧ AllP s ∧ P3 g ∧ ∀ H', Same H H' → Q (.bl true) H'
def sp_law (K : PySem.W.Frag) : Sp := fun vs H Q _ => ∃ (a : Addr) (ns : List Int), vs = [.ref a] ∧ SqL K H a (ns.map V.int) ∧ ns.length ≤ 63 ∧ ∀ H', Q (.bl true) H'
theorem rd_whole {E : XK} {i : Int} (h : Q (.bl true) H) : sp_whole ([.int i] ++ []) H Q E := ⟨i, rfl, h⟩
end
end Peg

namespace Peg
open PySem PyProof.Rows L2 HotX

/-! ### any, all where an exception is handled -/
section
variable {prog : Program} {w : World} {A : Around} {E : Value → Shared → Prop} {s : Shared}
theorem pyNext_list_end_hot {it l x1 : Addr} {i : Nat} {items : Array Value} {Q : Option Value → Shared → Prop} (hot : HotAt A x1 s.heap)
    (hit : s.heap.IsListIter it l i) (hl : s.heap.IsList l items) (hx : items[i]? = none) (nx : x1 ≠ it)
    (hQ : ∀ h', Heap.ExtBut it s.heap h' → Q none { s with heap := h' }) : wpAny (model prog w) A (pyNext (.ref it)) Q E s := by
  obtain ⟨o, ho, hc, hd⟩ := id hit
  obtain ⟨ol, hol, _, nl, hdl⟩ := hl
  obtain ⟨hh, o1, vs1, h1, d1, c1⟩ := hot
  unfold pyNext
  refine wpAny_bind (wpAny_attempt (wpAny_callSpecial?_slot (name := Str.ofString "__next__") hit.typeIs slot_listiter_next
    (wpAny_call_entry slot_listiter_next hit.typeIs entry_listiter_next ?_ (args_listiter_next _))))
  show wpAny _ _ (field (.ref it) 0 >>= _) _ _ s
  refine wpAny_bind (wpAny_field ho hd (x := .ref l) rfl ?_)
  show wpAny _ _ (if (Value.ref l == Value.none) = true then _ else _) _ _ s
  rw [if_neg (show ¬ ((Value.ref l == Value.none) = true) from Bool.false_ne_true)]
  show wpAny _ _ (field (.ref it) 1 >>= _) _ _ s
  refine wpAny_bind (wpAny_field ho hd (x := .int i 0) rfl ?_)
  show wpAny _ _ (seqItems? (.ref l) >>= _) _ _ s
  refine wpAny_bind (wpAny_seqItems hol hdl ?_)
  simp only [Int.toNat_natCast, hx]
  refine wpAny_bind (wpAny_rule (wpAny_bind (wpAny_setField ho hd (by simp) ?_)))
  show wpAny _ _ (newExc (.type "StopIteration") [] >>= _) _ _ _
  refine wpAny_bind ?_
  simp only [newExc, newTuple]
  refine wpAny_bind (wpAny_newObj_type ?_ (by size_fits))
  refine wpAny_bind (m := firstArgMember _ _) (wpAny_of_eq (a := Value.none) (by first | rfl | (simp only [firstArgMember]; rfl)) ?_)
  refine wpAny_newObj_type ?_ (by size_fits)
  have h1' := (Heap.SameBut.update s.heap it (Obj.mapFields (·.setIfInBounds 0 Value.none))).2 x1 nx
  refine raiseNew_hot ⟨hh, o1, vs1, Heap.get?_push_of_some _ (Heap.get?_push_of_some _ (h1'.trans h1)), d1, c1⟩ (Nat.ne_of_lt (Heap.lt_size (Heap.get?_push_of_some _ (h1'.trans h1)))) (Heap.get?_push_size _ rfl) rfl (by first | (simp; done) | (simp; omega) | (simp only [Array.size_append]; simp; omega)) ?_
  refine wpAny_bind (wpAny_isInstance (T := "StopIteration") (b := true) ⟨_, Heap.get?_update_self _ (Heap.get?_push_size _ rfl) rfl, rfl⟩ isSubtype_stop ?_)
  refine wpAny_pure (hQ _ ?_)
  intro b o hb e
  have e1 := (Heap.SameBut.update s.heap it (Obj.mapFields (·.setIfInBounds 0 Value.none))).extBut b o hb e
  rw [Heap.get?_update_other]
  · exact Heap.get?_push_of_some _ (Heap.get?_push_of_some _ e1)
  · exact Nat.ne_of_gt (Heap.lt_size (Heap.get?_push_of_some _ e1))
theorem walks_listHot {A : Around} {I ax x1 : Addr} {o1 : Obj} {vs1 : Array Value} (hh : A.handled = some (.ref x1)) (d1 : o1.data = .fields vs1) (c1 : vs1[2]? = some .none) (hne : ax ≠ I) (hx : x1 ≠ I) (items : Array Value) :
    Walks prog w A I [I, ax, x1] [I] items.size (fun i v => items[i]? = some v) (fun i h => h.IsListIter I ax i ∧ h.IsList ax items ∧ h.get? x1 = some o1) where
  sub := fun b hb => by simp at hb; simp [hb]
  frame := fun _ _ _ st hk => ⟨st.1.at fun o e => hk I (by simp) o e, st.2.1.at fun o e => hk ax (by simp) o e, hk x1 (by simp) _ st.2.2⟩
  item := fun i s Q E hi st hQ => by
    refine wpAny_pyNext_list_item st.1 st.2.1 (x := items[i]) (by simp [hi]) fun h' hit' hs' => ?_
    exact hQ _ h' s.toks (by simp [hi]) ⟨hit', st.2.1.extBut hs'.extBut hne, hs'.extBut _ _ hx st.2.2⟩ fun b o hb e => hs'.extBut b o (fun h => hb (by simp [h])) e
  done := fun s Q E st hQ => pyNext_list_end_hot (x1 := x1) ⟨hh, o1, vs1, st.2.2, d1, c1⟩ st.1 st.2.1 (by simp) hx fun h' he' => hQ h' s.toks fun b o hb e => he' b o (fun h => hb (by simp [h])) e
  self := fun _ _ _ _ st hQ => wpAny_pyIter_listiter st.1 hQ
end
theorem cr_anyH {X : Cx} (hc : L2H.HotC X) : CallR X (.builtin "any") (rAny X.K) := by
  intro pins s σ H vs us Q I r h
  obtain ⟨a, bs, rfl, hs, q⟩ := h
  obtain ⟨its, rv, hl, _⟩ := I.list hs
  obtain ⟨p, ⟨hh, v1, e1, c1⟩, hp⟩ := hc
  have P1 := (I.pin p (List.mem_append_left _ hp)).1
  rw [Vals.ref1 r]
  have hb := rv.bls
  refine call_any_walk (iter_any hl.isList fun s₂ e2 st hne => ?_)
  subst e2
  refine ⟨_, _, _, _, _, _, _, rfl, walks_listHot (A := X.A.in1) (I := _) (ax := a) hh e1 c1 hne (Nat.ne_of_lt (Heap.lt_size P1)) its.toArray, ⟨st.1, st.2, Heap.get?_push_of_some _ P1⟩, truth_bools hb, fun h' tk hk => ?_⟩
  refine ⟨.bl _, H, I.kept fun b o eo => hk b o (fun hmem => ?_) (Heap.get?_push_of_some _ eo), ?_, q⟩
  · rcases List.mem_cons.mp hmem with e1 | hmem
    · exact absurd (e1 ▸ Heap.lt_size eo) (Nat.lt_irrefl _)
    · cases hmem
  · show Value.bool _ = Value.bool _
    rw [← L2.any_range, hb, List.size_toArray, List.length_map]
/-- isinstance(e, c), e an exception that the context holds -/
theorem cr_isE {X : Cx} {a D : Addr} {oe : Obj} (hp : (a, oe) ∈ X.pn) (C : ExcC X.K D) (hz : Zc (.ref D) none oe) (hf : ∃ vs, oe.data = .fields vs) : CallR X (.builtin "isinstance") (rIsE X.K D a) := by
  intro pins s σ H xs us Q I r h
  obtain ⟨c, cv, b, rfl, hcv, e, q⟩ := h
  cases r with
  | cons rx rr =>
    cases rr with
    | cons rt rr =>
      cases rr
      cases rx
      have ec := hcv _ rt
      subst ec
      obtain ⟨hget, _⟩ := I.pin (a, oe) (List.mem_append_left _ hp)
      obtain ⟨vs, hv⟩ := hf
      have J : PySem.W.InstAt s.heap a oe D none := by
        obtain ⟨oc, od, oda, osl⟩ := oe
        obtain ⟨h1, h2⟩ := hz
        dsimp only at h1 h2 hv
        subst h1 h2 hv
        exact ⟨hget, rfl, rfl, trivial⟩
      exact PySem.W.kia_one (PySem.W.handS_kitx_exc C.hg C.hk C.hs C.hd C.ha C.hn C.ht C.hm) I.kIn J e (fun z => nomatch z) fun tk => ⟨.bl b, H, I.kept (t' := tk) fun _ _ z => z, rfl, q⟩

/-! ### defs that raise -/
/-- the class C of the name x, made with a text -/
structure Exc (K : PySem.W.Frag) (mg : Str → Option Value) (x : Str) (C : Addr) : Prop where
  g : mg x = some (.ref C)
  x : PySem.W.excIn K C [.type "ValueError", .type "Exception", .type "BaseException", .type "object"] "ValueError.__new__" = true
  k : PySem.W.keepIn K (.ref C) = true
  b : PySem.W.subIn K (.ref C) (.type "BaseException") = some true
  t : PySem.W.typeIn K (.ref C) = some (.type "type")
section
variable {P : Program} {w : World} {K : PySem.W.Frag} {mg : Str → Option Value} {base : Heap}
theorem Df.okX {x : Str} {st : Stmt} {N ps : List Str} {k : Nat} {sp : Sp} (D : Df K mg x st ps) (S : FnScope N ps (defScope st)) (len : ∀ vs H Q E, sp vs H Q E → vs.length = ps.length)
    (hbody : ∀ (f : Addr) (cdv : Value) (A : Around) (outer : List Env) (s : Shared) (H : Hp) (vs : List V) (Q : VK) (E : XK), Room k (A.deeper (envOfC x (defScope st) s.heap.objs.size f cdv)) → sp vs H Q E →
      ∃ t, PSs (cxOf (L2N.CX P w) P w K mg base N x (defScope st) f cdv A outer s H E) (defBody st) t ∧ t { nx := fun _ H' => Q .non H', rt := Q } (start N vs) H) : Has P w K mg base (L2N.CX P w) (k + 1) x ps sp := by
  obtain ⟨f, fd, D⟩ := D
  obtain ⟨⟨oc, od, kV, doc, pm, an, cdv, ct, osl, rfl, lk, hcd⟩, kp⟩ := id D.fn
  exact ⟨f, _, fn_of lk hcd S len fun A outer s H vs Q E hr hsp => hbody f cdv A outer s H vs Q E hr hsp, D.gl, kp, D.bi⟩
end
/-- a call whose raising is wished for at the caller's slots -/
theorem pe_hS {X : Cx} {CX : CXT} {k : Nat} {x : Str} {ps : List Str} {sp : Sp} {E : L2.St → XK} {p pos : Pos} {e : Expr} {es : List Expr} {t : TA} (h : Has X.prog X.w X.K X.mg X.base CX k x ps sp) (hr : Room k X.A) (hx : ∀ σ, PassesAt CX X σ (E σ)) (ha : PA X (e :: es) t) (hg : Gl X x := by rfl)
    (hdb : (x == ("__debug__" : Str)) = false := by decide) (he : starEach (e :: es) X.env = (false, eval e X.env) :: starEach es X.env := by rfl) (hpl : (backTo pos (starEach es X.env)).any (·.1) = false := by rfl) :
    PE X (.Call (.Name x p) (e :: es) [] pos) (tCallS sp E t) := by
  obtain ⟨f, fd, F, hm, hk, hb⟩ := h
  exact pe_callS F hr hg hm hk hb hx ha hdb he hpl
/-- a raising def's call, from a def that lets the same out -/
theorem passN {X : Cx} {W : WX} {E : XK} (tk : L2N.Takes X W) (hW : ∀ cls d σ H, E cls d H → W cls d σ H) : Passes (L2N.CX X.prog X.w) X E := L2N.passes_call tk hW
/-- a raising def's call where it raises nothing -/
theorem passNL {X : Cx} : Passes (L2N.CX X.prog X.w) X E0 := fun _ _ _ _ _ _ _ h => by
  obtain ⟨_, _, _, _, _, _, _, _, _, _, _, _, z⟩ := h
  exact z.elim
theorem takesN0 {X : Cx} : L2N.Takes X (fun _ _ _ _ => False) := fun _ _ x => by
  obtain ⟨_, _, _, _, _, _, _, _, _, _, _, _, _, _, _, _, z⟩ := x
  exact z.elim
/-- raise C('..') -/
theorem ps_raiseC {X : Cx} {W : WX} {C : Addr} {x m : Str} {j : Nat} {p p2 pos pos' : Pos} (hc : X.calm = true) (tk : L2N.Takes X W) (e : Exc X.K X.mg x C) (hg : Gl X x) (hdb : (x == ("__debug__" : Str)) = false := by decide) :
    PS X (.Raise (some (.Call (.Name x p) [.Constant (.str m) j p2] [] pos)) none pos') (fun _ σ H => W (.ref C) none σ H) :=
  L2N.ps_raise hc tk (L2N.pmk_own PySem.F.excBase_ValueError e.x e.g e.k (raises_own e.b e.t) hg hdb)
end Peg

namespace Peg
/-! ### walks of moves -/
def mI (x : (Nat × Int) × List Int) : Int × Int := ((x.1.1 : Int), x.1.2)
def movesL (r : Rule) (s : List Int) : List (Int × Int) := (behindL r s).map mI
def stepL (r : Rule) (s : List Int) (m : Int × Int) : Option (List Int) := if m ∈ movesL r s then some (s.set m.1.toNat m.2) else none
def walkL (r : Rule) : List Int → List (Int × Int) → Option (List Int)
  | s, [] => some s
  | s, m :: ms => match stepL r s m with
    | none => none
    | some s' => walkL r s' ms
theorem allowed_self {r : Rule} {a : Int} (h : P3 a) : allowed r a a = false := by
  rcases h with rfl | rfl | rfl <;> cases r <;> decide
theorem okB_eq {r : Rule} {s : List Int} {i : Nat} {a e : Int} (h : P3 a) : okB r s i a e = (!decide (e ∈ s.take i) && allowed r a e) := by
  unfold okB
  by_cases q : a = e
  · subst q
    rw [allowed_self h, decide_eq_true rfl, Bool.and_false]
    rfl
  · rw [decide_eq_false q, okM_allowed q]
    rfl
theorem mem_moves {r : Rule} {s : List Int} {m : Int × Int} : m ∈ movesL r s ↔ ∃ x, x ∈ behindL r s ∧ mI x = m := List.mem_map
/-- the state behind a move that can be done -/
theorem behind_set {r : Rule} {s : List Int} {x : (Nat × Int) × List Int} (h : x ∈ behindL r s) : x.2 = s.set x.1.1 x.1.2 ∧ x.1.1 < s.length := by
  obtain ⟨i, a, e, h1, _, _, _, rfl⟩ := mem_behind.mp h
  exact ⟨rfl, (List.getElem?_eq_some_iff.mp h1).1⟩
theorem stepL_of {r : Rule} {s : List Int} {x : (Nat × Int) × List Int} (h : x ∈ behindL r s) : stepL r s (mI x) = some x.2 := by
  unfold stepL
  rw [if_pos (mem_moves.mpr ⟨x, h, rfl⟩), (behind_set h).1]
  show some (s.set (Int.toNat ((x.1.1 : Nat) : Int)) _) = _
  rw [Int.toNat_natCast]
  rfl
theorem stepL_none {r : Rule} {s : List Int} {m : Int × Int} (h : ∀ x ∈ behindL r s, mI x ≠ m) : stepL r s m = none := by
  unfold stepL
  rw [if_neg fun q => by
    obtain ⟨x, hx, e⟩ := mem_moves.mp q
    exact h x hx e]
theorem stepL_some {r : Rule} {s s' : List Int} {m : Int × Int} (h : stepL r s m = some s') : ∃ x, x ∈ behindL r s ∧ mI x = m ∧ x.2 = s' := by
  unfold stepL at h
  by_cases q : m ∈ movesL r s
  · obtain ⟨x, hx, e⟩ := mem_moves.mp q
    refine ⟨x, hx, e, ?_⟩
    have := stepL_of hx
    rw [e] at this
    unfold stepL at this
    exact Option.some.inj (this.symm.trans h)
  · rw [if_neg q] at h
    cases h
theorem walk_snoc (r : Rule) (m : Int × Int) : ∀ (ms : List (Int × Int)) (s : List Int), walkL r s (ms ++ [m]) = (walkL r s ms).bind fun s' => stepL r s' m
  | [], s => by
    show (match stepL r s m with | none => none | some s' => walkL r s' []) = stepL r s m
    cases stepL r s m <;> rfl
  | n :: ms, s => by
    show (match stepL r s n with | none => none | some s' => walkL r s' (ms ++ [m])) = (match stepL r s n with | none => none | some s' => walkL r s' ms).bind _
    cases stepL r s n with
    | none => rfl
    | some s' => exact walk_snoc r m ms s'
theorem mI_inj {x y : (Nat × Int) × List Int} (h : mI x = mI y) : x.1 = y.1 := by
  have h1 := congrArg Prod.fst h
  have h2 := congrArg Prod.snd h
  exact Prod.ext (by have h1 : ((x.1.1 : Nat) : Int) = ((y.1.1 : Nat) : Int) := h1; omega) h2
/-- those of the moves that are m -/
theorem near_one {r : Rule} {s : List Int} {m : Int × Int} : (((behindL r s).filter fun x => decide (mI x = m)).map (·.2)) = match stepL r s m with | none => [] | some s' => [s'] := by
  cases h : stepL r s m with
  | none =>
    have : (behindL r s).filter (fun x => decide (mI x = m)) = [] := List.filter_eq_nil_iff.mpr fun x hx q => by
      have := stepL_of hx
      rw [of_decide_eq_true q, h] at this
      cases this
    rw [this]
    rfl
  | some s' =>
    obtain ⟨x, hx, e, rfl⟩ := stepL_some h
    have hn := behind_nodup r s
    have e1 : (behindL r s).filter (fun y => decide (mI y = m)) = (behindL r s).filter (fun y => decide (y.1 = x.1)) := by
      refine List.filter_congr fun y hy => ?_
      subst e
      exact decide_eq_decide.mpr ⟨mI_inj, fun q => by unfold mI; rw [q]⟩
    have e2 := filter_one (fun y : (Nat × Int) × List Int => y.1) x.1 hn
    rw [if_pos (List.mem_map.mpr ⟨x, hx, rfl⟩)] at e2
    rw [e1]
    cases hf : (behindL r s).filter (fun y => decide (y.1 = x.1)) with
    | nil =>
      rw [hf] at e2
      cases e2
    | cons y ys =>
      rw [hf] at e2
      cases ys with
      | cons z zs =>
        have := congrArg List.length e2
        simp at this
      | nil =>
        have hy := List.mem_filter.mp (hf ▸ List.mem_cons_self : y ∈ (behindL r s).filter (fun y => decide (y.1 = x.1)))
        have : y = x := key_inj hn hy.1 hx (of_decide_eq_true hy.2)
        rw [this]
        rfl
theorem stepL_len {r : Rule} {s s' : List Int} {m : Int × Int} (h : stepL r s m = some s') : s'.length = s.length := by
  obtain ⟨x, hx, _, rfl⟩ := stepL_some h
  exact behind_len hx
theorem stepL_all {r : Rule} {s s' : List Int} {m : Int × Int} (hs : AllP s) (h : stepL r s m = some s') : AllP s' := by
  obtain ⟨x, hx, _, rfl⟩ := stepL_some h
  exact behind_all hs hx
theorem stepL_bad {r : Rule} {s : List Int} {m : Int × Int} (h : ¬ P3 m.2) : stepL r s m = none := stepL_none fun x hx e => by
  obtain ⟨i, a, e', _, _, h3, _, rfl⟩ := mem_behind.mp hx
  rw [← e] at h
  exact h h3
/-- the topmost disc has a move -/
theorem behind_pos (r : Rule) {s : List Int} (hs : AllP s) (h : s ≠ []) : 0 < (behindL r s).length := by
  cases s with
  | nil => exact absurd rfl h
  | cons a s =>
    have pa : P3 a := hs a List.mem_cons_self
    have : ∃ e, P3 e ∧ allowed r a e = true := by
      rcases pa with rfl | rfl | rfl <;> cases r
      · exact ⟨1, by unfold P3; omega, by decide⟩
      · exact ⟨1, by unfold P3; omega, by decide⟩
      · exact ⟨1, by unfold P3; omega, by decide⟩
      · exact ⟨0, by unfold P3; omega, by decide⟩
      · exact ⟨0, by unfold P3; omega, by decide⟩
      · exact ⟨2, by unfold P3; omega, by decide⟩
      · exact ⟨1, by unfold P3; omega, by decide⟩
      · exact ⟨1, by unfold P3; omega, by decide⟩
      · exact ⟨0, by unfold P3; omega, by decide⟩
    obtain ⟨e, pe, ae⟩ := this
    have : ((0, e), (a :: s).set 0 e) ∈ behindL r (a :: s) := mem_behind.mpr ⟨0, a, e, rfl, by simp, pe, by
      rw [okB_eq pa, ae]
      rfl, rfl⟩
    exact List.length_pos_of_mem this
theorem moves_len (r : Rule) (s : List Int) : (movesL r s).length ≤ 3 * s.length := by
  unfold movesL behindL
  rw [List.length_map]
  exact flat_len r s s.length
end Peg

namespace Peg
open PySem PyProof.Rows L2 HotX
/-! ### a body that is walked only where C holds -/
def tWhen (C : Prop) (t : TS) : TS := fun D σ H => C ∧ t D σ H
theorem pss_when {X : Cx} {b : List Stmt} {t : TS} {C : Prop} (h : C → PSs X b t) : PSs X b (tWhen C t) :=
  ⟨fun pins s σ H D I q => (h q.1).run pins s σ H D I q.2⟩
/-- a value that is a list or a tuple is walked -/
def iOr (w1 w2 : TI) : TI := fun σ H R => w1 σ H R ∨ w2 σ H R
theorem pi_or {X : Cx} {tg e : Expr} {w1 w2 : TI} (h1 : PI X tg e w1) (h2 : PI X tg e w2) : PI X tg e (iOr w1 w2) :=
  ⟨fun pins s σ H R I h => h.elim (h1.run pins s σ H R I) (h2.run pins s σ H R I)⟩
/-- the suite's context bears the exception -/
theorem hot_suite {X : Cx} {a : Addr} {oe : Obj} {pn : List (Addr × Obj)} {cls : Value} {d : Option Addr} (hz : L2N.Zn cls d oe) (hf : ∃ vs, oe.data = .fields vs) : L2H.HotC (X.suite a ((a, oe) :: pn)) := by
  obtain ⟨vs, hv⟩ := hf
  exact ⟨(a, oe), ⟨rfl, vs, hv, hz.2.2 vs hv⟩, List.mem_cons_self⟩
/-- what an except clause of the class T makes of an error C (a class beneath T) -/
theorem rd_as {K : PySem.W.Frag} {cls c : Value} {i : Nat} {ts : Addr → Value → Option Addr → TS} {Wout : WX} {nx bk ct : L2.St → Hp → Prop} {rt : VK} {d : Option Addr} {σ : L2.St} {H : Hp} (e : PySem.W.exmOne K cls c = some true)
    (h : ∀ a, H a = none → ts a cls d ⟨fun σ' H' => nx (σ'.set i none) H', rt, fun σ' H' => bk (σ'.set i none) H', fun σ' H' => ct (σ'.set i none) H'⟩ (σ.set i (some (.ref a))) H) : wAs K c i ts Wout ⟨nx, rt, bk, ct⟩ cls d σ H :=
  ⟨true, e, fun _ a ha => h a ha, fun q => nomatch q⟩
theorem rd_isE {K : PySem.W.Frag} {H : Hp} {Q : VK} {D a C : Addr} {b : Bool} (e : PySem.W.kitOne K (.ref D) (.ref C) = some b) (q : Q (.bl b) H) : rIsE K D a [.ref a, .ref C] H Q := ⟨.ref C, .ref C, b, rfl, fun u r => r, e, q⟩
theorem rd_isET {K : PySem.W.Frag} {H : Hp} {Q : VK} {D a : Addr} {c : String} {b : Bool} (e : PySem.W.kitOne K (.ref D) (.type c) = some b) (q : Q (.bl b) H) : rIsE K D a [.ref a, .ty c] H Q := ⟨.ty c, .type c, b, rfl, fun u r => r, e, q⟩
/-- [e for x, y in a list of pairs if t] -/
theorem lc_2t {σ : L2.St} {H : Hp} {Q : VK} {tt : TT} {te : TE} {vs : List Nat} {K : PySem.W.Frag} {a D : Addr} {xs : List V} {j l m : Nat} (Pv : Nat → Hp → Prop) (h0 : Pv 0 (upd H D (.lst []))) (hl : ∀ i H, i ≤ xs.length → Pv i H → SqL K H a xs)
    (hs : ∀ i x H, xs[i]? = some x → Pv i H → ∃ t y z, x = .ref t ∧ SqT K H t [y, z] ∧ wipe (((wipe σ vs).set j (some y)).set l (some z)) vs = wipe σ vs ∧ tt (((wipe σ vs).set j (some y)).set l (some z)) H fun b H3 => if b = true then te (((wipe σ vs).set j (some y)).set l (some z)) H3 fun y H4 => ∃ acc, H4 D = some (.lst acc) ∧ acc.length < sizeLine ∧ Pv (i + 1) (upd H4 D (.lst (acc ++ [y]))) else Pv (i + 1) H3)
    (hd : ∀ H, Pv xs.length H → Q (.ref D) H) (hm : m = 2 := by rfl) : LcW (Itl K a) D (gTup K m (gCons (gName j) (gCons (gName l) gNil))) tt te vs σ Q H := by
  subst hm
  refine lc_list (D := D) Pv h0 hl (fun i x H hi p => ?_) hd
  obtain ⟨t, y, z, rfl, ht, hw, he⟩ := hs i x H hi p
  exact ⟨t, _, rfl, ht, rfl, y, [z], rfl, z, [], rfl, rfl, hw, he⟩
theorem zc_of {cls v : Value} {d : Option Addr} {oe : Obj} (hz : L2N.Zn cls d oe) (he : cls = v ∧ d = none) : Zc v none oe := by
  obtain ⟨rfl, rfl⟩ := he
  exact hz.zc
theorem un65 {k : Nat} {A : Around} (hr : Room k A) : A.units + 65 < cLine := by
  have := hr.un
  omega
/-- the error classes' names -/
structure Errs (mg : Str → Option Value) (cT cR cS cP cM cN cU cX : Addr) : Prop where
  TowerError : mg "TowerError" = some (.ref cT)
  BadRule : mg "BadRule" = some (.ref cR)
  BadState : mg "BadState" = some (.ref cS)
  BadPeg : mg "BadPeg" = some (.ref cP)
  BadMove : mg "BadMove" = some (.ref cM)
  BadNumber : mg "BadNumber" = some (.ref cN)
  Unlike : mg "Unlike" = some (.ref cU)
  BadText : mg "BadText" = some (.ref cX)
theorem cxOf_KX {CX : CXT} {P : Program} {w : World} {K : PySem.W.Frag} {mg : Str → Option Value} {base : Heap} {N : List Str} {q : Str} {sc : Scope} {f : Addr} {cd : Value} {A : Around} {o : List Env} {s : Shared} {H : Hp} {E : XK} :
    (cxOf CX P w K mg base N q sc f cd A o s H E).K = K := rfl
section
variable {nx bk ct : L2.St → Hp → Prop} {rt : VK} {σ : L2.St} {H : Hp} {te to ti : TE} {ts : TSet} {v : V}
theorem rd_asgS (h : te σ H fun v H' => gSub to ti ts v σ H' nx) : tAsg te (gSub to ti ts) ⟨nx, rt, bk, ct⟩ σ H := h
theorem rd_gS {R : L2.St → Hp → Prop} (h : to σ H fun x H1 => ti σ H1 fun y H2 => ts x y v H2 fun H3 => R σ H3) : gSub to ti ts v σ H R := h
theorem rd_setL {p : Addr} {xs : List V} {j : Nat} {R : Hp → Prop} (h : H p = some (.lst xs)) (l : j < xs.length) (q : R (upd H p (.lst (xs.set j v)))) : rSetL (.ref p) (.int (j : Int)) v H R := ⟨p, xs, _, j, rfl, rfl, h, by
  unfold ixN
  rw [if_pos (by omega), if_pos (by omega), Int.toNat_natCast], q⟩
end
theorem op_eqDK {X : Cx} {K : PySem.W.Frag} (hK : X.K = K) (hu : X.A.units + 64 < cLine) : OpR X (compareOp .Eq) (rEqD K) := by
  subst hK
  exact op_eqD hu
theorem op_neDK {X : Cx} {K : PySem.W.Frag} (hK : X.K = K) (hu : X.A.units + 64 < cLine) : OpR X (compareOp .NotEq) (rNeD K) := by
  subst hK
  exact op_neD hu
theorem call_isiK {X : Cx} {K : PySem.W.Frag} (hK : X.K = K) : CallR X (.builtin "isinstance") (rIsi K) := by
  subst hK
  exact call_isi
theorem cr_anyHK {X : Cx} {K : PySem.W.Frag} (hK : X.K = K) (hc : L2H.HotC X) : CallR X (.builtin "any") (rAny K) := by
  subst hK
  exact cr_anyH hc
theorem cr_isEK {X : Cx} {K : PySem.W.Frag} {a D : Addr} {oe : Obj} (hK : X.K = K) (hp : (a, oe) ∈ X.pn) (C : ExcC K D) (hz : Zc (.ref D) none oe) (hf : ∃ vs, oe.data = .fields vs) : CallR X (.builtin "isinstance") (rIsE K D a) := by
  subst hK
  exact cr_isE hp C hz hf
/-! ### moves among moves -/
theorem any_eqv {ds : List PyData} {d : PyData} (hd : plain d = true) (hs : plainAll ds = true) : (ds.any fun z => PyData.eqv z d) = true ↔ d ∈ ds := by
  induction ds with
  | nil => simp
  | cons x ds ih =>
    have h : (plain x && plainAll ds) = true := hs
    rw [Bool.and_eq_true] at h
    rw [List.any_cons, Bool.or_eq_true, ih h.2, eqv_plain x d h.1 hd, List.mem_cons]
    exact or_congr_left eq_comm
theorem rd_niP {K : PySem.W.Frag} {H : Hp} {Q : VK} {v : V} {p : Addr} {m : Int × Int} {ms : List (Int × Int)} (hv : Pair K H v m) (hp : Pairs K H p ms) (q : Q (.bl (!decide (m ∈ ms))) H) : rNotInD K v (.ref p) H Q := by
  refine ⟨_, _, hv.dp, hp.dp, (good_pair 0 m).good.sh, (good_pairs 0 ms).good.sh, ?_⟩
  have e := any_eqv (ds := ms.map dPair) (good_pair 0 m).pl (plainAll_of fun d hd => by
    obtain ⟨c, _, rfl⟩ := List.mem_map.mp hd
    exact (good_pair 0 c).pl)
  have e2 : dPair m ∈ ms.map dPair ↔ m ∈ ms := ⟨fun h => by
    obtain ⟨c, hc, e⟩ := List.mem_map.mp h
    rw [← dPair_inj.mp e]
    exact hc, fun h => List.mem_map.mpr ⟨m, h, rfl⟩⟩
  have e3 : ((ms.map dPair).any fun z => PyData.eqv z (dPair m)) = decide (m ∈ ms) := by
    by_cases z : m ∈ ms
    · rw [decide_eq_true z]
      exact e.mpr (e2.mpr z)
    · rw [decide_eq_false z]
      cases y : ((ms.map dPair).any fun z => PyData.eqv z (dPair m)) with
      | false => rfl
      | true => exact absurd (e2.mp (e.mp y)) z
  rw [e3]
  exact q
/-! ### promises -/
def sp_is_allowed : Sp := fun vs H Q _ => ∃ (r : Rule) (a b : Int), vs = [.str r.s, .int a, .int b] ∧ Q (.bl (allowed r a b)) H
theorem rd_is_allowed {H : Hp} {Q : VK} {r : Rule} {E : XK} {a b : Int} (h : Q (.bl (allowed r a b)) H) : sp_is_allowed ([.str r.s, .int a, .int b] ++ []) H Q E := ⟨r, a, b, rfl, h⟩
def sp_moves_of (K : PySem.W.Frag) : Sp := fun vs H Q _ => ∃ (r : Rule) (a : Addr) (s : List Int), vs = [.str r.s, .ref a] ∧ SqL K H a (s.map V.int) ∧ s.length ≤ 999 ∧ AllP s ∧
  ∀ p ws H', H p = none → Same H H' → H' p = some (.lst ws) → Laid H' ws (movesL r s) → Q (.ref p) H'
def sp_is_move (K : PySem.W.Frag) : Sp := fun vs H Q _ => ∃ (v : V) (m : Int × Int), vs = [v] ∧ Pair K H v m ∧ Q (.bl true) H
/-- the state behind a walk, else the error of the class C -/
def sp_done (K : PySem.W.Frag) (C : Addr) : Sp := fun vs H Q E => ∃ (r : Rule) (a b : Addr) (s : List Int) (ms : List (Int × Int)), vs = [.str r.s, .ref a, .ref b] ∧ SqL K H a (s.map V.int) ∧ s.length ≤ 999 ∧ AllP s ∧ Pairs K H b ms ∧
  (∀ s', walkL r s ms = some s' → ∀ p H', H p = none → Same H H' → H' p = some (.lst (s'.map V.int)) → Q (.ref p) H') ∧ (walkL r s ms = none → ∀ H', Same H H' → E (.ref C) none H')
/-- a walk's end as the law's helpers tell it: a state, or the empty tuple -/
def Res (K : PySem.W.Frag) (H : Hp) (p : Addr) : Option (List Int) → Prop
  | some s => SqL K H p (s.map V.int)
  | none => SqT K H p []
def sp_walked (K : PySem.W.Frag) : Sp := fun vs H Q _ => ∃ (r : Rule) (a b : Addr) (s : List Int) (ms : List (Int × Int)), vs = [.str r.s, .ref a, .ref b] ∧ SqL K H a (s.map V.int) ∧ s.length ≤ 999 ∧ AllP s ∧ Pairs K H b ms ∧
  ∀ p H', Same H H' → Res K H' p (walkL r s ms) → Q (.ref p) H'
def dRes : Option (List Int) → PyData
  | some s => dInts s
  | none => .tuple []
theorem Res.dp {K : PySem.W.Frag} {H : Hp} {p : Addr} : ∀ {o : Option (List Int)}, Res K H p o → Dp K H (.ref p) (dRes o)
  | some _, h => dp_ints h
  | none, h => .tup h .nil
theorem Res.mono {K : PySem.W.Frag} {H H' : Hp} {p : Addr} (e : Same H H') : ∀ {o : Option (List Int)}, Res K H p o → Res K H' p o
  | some _, h => e.seq h
  | none, h => sqT_mono e h
theorem good_res : ∀ o : Option (List Int), Good (dRes o)
  | some s => (good_ints 0 s).good
  | none => (good_nilT 0).good
theorem dRes_none {o : Option (List Int)} : dRes o = .tuple [] ↔ o = none := by
  cases o with
  | none => exact ⟨fun _ => rfl, fun _ => rfl⟩
  | some s =>
    constructor
    · intro h
      cases h
    · intro h
      cases h
theorem Laid.upd {H : Hp} {vs ys : List V} {cs : List (Int × Int)} {l : Addr} {o : HO} (h : Laid H vs cs) (hl : H l = some (.lst ys)) : Laid (upd H l o) vs cs := Paired.mapP h fun v c ⟨p, e, h⟩ => ⟨p, e, tup_keep h hl⟩
theorem Laid.mono {H H' : Hp} {vs : List V} {cs : List (Int × Int)} (e : Same H H') (h : Laid H vs cs) : Laid H' vs cs := Paired.mapP h fun v c ⟨p, e1, h⟩ => ⟨p, e1, e _ _ h⟩
/-- a cut of a list of moves is one -/
theorem paired_take {α β : Type} {F : α → β → Prop} : ∀ {l₁ : List α} {l₂ : List β} (n : Nat), Paired F l₁ l₂ → Paired F (l₁.take n) (l₂.take n)
  | _, _, 0, _ => .nil
  | _, _, _ + 1, .nil => .nil
  | _, _, n + 1, .cons h t => .cons h (paired_take n t)
theorem paired_app {α β : Type} {F : α → β → Prop} : ∀ {l₁ m₁ : List α} {l₂ m₂ : List β}, Paired F l₁ l₂ → Paired F m₁ m₂ → Paired F (l₁ ++ m₁) (l₂ ++ m₂)
  | _, _, _, _, .nil, h => h
  | _, _, _, _, .cons a t, h => .cons a (paired_app t h)
theorem paired_rev {α β : Type} {F : α → β → Prop} : ∀ {l₁ : List α} {l₂ : List β}, Paired F l₁ l₂ → Paired F l₁.reverse l₂.reverse
  | _, _, .nil => .nil
  | _, _, .cons a t => by
    rw [List.reverse_cons, List.reverse_cons]
    exact Paired.snoc (paired_rev t) a
theorem rd_callS {sp : Sp} {E : L2.St → XK} {t : TA} {σ : L2.St} {H : Hp} {Q : VK} (h : t σ H fun vs H1 => sp vs H1 Q (E σ)) : tCallS sp E t σ H Q := h
theorem kit_self {K : PySem.W.Frag} {D : Addr} : PySem.W.kitOne K (.ref D) (.ref D) = some true := by
  unfold PySem.W.kitOne
  rw [if_pos (beq_self_eq_true _)]
theorem kit_ref {K : PySem.W.Frag} {D C : Addr} {b : Bool} (hd : PySem.W.hasDictIn K C = true) (ht : PySem.W.typeIn K (.ref C) = some (.type "type")) (h : PySem.W.subIn K (.ref D) (.ref C) = some b) (ne : (D == C) = false) : PySem.W.kitOne K (.ref D) (.ref C) = some b := by
  obtain ⟨cd, hc, _⟩ := PySem.W.any_some hd
  have e2 : ((PySem.W.clsIn K C).isSome && PySem.W.typeIn K (.ref C) == some (.type "type")) = true := by rw [hc, ht] <;> rfl
  unfold PySem.W.kitOne
  rw [if_neg (fun z => by
    have z := Value.ref.inj (beq_iff_eq.mp z)
    subst z
    rw [beq_self_eq_true] at ne
    cases ne)]
  show (if ((PySem.W.clsIn K C).isSome && PySem.W.typeIn K (.ref C) == some (.type "type")) = true then PySem.W.subIn K (.ref D) (.ref C) else none) = some b
  rw [if_pos e2]
  exact h
theorem kit_typ {K : PySem.W.Frag} {D : Addr} {c : String} {b : Bool} (hm : PySem.W.kitMeta c = true) (h : PySem.W.subIn K (.ref D) (.type c) = some b) : PySem.W.kitOne K (.ref D) (.type c) = some b := by
  unfold PySem.W.kitOne
  rw [if_neg (show ¬ ((Value.ref D == Value.type c) = true) from fun z => by
    have z := beq_iff_eq.mp z
    cases z)]
  show (if PySem.W.kitMeta c = true then PySem.W.subIn K (.ref D) (.type c) else none) = some b
  rw [if_pos hm]
  exact h
/-- a list of states -/
def dStates (xs : List (List Int)) : PyData := .list (xs.map dInts)
theorem dpAll_states {K : PySem.W.Frag} {H : Hp} : ∀ {vs : List V} {xs : List (List Int)}, Paired (fun v x => ∃ p, v = .ref p ∧ SqL K H p (x.map V.int)) vs xs → DpAll K H vs (xs.map dInts)
  | _, _, .nil => .nil
  | _, _, .cons ⟨_, rfl, h⟩ t => .cons (dp_ints h) (dpAll_states t)
theorem good_states (xs : List (List Int)) : Good (dStates xs) := (GoodN.list (n := 1) fun d hd => by
  obtain ⟨i, _, rfl⟩ := List.mem_map.mp hd
  exact good_ints 0 i).good
theorem dStates_nil {xs : List (List Int)} : dStates xs = .list [] ↔ xs = [] := by
  constructor
  · intro h
    exact List.map_eq_nil_iff.mp (PyData.list.inj h)
  · rintro rfl
    rfl
end Peg

namespace Peg
/-! ### behind a number of moves of the best way -/
def nxt (r : Rule) : List Int → Int → List Int
  | [], _ => []
  | a :: s, g => match N r s (gn r a g) with
    | some _ => a :: nxt r s (gn r a g)
    | none => if a = g then a :: s else fst r a g :: s
def it (r : Rule) (g : Int) : Nat → List Int → List Int
  | 0, l => l
  | k + 1, l => nxt r (it r g k l) g
theorem nxt_none (r : Rule) : ∀ (l : List Int) (g : Int), N r l g = none → nxt r l g = l
  | [], _, _ => rfl
  | a :: s, g, h => by
    unfold N at h
    split at h
    · cases h
    · rename_i hn
      split at h
      · rename_i ea
        unfold nxt
        rw [hn]
        exact if_pos ea
      · cases h
theorem nxt_mv (r : Rule) : ∀ (l : List Int) (g : Int), AllP l → P3 g → ∀ {d : Nat} {e : Int}, N r l g = some (d, e) → Mv r l d e (nxt r l g)
  | [], _, _, _, _, _, h => nomatch h
  | a :: s, g, hl, hg, d, e, h => by
    have ha : P3 a := hl a List.mem_cons_self
    have hs : AllP s := fun p hp => hl p (List.mem_cons_of_mem _ hp)
    unfold N at h
    unfold nxt
    cases hm : N r s (gn r a g) with
    | some m =>
      rw [hm] at h
      cases h
      exact .there (nxt_mv r s (gn r a g) hs (gn_P3 ha hg) hm)
    | none =>
      rw [hm] at h
      simp only at h ⊢
      by_cases ne : a = g
      · rw [if_pos ne] at h
        cases h
      · rw [if_neg ne] at h ⊢
        cases h
        refine .here (fst_allowed ha hg ne) (fun x hx => ?_) (fst_P3 ha hg ne)
        rw [← fst_gn ha hg ne]
        exact (N_none r s _).mp hm x hx
theorem N_L (r : Rule) (l : List Int) (g : Int) : N r l g = none ↔ L r l g = 0 := by rw [N_none, L_zero]
theorem nxt_len (r : Rule) : ∀ (l : List Int) (g : Int), (nxt r l g).length = l.length
  | [], _ => rfl
  | a :: s, g => by
    unfold nxt
    split
    · exact congrArg (· + 1) (nxt_len r s _)
    · split <;> rfl
theorem nxt_all (r : Rule) {l : List Int} {g : Int} (hl : AllP l) (hg : P3 g) : AllP (nxt r l g) := by
  cases h : N r l g with
  | none =>
    rw [nxt_none r l g h]
    exact hl
  | some m => exact (nxt_mv r l g hl hg (d := m.1) (e := m.2) h).all hl
theorem nxt_L (r : Rule) {l : List Int} {g : Int} (hl : AllP l) (hg : P3 g) (h : 0 < L r l g) : L r (nxt r l g) g = L r l g - 1 := by
  cases hn : N r l g with
  | none =>
    have := (N_L r l g).mp hn
    omega
  | some m =>
    have := (step_of r (nxt_mv r l g hl hg (d := m.1) (e := m.2) hn) hl hg).one.mpr hn
    omega
theorem it_len (r : Rule) (g : Int) : ∀ (k : Nat) (l : List Int), (it r g k l).length = l.length
  | 0, _ => rfl
  | k + 1, l => by
    show (nxt r (it r g k l) g).length = _
    rw [nxt_len, it_len r g k l]
theorem it_all (r : Rule) {g : Int} (hg : P3 g) : ∀ (k : Nat) {l : List Int}, AllP l → AllP (it r g k l)
  | 0, _, h => h
  | k + 1, _, h => nxt_all r (it_all r hg k h) hg
theorem it_L (r : Rule) {g : Int} (hg : P3 g) : ∀ (k : Nat) {l : List Int}, AllP l → (k : Int) ≤ L r l g → L r (it r g k l) g = L r l g - k
  | 0, l, _, _ => by
    show L r l g = L r l g - ((0 : Nat) : Int)
    omega
  | k + 1, l, hl, hk => by
    have ih := it_L r hg k hl (by omega)
    show L r (nxt r (it r g k l) g) g = _
    rw [nxt_L r (it_all r hg k hl) hg (by omega), ih]
    omega
theorem it_add (r : Rule) (g : Int) (j : Nat) : ∀ (k : Nat) (l : List Int), it r g (j + k) l = it r g k (it r g j l)
  | 0, _ => rfl
  | k + 1, l => by
    show nxt r (it r g (j + k) l) g = nxt r (it r g k (it r g j l)) g
    rw [it_add r g j k l]
/-- while the lesser ones are not yet where they shall, they alone move -/
theorem it_cons (r : Rule) {a g : Int} (ha : P3 a) (hg : P3 g) : ∀ (k : Nat) {s : List Int}, AllP s → (k : Int) ≤ L r s (gn r a g) → it r g k (a :: s) = a :: it r (gn r a g) k s
  | 0, _, _, _ => rfl
  | k + 1, s, hs, hk => by
    have hk' : (k : Int) ≤ L r s (gn r a g) := by omega
    have ih := it_cons r ha hg k hs hk'
    have hL := it_L r (gn_P3 (r := r) ha hg) k hs hk'
    show nxt r (it r g k (a :: s)) g = a :: nxt r (it r (gn r a g) k s) (gn r a g)
    rw [ih]
    have hN : N r (it r (gn r a g) k s) (gn r a g) ≠ none := fun q => by
      have := (N_L r _ _).mp q
      omega
    conv => lhs; unfold nxt
    cases q : N r (it r (gn r a g) k s) (gn r a g) with
    | none => exact absurd q hN
    | some m => rfl
theorem all_rep {c : Int} (hc : P3 c) (n : Nat) : AllP (List.replicate n c) := fun p hp => List.eq_of_mem_replicate hp ▸ hc
theorem it_full (r : Rule) {g : Int} (hg : P3 g) {s : List Int} (hs : AllP s) : it r g (L r s g).toNat s = List.replicate s.length g := by
  have h := it_L r hg (L r s g).toNat hs (by have := L_nn r s g; omega)
  have h0 : L r (it r g (L r s g).toNat s) g = 0 := by
    have := L_nn r s g
    omega
  exact List.eq_replicate_iff.mpr ⟨it_len r g _ s, (L_zero r _ g).mp h0⟩
/-- behind the lesser ones' moves and the disc's first one -/
theorem it_over (r : Rule) {a g : Int} (ha : P3 a) (hg : P3 g) (ne : a ≠ g) {s : List Int} (hs : AllP s) (k : Nat) :
    it r g ((L r s (gn r a g)).toNat + 1 + k) (a :: s) = it r g k (fst r a g :: List.replicate s.length (gn r a g)) := by
  rw [it_add]
  congr 1
  show nxt r (it r g (L r s (gn r a g)).toNat (a :: s)) g = _
  rw [it_cons r ha hg _ hs (by have := L_nn r s (gn r a g); omega), it_full r (gn_P3 ha hg) hs]
  have hN : N r (List.replicate s.length (gn r a g)) (gn r a g) = none := (N_none r _ _).mpr fun p hp => List.eq_of_mem_replicate hp
  unfold nxt
  rw [hN]
  exact if_neg ne
/-! ### the same, as it is reckoned -/
def goneF (r : Rule) (c : Int × Int) : List (Int × Int) → Int → Int → Int → Int × Int × Int × Int
  | [], p, l, n => (p, l, n, -1)
  | (x, y) :: st, p, l, n => if n ≤ tower r c l (3 - x - y) then (p, l, n, 3 - x - y) else goneF r c st y (3 - x - y) (n - (tower r c l (3 - x - y) + 1))
def tbF (r : Rule) : Nat → Int → Int → Int → List Int
  | 0, _, _, _ => []
  | m + 1, st, g, n =>
    if st = g then st :: tbF r m st g n
    else (goneF r (tw r m) (steps r st g) st st n).1 :: tbF r m (goneF r (tw r m) (steps r st g) st st n).2.1
      (if 0 ≤ (goneF r (tw r m) (steps r st g) st st n).2.2.2 then (goneF r (tw r m) (steps r st g) st st n).2.2.2 else g) (goneF r (tw r m) (steps r st g) st st n).2.2.1
theorem gn_near {r : Rule} {a g : Int} (h : a ≠ g) (hn : isNear r a g = true) : gn r a g = 3 - a - g ∧ fst r a g = g ∧ steps r a g = [(a, g)] := by
  refine ⟨?_, ?_, ?_⟩
  · unfold gn
    rw [if_neg h, if_pos hn]
  · unfold fst
    rw [if_pos hn]
  · unfold steps
    rw [if_neg h, if_pos hn]
theorem gn_far {r : Rule} {a g : Int} (h : a ≠ g) (hn : isNear r a g = false) : gn r a g = g ∧ fst r a g = 3 - a - g ∧ steps r a g = [(a, 3 - a - g), (3 - a - g, g)] := by
  refine ⟨?_, ?_, ?_⟩
  · unfold gn
    rw [if_neg h, if_neg (by rw [hn]; decide)]
  · unfold fst
    rw [if_neg (by rw [hn]; decide)]
  · unfold steps
    rw [if_neg h, if_neg (by rw [hn]; decide)]
theorem far_near {r : Rule} {a g : Int} (ha : P3 a) (hg : P3 g) (h : a ≠ g) (hn : isNear r a g = false) : isNear r (3 - a - g) g = true ∧ 3 - a - g ≠ g ∧ P3 (3 - a - g) := by
  refine ⟨?_, ?_, ha.third hg h⟩
  · cases r <;> rcases ha with rfl | rfl | rfl <;> rcases hg with rfl | rfl | rfl <;> revert h hn <;> decide
  · unfold P3 at *
    omega
section
variable (r : Rule) (m : Nat) (tb : ∀ {st g : Int} {k : Nat}, P3 st → P3 g → (k : Int) ≤ tower r (tw r m) st g → tbF r m st g k = it r g k (List.replicate m st))
include tb
/-- a disc near its goal, over a whole tower -/
theorem one_near {p q g : Int} (hp : P3 p) (hq : P3 q) (hg : P3 g) (ne : p ≠ g) (hn : isNear r p g = true) {k : Nat} (hk : (k : Int) ≤ L r (p :: List.replicate m q) g) :
    it r g k (p :: List.replicate m q) = (goneF r (tw r m) [(p, g)] p q k).1 :: tbF r m (goneF r (tw r m) [(p, g)] p q k).2.1 (if 0 ≤ (goneF r (tw r m) [(p, g)] p q k).2.2.2 then (goneF r (tw r m) [(p, g)] p q k).2.2.2 else g) (goneF r (tw r m) [(p, g)] p q k).2.2.1 := by
  obtain ⟨e1, e2, e3⟩ := gn_near ne hn
  have hx : P3 (3 - p - g) := hp.third hg ne
  have hL : L r (p :: List.replicate m q) g = 1 + tower r (tw r m) (3 - p - g) g + tower r (tw r m) q (3 - p - g) := by
    show bf r p g (tw r (List.replicate m q).length) + L r (List.replicate m q) (gn r p g) = _
    rw [List.length_replicate, e1, L_rep r hq m hx]
    unfold bf
    rw [if_neg ne, if_pos hn]
  have hq' : L r (List.replicate m q) (gn r p g) = tower r (tw r m) q (3 - p - g) := by rw [e1, L_rep r hq m hx]
  have hnn := tower_nn (tw_ok r m) q (3 - p - g)
  unfold goneF
  by_cases h : (k : Int) ≤ tower r (tw r m) q (3 - p - g)
  · rw [if_pos h]
    have h0 : 0 ≤ 3 - p - g := by
      unfold P3 at hx
      omega
    show _ = p :: tbF r m q (if 0 ≤ 3 - p - g then 3 - p - g else g) k
    rw [if_pos h0, it_cons r hp hg k (all_rep hq m) (by rw [hq']; exact h), tb hq hx h, e1]
  · rw [if_neg h]
    show _ = g :: tbF r m (3 - p - g) (if (0 : Int) ≤ -1 then -1 else g) (k - (tower r (tw r m) q (3 - p - g) + 1))
    rw [if_neg (by decide)]
    obtain ⟨j, hj⟩ : ∃ j : Nat, (k : Int) - (tower r (tw r m) q (3 - p - g) + 1) = (j : Int) := ⟨((k : Int) - (tower r (tw r m) q (3 - p - g) + 1)).toNat, by omega⟩
    rw [hj, tb hx hg (by omega)]
    have ek : k = (L r (List.replicate m q) (gn r p g)).toNat + 1 + j := by
      rw [hq']
      omega
    rw [ek, it_over r hp hg ne (all_rep hq m), e1, e2, List.length_replicate]
    have hself : gn r g g = g := gn_self r g
    have := it_cons r hg hg j (s := List.replicate m (3 - p - g)) (all_rep hx m) (by rw [hself, L_rep r hx m hg]; omega)
    rw [this, hself]
/-- any disc that is not at its goal, over a whole tower -/
theorem one_any {p q g : Int} (hp : P3 p) (hq : P3 q) (hg : P3 g) (ne : p ≠ g) {k : Nat} (hk : (k : Int) ≤ L r (p :: List.replicate m q) g) :
    it r g k (p :: List.replicate m q) = (goneF r (tw r m) (steps r p g) p q k).1 :: tbF r m (goneF r (tw r m) (steps r p g) p q k).2.1 (if 0 ≤ (goneF r (tw r m) (steps r p g) p q k).2.2.2 then (goneF r (tw r m) (steps r p g) p q k).2.2.2 else g) (goneF r (tw r m) (steps r p g) p q k).2.2.1 := by
  cases hn : isNear r p g with
  | true =>
    rw [(gn_near ne hn).2.2]
    exact one_near r m tb hp hq hg ne hn hk
  | false =>
    obtain ⟨e1, e2, e3⟩ := gn_far ne hn
    obtain ⟨f1, f2, f3⟩ := far_near hp hg ne hn
    have hx : 3 - p - (3 - p - g) = g := by omega
    have hL : L r (p :: List.replicate m q) g = 2 + tower r (tw r m) g p + tower r (tw r m) p g + tower r (tw r m) q g := by
      show bf r p g (tw r (List.replicate m q).length) + L r (List.replicate m q) (gn r p g) = _
      rw [List.length_replicate, e1, L_rep r hq m hg]
      unfold bf
      rw [if_neg ne, if_neg (by rw [hn]; decide)]
    have hL2 : L r ((3 - p - g) :: List.replicate m g) g = 1 + tower r (tw r m) p g + tower r (tw r m) g p := by
      show bf r (3 - p - g) g (tw r (List.replicate m g).length) + L r (List.replicate m g) (gn r (3 - p - g) g) = _
      rw [List.length_replicate, (gn_near f2 f1).1, L_rep r hg m (by rw [show 3 - (3 - p - g) - g = p by omega]; exact hp)]
      unfold bf
      rw [if_neg f2, if_pos f1, show 3 - (3 - p - g) - g = p by omega]
    have hq' : L r (List.replicate m q) (gn r p g) = tower r (tw r m) q g := by rw [e1, L_rep r hq m hg]
    have hnn := tower_nn (tw_ok r m) q g
    have h0 : 0 ≤ g := by
      unfold P3 at hg
      omega
    rw [e3]
    have unf : ∀ n : Int, goneF r (tw r m) [(p, 3 - p - g), (3 - p - g, g)] p q n = if n ≤ tower r (tw r m) q g then (p, q, n, g) else goneF r (tw r m) [(3 - p - g, g)] (3 - p - g) g (n - (tower r (tw r m) q g + 1)) := fun n => by
      show (if n ≤ tower r (tw r m) q (3 - p - (3 - p - g)) then (p, q, n, 3 - p - (3 - p - g)) else goneF r (tw r m) [(3 - p - g, g)] (3 - p - g) (3 - p - (3 - p - g)) (n - (tower r (tw r m) q (3 - p - (3 - p - g)) + 1))) = _
      rw [hx]
    rw [unf]
    by_cases h : (k : Int) ≤ tower r (tw r m) q g
    · rw [if_pos h]
      show _ = p :: tbF r m q (if 0 ≤ g then g else g) k
      rw [if_pos h0, it_cons r hp hg k (all_rep hq m) (by rw [hq']; exact h), tb hq hg h, e1]
    · rw [if_neg h]
      obtain ⟨j, hj⟩ : ∃ j : Nat, (k : Int) - (tower r (tw r m) q g + 1) = (j : Int) := ⟨((k : Int) - (tower r (tw r m) q g + 1)).toNat, by omega⟩
      rw [hj]
      have ek : k = (L r (List.replicate m q) (gn r p g)).toNat + 1 + j := by
        rw [hq']
        omega
      rw [ek, it_over r hp hg ne (all_rep hq m), e1, e2, List.length_replicate]
      exact one_near r m tb f3 hg hg f2 f1 (by omega)
end
/-- a whole tower behind so many moves -/
theorem tb_it (r : Rule) : ∀ (m : Nat) {st g : Int} {k : Nat}, P3 st → P3 g → (k : Int) ≤ tower r (tw r m) st g → tbF r m st g k = it r g k (List.replicate m st)
  | 0, st, g, k, _, _, _ => by
    show ([] : List Int) = it r g k []
    have : (it r g k []).length = 0 := it_len r g k []
    exact (List.length_eq_zero_iff.mp this).symm
  | m + 1, st, g, k, hs, hg, hk => by
    by_cases e : st = g
    · subst e
      have hk0 : k = 0 := by
        rw [tower_self] at hk
        omega
      subst hk0
      show (if st = st then st :: tbF r m st st ((0 : Nat) : Int) else _) = _
      rw [if_pos rfl, tb_it r m hs hs (k := 0) (by rw [tower_self]; decide)]
      rfl
    · show (if st = g then _ else _) = _
      rw [if_neg e, List.replicate_succ]
      have hL : L r (st :: List.replicate m st) g = tower r (tw r (m + 1)) st g := by rw [← List.replicate_succ, L_rep r hs (m + 1) hg]
      exact (one_any r m (tb_it r m) hs hs hg e (by rw [hL]; exact hk)).symm
/-- the state behind so many moves, as it is reckoned (the greatest disc first) -/
def ledF (r : Rule) : List Int → Int → Int → List Int
  | [], _, _ => []
  | a :: s, g, n =>
    if a = g ∨ n ≤ L r s (gn r a g) then a :: ledF r s (gn r a g) n
    else if (steps r a g).length > 1 then
      (goneF r (tw r s.length) (steps r a g).tail (fst r a g) (gn r a g) (n - (L r s (gn r a g) + 1))).1 ::
        tbF r s.length (goneF r (tw r s.length) (steps r a g).tail (fst r a g) (gn r a g) (n - (L r s (gn r a g) + 1))).2.1
          (if 0 ≤ (goneF r (tw r s.length) (steps r a g).tail (fst r a g) (gn r a g) (n - (L r s (gn r a g) + 1))).2.2.2 then (goneF r (tw r s.length) (steps r a g).tail (fst r a g) (gn r a g) (n - (L r s (gn r a g) + 1))).2.2.2 else g)
          (goneF r (tw r s.length) (steps r a g).tail (fst r a g) (gn r a g) (n - (L r s (gn r a g) + 1))).2.2.1
    else fst r a g :: tbF r s.length (gn r a g) g (n - (L r s (gn r a g) + 1))
theorem led_it (r : Rule) : ∀ (l : List Int) {g : Int} {k : Nat}, AllP l → P3 g → (k : Int) ≤ L r l g → ledF r l g k = it r g k l
  | [], g, k, _, _, _ => by
    have : (it r g k []).length = 0 := it_len r g k []
    exact (List.length_eq_zero_iff.mp this).symm
  | a :: s, g, k, hl, hg, hk => by
    have ha : P3 a := hl a List.mem_cons_self
    have hs : AllP s := fun p hp => hl p (List.mem_cons_of_mem _ hp)
    have hLe : L r (a :: s) g = bf r a g (tw r s.length) + L r s (gn r a g) := rfl
    unfold ledF
    by_cases h : a = g ∨ (k : Int) ≤ L r s (gn r a g)
    · have hk' : (k : Int) ≤ L r s (gn r a g) := by
        rcases h with rfl | h
        · rw [bf_self] at hLe
          omega
        · exact h
      rw [if_pos h, led_it r s hs (gn_P3 ha hg) hk', it_cons r ha hg k hs hk']
    · rw [if_neg h]
      have ne : a ≠ g := fun q => h (.inl q)
      have hgt : L r s (gn r a g) < k := by
        have : ¬ (k : Int) ≤ L r s (gn r a g) := fun q => h (.inr q)
        omega
      have hnn := L_nn r s (gn r a g)
      obtain ⟨j, hj⟩ : ∃ j : Nat, (k : Int) - (L r s (gn r a g) + 1) = (j : Int) := ⟨((k : Int) - (L r s (gn r a g) + 1)).toNat, by omega⟩
      have ek : k = (L r s (gn r a g)).toNat + 1 + j := by omega
      rw [hj]
      have eover : it r g k (a :: s) = it r g j (fst r a g :: List.replicate s.length (gn r a g)) := by
        conv => lhs; rw [ek]
        exact it_over r ha hg ne hs j
      rw [eover]
      cases hn : isNear r a g with
      | true =>
        obtain ⟨e1, e2, e3⟩ := gn_near ne hn
        rw [e3, e1, e2, if_neg (by simp)]
        have hx : P3 (3 - a - g) := ha.third hg ne
        have hb : bf r a g (tw r s.length) = 1 + tower r (tw r s.length) (3 - a - g) g := by
          unfold bf
          rw [if_neg ne, if_pos hn]
        have hj' : (j : Int) ≤ tower r (tw r s.length) (3 - a - g) g := by omega
        rw [tb_it r s.length hx hg hj']
        have := it_cons r hg hg j (s := List.replicate s.length (3 - a - g)) (all_rep hx _) (by rw [gn_self, L_rep r hx _ hg]; exact hj')
        rw [this, gn_self]
      | false =>
        obtain ⟨e1, e2, e3⟩ := gn_far ne hn
        obtain ⟨f1, f2, f3⟩ := far_near ha hg ne hn
        rw [e3, e1, e2, if_pos (by simp)]
        have hb : bf r a g (tw r s.length) = 2 + tower r (tw r s.length) g a + tower r (tw r s.length) a g := by
          unfold bf
          rw [if_neg ne, if_neg (by rw [hn]; decide)]
        have hL2 : L r ((3 - a - g) :: List.replicate s.length g) g = 1 + tower r (tw r s.length) a g + tower r (tw r s.length) g a := by
          show bf r (3 - a - g) g (tw r (List.replicate s.length g).length) + L r (List.replicate s.length g) (gn r (3 - a - g) g) = _
          rw [List.length_replicate, (gn_near f2 f1).1, L_rep r hg _ (by rw [show 3 - (3 - a - g) - g = a by omega]; exact ha)]
          unfold bf
          rw [if_neg f2, if_pos f1, show 3 - (3 - a - g) - g = a by omega]
        have hj' : (j : Int) ≤ L r ((3 - a - g) :: List.replicate s.length g) g := by
          rw [hL2]
          omega
        exact (one_near r s.length (tb_it r s.length) f3 hg hg f2 f1 hj').symm
theorem steps_two {r : Rule} {a g : Int} (h : a ≠ g) : steps r a g = [(a, fst r a g)] ∨ steps r a g = [(a, fst r a g), (fst r a g, g)] := by
  cases hn : isNear r a g with
  | true =>
    obtain ⟨e1, e2, e3⟩ := gn_near h hn
    rw [e3, e2]
    exact .inl rfl
  | false =>
    obtain ⟨e1, e2, e3⟩ := gn_far h hn
    rw [e3, e2]
    exact .inr rfl
theorem tbF_len (r : Rule) : ∀ (m : Nat) (st g n : Int), (tbF r m st g n).length = m
  | 0, _, _, _ => rfl
  | m + 1, st, g, n => by
    unfold tbF
    split
    · exact congrArg (· + 1) (tbF_len r m _ _ _)
    · exact congrArg (· + 1) (tbF_len r m _ _ _)
theorem two_pow_pos : ∀ k : Nat, (1 : Int) ≤ 2 ^ k
  | 0 => by decide
  | k + 1 => by
    have := two_pow_pos k
    rw [Int.pow_succ]
    omega
end Peg

namespace Peg
/-! ### by free: how many moves are between two states (the greatest disc first) -/
def once (s t : List Int) (a b : Int) : Int := L .free s (3 - a - b) + 1 + L .free t (3 - a - b)
def twice (s t : List Int) (a b : Int) : Int := L .free s b + 2 + (tw .free s.length).1 + L .free t a
def dF : List Int → List Int → Int
  | a :: s, b :: t => if a = b then dF s t else if twice s t a b < once s t a b then twice s t a b else once s t a b
  | _, _ => 0
theorem tower_free {c : Int × Int} (h : TwOk .free c) (a b : Int) : tower .free c a b = if a = b then 0 else c.1 := rfl
theorem tower_free_le {c : Int × Int} (h : TwOk .free c) (a b : Int) : tower .free c a b ≤ c.1 := by
  have := h.nn
  unfold tower
  split
  · exact this
  · exact Int.le_refl _
theorem L_free_cons (a : Int) (s : List Int) (g : Int) : L .free (a :: s) g = if a = g then L .free s g else 1 + tower .free (tw .free s.length) (3 - a - g) g + L .free s (3 - a - g) := by
  show bf .free a g (tw .free s.length) + L .free s (gn .free a g) = _
  unfold bf gn
  split
  · omega
  · rw [if_pos (show isNear .free a g = true from rfl), if_pos (show isNear .free a g = true from rfl)]
theorem L_le : ∀ (s : List Int) (g : Int), L .free s g ≤ (tw .free s.length).1
  | [], _ => Int.le_refl _
  | a :: s, g => by
    rw [L_free_cons]
    have h1 := L_le s g
    have h2 := L_le s (3 - a - g)
    have h3 := tower_free_le (tw_ok .free s.length) (3 - a - g) g
    have h4 := (tw_ok .free s.length).nn
    show _ ≤ 2 * (tw .free s.length).1 + 1
    split <;> omega
theorem L_rep_free {c g : Int} (hc : P3 c) (hg : P3 g) (n : Nat) : L .free (List.replicate n c) g = if c = g then 0 else (tw .free n).1 := by
  rw [L_rep .free hc n hg]
  rfl
theorem dF_nn : ∀ (s t : List Int), 0 ≤ dF s t
  | a :: s, b :: t => by
    have h1 := L_nn .free s (3 - a - b)
    have h2 := L_nn .free t (3 - a - b)
    have h3 := L_nn .free s b
    have h4 := L_nn .free t a
    have h5 := (tw_ok .free s.length).nn
    have ih := dF_nn s t
    unfold dF once twice
    split
    · exact ih
    · split <;> omega
  | [], _ => Int.le_refl _
  | _ :: _, [] => Int.le_refl _
theorem dF_zero : ∀ {s t : List Int}, s.length = t.length → (dF s t = 0 ↔ s = t)
  | a :: s, b :: t, h => by
    have h1 := L_nn .free s (3 - a - b)
    have h2 := L_nn .free t (3 - a - b)
    have h3 := L_nn .free s b
    have h4 := L_nn .free t a
    have h5 := (tw_ok .free s.length).nn
    have ih := dF_zero (s := s) (t := t) (Nat.succ.inj h)
    unfold dF
    by_cases e : a = b
    · rw [if_pos e, ih]
      constructor
      · intro q
        rw [e, q]
      · intro q
        exact (List.cons.inj q).2
    · rw [if_neg e]
      constructor
      · intro q
        exfalso
        revert q
        unfold once twice
        split <;> omega
      · intro q
        exact absurd (List.cons.inj q).1 e
  | [], [], _ => ⟨fun _ => rfl, fun _ => rfl⟩
  | [], _ :: _, h => nomatch h
  | _ :: _, [], h => nomatch h
theorem dF_symm : ∀ {s t : List Int}, s.length = t.length → dF s t = dF t s
  | a :: s, b :: t, h => by
    have hl : s.length = t.length := Nat.succ.inj h
    have ih := dF_symm hl
    have u1 : dF (a :: s) (b :: t) = if a = b then dF s t else if twice s t a b < once s t a b then twice s t a b else once s t a b := rfl
    have u2 : dF (b :: t) (a :: s) = if b = a then dF t s else if twice t s b a < once t s b a then twice t s b a else once t s b a := rfl
    rw [u1, u2]
    by_cases e : a = b
    · rw [if_pos e, if_pos e.symm, ih]
    · have e' : ¬ b = a := fun q => e q.symm
      rw [if_neg e, if_neg e']
      have e1 : once s t a b = once t s b a := by
        unfold once
        rw [show 3 - b - a = 3 - a - b by omega]
        omega
      have e2 : twice s t a b = twice t s b a := by
        unfold twice
        rw [hl]
        omega
      rw [e1, e2]
  | [], [], _ => rfl
  | [], _ :: _, h => nomatch h
  | _ :: _, [], h => nomatch h
/-- to all discs on a peg as many as are left -/
theorem dF_rep {g : Int} (hg : P3 g) : ∀ {s : List Int}, AllP s → dF s (List.replicate s.length g) = L .free s g
  | [], _ => rfl
  | a :: s, hs => by
    have ha : P3 a := hs a List.mem_cons_self
    have ih := dF_rep hg (s := s) fun p hp => hs p (List.mem_cons_of_mem _ hp)
    rw [L_free_cons]
    show (if a = g then dF s (List.replicate s.length g) else if twice s (List.replicate s.length g) a g < once s (List.replicate s.length g) a g then twice s (List.replicate s.length g) a g else once s (List.replicate s.length g) a g) = _
    by_cases e : a = g
    · rw [if_pos e, if_pos e, ih]
    · rw [if_neg e, if_neg e]
      have hx := ha.third hg e
      have ne : 3 - a - g ≠ g := by
        unfold P3 at *
        omega
      have h1 : L .free (List.replicate s.length g) (3 - a - g) = (tw .free s.length).1 := by rw [L_rep_free hg hx, if_neg fun q => ne q.symm]
      have h2 : L .free (List.replicate s.length g) a = (tw .free s.length).1 := by rw [L_rep_free hg ha, if_neg fun q => e q.symm]
      have h3 : tower .free (tw .free s.length) (3 - a - g) g = (tw .free s.length).1 := by rw [tower_free (tw_ok .free _), if_neg ne]
      have h4 := L_le s (3 - a - g)
      have h5 := L_nn .free s g
      have h6 := (tw_ok .free s.length).nn
      unfold once twice
      rw [h1, h2, h3]
      split <;> omega
theorem dF_rep' {c : Int} (hc : P3 c) {t : List Int} (ht : AllP t) {n : Nat} (hn : n = t.length) : dF (List.replicate n c) t = L .free t c := by
  subst hn
  rw [dF_symm (List.length_replicate), dF_rep hc ht]
/-- behind a move no more than one fewer or more -/
theorem dF_step : ∀ {s : List Int} {d : Nat} {e : Int} {s' : List Int}, Mv .free s d e s' → ∀ {t : List Int}, AllP s → AllP t → s.length = t.length → -1 ≤ dF s' t - dF s t ∧ dF s' t - dF s t ≤ 1 := by
  intro s d e s' h
  induction h with
  | @there a e s s' d h ih =>
    intro t hs ht hl
    cases t with
    | nil => cases hl
    | cons b t =>
      have hs1 : AllP s := fun p hp => hs p (List.mem_cons_of_mem _ hp)
      have ht1 : AllP t := fun p hp => ht p (List.mem_cons_of_mem _ hp)
      have i := ih hs1 ht1 (Nat.succ.inj hl)
      have u : ∀ x, dF (a :: x) (b :: t) = if a = b then dF x t else if twice x t a b < once x t a b then twice x t a b else once x t a b := fun _ => rfl
      rw [u, u]
      by_cases q : a = b
      · simp only [if_pos q]
        exact i
      · have ha : P3 a := hs a List.mem_cons_self
        have hb : P3 b := ht b List.mem_cons_self
        have k1 := step_of .free h (g := 3 - a - b) hs1 (ha.third hb q)
        have k2 := step_of .free h (g := b) hs1 hb
        have k3 := k1.hi (by decide)
        have k4 := k2.hi (by decide)
        have k5 := k1.lo
        have k6 := k2.lo
        have k7 := h.len.1
        have e1 : once s' t a b - once s t a b = L .free s' (3 - a - b) - L .free s (3 - a - b) := by
          unfold once
          omega
        have e2 : twice s' t a b - twice s t a b = L .free s' b - L .free s b := by
          unfold twice
          rw [k7]
          omega
        simp only [if_neg q]
        constructor <;> (split <;> split <;> omega)
  | @here a e s h hc he =>
    intro t hs ht hl
    cases t with
    | nil => cases hl
    | cons b t =>
      have hs1 : AllP s := fun p hp => hs p (List.mem_cons_of_mem _ hp)
      have ht1 : AllP t := fun p hp => ht p (List.mem_cons_of_mem _ hp)
      have ha : P3 a := hs a List.mem_cons_self
      have hb : P3 b := ht b List.mem_cons_self
      have hne := allowed_ne ha h
      have hln : s.length = t.length := Nat.succ.inj hl
      have hcp := ha.third he hne
      have es := rep_of hc
      have hr := dF_rep' (c := 3 - a - e) hcp ht1 (n := s.length) hln
      rw [← es] at hr
      have lr : ∀ g, P3 g → L .free s g = if 3 - a - e = g then 0 else (tw .free s.length).1 := fun g hg => by
        rw [es, L_rep_free hcp hg, List.length_replicate]
      have le : ∀ g, L .free t g ≤ (tw .free s.length).1 := fun g => by
        rw [hln]
        exact L_le t g
      have nn : ∀ g, 0 ≤ L .free t g := L_nn .free t
      have tn := (tw_ok .free s.length).nn
      have u1 : dF (a :: s) (b :: t) = if a = b then dF s t else if twice s t a b < once s t a b then twice s t a b else once s t a b := rfl
      have u2 : dF (e :: s) (b :: t) = if e = b then dF s t else if twice s t e b < once s t e b then twice s t e b else once s t e b := rfl
      rw [u1, u2, hr]
      clear u1 u2 hr
      by_cases q1 : a = b
      · subst q1
        have hne' : ¬ e = a := fun q => hne q.symm
        rw [if_pos rfl, if_neg hne']
        have l1 : L .free s (3 - a - e) = 0 := by rw [lr _ hcp, if_pos rfl]
        have l2 : L .free s a = (tw .free s.length).1 := by rw [lr a ha, if_neg (show ¬ 3 - a - e = a by unfold P3 at *; omega)]
        have o : once s t e a = 1 + L .free t (3 - a - e) := by
          unfold once
          rw [show 3 - e - a = 3 - a - e by omega, l1]
          omega
        have w : twice s t e a = 2 * (tw .free s.length).1 + 2 + L .free t e := by
          unfold twice
          rw [l2]
          omega
        have a1 := le (3 - a - e)
        have a2 := nn e
        have a3 := nn (3 - a - e)
        rw [o, w]
        constructor <;> (split <;> omega)
      · by_cases q2 : e = b
        · subst q2
          rw [if_pos rfl, if_neg q1]
          have l1 : L .free s (3 - a - e) = 0 := by rw [lr _ hcp, if_pos rfl]
          have l2 : L .free s e = (tw .free s.length).1 := by rw [lr e he, if_neg (show ¬ 3 - a - e = e by unfold P3 at *; omega)]
          have o : once s t a e = 1 + L .free t (3 - a - e) := by
            unfold once
            rw [l1]
            omega
          have w : twice s t a e = 2 * (tw .free s.length).1 + 2 + L .free t a := by
            unfold twice
            rw [l2]
            omega
          have a1 := le (3 - a - e)
          have a2 := nn a
          have a3 := nn (3 - a - e)
          rw [o, w]
          constructor <;> (split <;> omega)
        · have hcb : 3 - a - e = b := by
            unfold P3 at *
            omega
          rw [if_neg q1, if_neg q2]
          have x1 : 3 - a - b = e := by omega
          have x2 : 3 - e - b = a := by omega
          have l1 : L .free s e = (tw .free s.length).1 := by rw [lr e he, if_neg (show ¬ 3 - a - e = e by omega)]
          have l2 : L .free s b = 0 := by rw [lr b hb, if_pos hcb]
          have l3 : L .free s a = (tw .free s.length).1 := by rw [lr a ha, if_neg (show ¬ 3 - a - e = a by omega)]
          have o1 : once s t a b = (tw .free s.length).1 + 1 + L .free t e := by
            unfold once
            rw [x1, l1]
          have w1 : twice s t a b = 2 + (tw .free s.length).1 + L .free t a := by
            unfold twice
            rw [l2]
            omega
          have o2 : once s t e b = (tw .free s.length).1 + 1 + L .free t a := by
            unfold once
            rw [x2, l3]
          have w2 : twice s t e b = 2 + (tw .free s.length).1 + L .free t e := by
            unfold twice
            rw [l2]
            omega
          have a1 := nn a
          have a2 := nn e
          rw [o1, o2, w1, w2]
          constructor <;> (split <;> split <;> omega)
/-- and where any are between, one fewer behind some move -/
theorem dF_less : ∀ {s t : List Int}, AllP s → AllP t → s.length = t.length → 0 < dF s t → ∃ d e s', Mv .free s d e s' ∧ dF s' t ≤ dF s t - 1
  | [], _, _, _, _, h => by
    exact absurd h (by unfold dF; decide)
  | _ :: _, [], _, _, h, _ => nomatch h
  | a :: s, b :: t, hs, ht, hl, h => by
    have hs1 : AllP s := fun p hp => hs p (List.mem_cons_of_mem _ hp)
    have ht1 : AllP t := fun p hp => ht p (List.mem_cons_of_mem _ hp)
    have ha : P3 a := hs a List.mem_cons_self
    have hb : P3 b := ht b List.mem_cons_self
    have hln : s.length = t.length := Nat.succ.inj hl
    have u : ∀ (y : Int) (x : List Int), dF (y :: x) (b :: t) = if y = b then dF x t else if twice x t y b < once x t y b then twice x t y b else once x t y b := fun _ _ => rfl
    by_cases q : a = b
    · have e1 : dF (a :: s) (b :: t) = dF s t := by rw [u, if_pos q]
      rw [e1] at h
      obtain ⟨d, e, s', hv, hd⟩ := dF_less hs1 ht1 hln h
      refine ⟨d, e, a :: s', .there hv, ?_⟩
      rw [e1, u, if_pos q]
      exact hd
    · have hx := ha.third hb q
      have e1 : dF (a :: s) (b :: t) = if twice s t a b < once s t a b then twice s t a b else once s t a b := by rw [u, if_neg q]
      -- a lesser disc moves on to the peg g
      have low : ∀ g, P3 g → 0 < L .free s g → ∃ d e s', Mv .free s d e s' ∧ L .free s' g = L .free s g - 1 := fun g hg hp => by
        cases hN : N .free s g with
        | none =>
          have := (N_L .free s g).mp hN
          omega
        | some m =>
          have hv := nxt_mv .free s g hs1 hg (d := m.1) (e := m.2) hN
          exact ⟨_, _, _, hv, nxt_L .free hs1 hg hp⟩
      by_cases c : twice s t a b < once s t a b
      · rw [if_pos c] at e1
        by_cases z : 0 < L .free s b
        · obtain ⟨d, e, s', hv, hd⟩ := low b hb z
          refine ⟨d, e, a :: s', .there hv, ?_⟩
          rw [e1, u, if_neg q]
          have k7 := hv.len.1
          have : twice s' t a b = twice s t a b - 1 := by
            unfold twice
            rw [k7]
            omega
          split <;> omega
        · have z0 : L .free s b = 0 := by
            have := L_nn .free s b
            omega
          have hall := (L_zero .free s b).mp z0
          have ne : a ≠ 3 - a - b := by
            unfold P3 at *
            omega
          have nb : 3 - a - b ≠ b := by
            unfold P3 at *
            omega
          refine ⟨s.length, 3 - a - b, (3 - a - b) :: s, .here (by show (!decide (a = 3 - a - b)) = true; rw [decide_eq_false ne]; rfl) (fun x hx => by rw [hall x hx]; omega) hx, ?_⟩
          rw [e1, u, if_neg nb]
          have k : once s t (3 - a - b) b ≤ twice s t a b - 1 := by
            unfold once twice
            rw [show 3 - (3 - a - b) - b = a by omega]
            have := L_le s a
            omega
          split <;> omega
      · rw [if_neg c] at e1
        by_cases z : 0 < L .free s (3 - a - b)
        · obtain ⟨d, e, s', hv, hd⟩ := low (3 - a - b) hx z
          refine ⟨d, e, a :: s', .there hv, ?_⟩
          rw [e1, u, if_neg q]
          have : once s' t a b = once s t a b - 1 := by
            unfold once
            omega
          split <;> omega
        · have z0 : L .free s (3 - a - b) = 0 := by
            have := L_nn .free s (3 - a - b)
            omega
          have hall := (L_zero .free s (3 - a - b)).mp z0
          refine ⟨s.length, b, b :: s, .here (by show (!decide (a = b)) = true; rw [decide_eq_false q]; rfl) hall hb, ?_⟩
          rw [e1, u, if_pos rfl]
          have er := rep_of hall
          have hr := dF_rep' (c := 3 - a - b) hx ht1 (n := s.length) hln
          rw [← er] at hr
          rw [hr]
          unfold once
          omega
/-! ### by line: the number on the long way -/
def dig (o : Bool) (p : Int) : Int := if o = true then 2 - p else p
def num : Bool → List Int → Int
  | _, [] => 0
  | o, p :: l => dig o p * 3 ^ l.length + num (o != decide (p = 1)) l
def tri (n : Nat) : Int := 3 ^ n
theorem tri_succ (n : Nat) : (3 : Int) ^ (n + 1) = 3 * 3 ^ n := by rw [Int.pow_succ, Int.mul_comm]
theorem tri_pos : ∀ n : Nat, (1 : Int) ≤ 3 ^ n
  | 0 => by decide
  | n + 1 => by
    have := tri_pos n
    rw [tri_succ]
    omega
theorem dig_P3 {p : Int} (hp : P3 p) (o : Bool) : 0 ≤ dig o p ∧ dig o p ≤ 2 := by
  unfold P3 at hp
  unfold dig
  split <;> omega
theorem num_bound : ∀ (o : Bool) {l : List Int}, AllP l → 0 ≤ num o l ∧ num o l < 3 ^ l.length
  | _, [], _ => by
    unfold num
    exact ⟨Int.le_refl _, by decide⟩
  | o, p :: l, h => by
    obtain ⟨i1, i2⟩ := num_bound (o != decide (p = 1)) (l := l) fun x hx => h x (List.mem_cons_of_mem _ hx)
    obtain ⟨d1, d2⟩ := dig_P3 (h p List.mem_cons_self) o
    have t := tri_pos l.length
    have h0 : 0 ≤ dig o p * 3 ^ l.length := Int.mul_nonneg d1 (by omega)
    have h2 : dig o p * 3 ^ l.length ≤ 2 * 3 ^ l.length := Int.mul_le_mul_of_nonneg_right d2 (by omega)
    show 0 ≤ dig o p * 3 ^ l.length + num _ l ∧ dig o p * 3 ^ l.length + num _ l < 3 ^ (l.length + 1)
    rw [tri_succ]
    omega
theorem num_flip : ∀ (o : Bool) (l : List Int), num o l + num (!o) l = 3 ^ l.length - 1
  | _, [] => by
    unfold num
    decide
  | o, p :: l => by
    have ih := num_flip (o != decide (p = 1)) l
    have e : ((!o) != decide (p = 1)) = !(o != decide (p = 1)) := by cases o <;> cases decide (p = 1) <;> rfl
    show dig o p * 3 ^ l.length + num (o != decide (p = 1)) l + (dig (!o) p * 3 ^ l.length + num ((!o) != decide (p = 1)) l) = 3 ^ (l.length + 1) - 1
    rw [e, tri_succ]
    have d : dig (!o) p = 2 - dig o p := by
      cases o
      · rfl
      · show p = 2 - (2 - p)
        omega
    rw [d, Int.sub_mul]
    omega
theorem num_inj : ∀ (o : Bool) {l l' : List Int}, AllP l → AllP l' → l.length = l'.length → num o l = num o l' → l = l'
  | _, [], [], _, _, _, _ => rfl
  | _, [], _ :: _, _, _, h, _ => nomatch h
  | _, _ :: _, [], _, _, h, _ => nomatch h
  | o, p :: l, p' :: l', h, h', hl, e => by
    have hl' : l.length = l'.length := Nat.succ.inj hl
    have a1 : AllP l := fun x hx => h x (List.mem_cons_of_mem _ hx)
    have a2 : AllP l' := fun x hx => h' x (List.mem_cons_of_mem _ hx)
    obtain ⟨i1, i2⟩ := num_bound (o != decide (p = 1)) a1
    obtain ⟨j1, j2⟩ := num_bound (o != decide (p' = 1)) a2
    have hp := h p List.mem_cons_self
    have hp' := h' p' List.mem_cons_self
    have e : dig o p * 3 ^ l.length + num (o != decide (p = 1)) l = dig o p' * 3 ^ l'.length + num (o != decide (p' = 1)) l' := e
    rw [← hl'] at e j2
    have t := tri_pos l.length
    have ep : p = p' := by
      generalize (3 : Int) ^ l.length = T at *
      generalize num (o != decide (p = 1)) l = u at *
      generalize num (o != decide (p' = 1)) l' = v at *
      cases o <;> rcases hp with rfl | rfl | rfl <;> rcases hp' with rfl | rfl | rfl <;> simp [dig] at e <;> omega
    subst ep
    have := num_inj (o != decide (p = 1)) a1 a2 hl' (by omega)
    rw [this]
/-- all on the first peg of the way, all on the last one -/
theorem num_rep : ∀ (n : Nat), num false (List.replicate n 0) = 0 ∧ num true (List.replicate n 2) = 0 ∧ num false (List.replicate n 2) = 3 ^ n - 1 ∧ num true (List.replicate n 0) = 3 ^ n - 1
  | 0 => by
    unfold num
    decide
  | n + 1 => by
    obtain ⟨i1, i2, i3, i4⟩ := num_rep n
    rw [List.replicate_succ, List.replicate_succ]
    have u : ∀ (o : Bool) (p : Int), num o (p :: List.replicate n p) = dig o p * 3 ^ n + num (o != decide (p = 1)) (List.replicate n p) := fun o p => by
      show dig o p * 3 ^ (List.replicate n p).length + _ = _
      rw [List.length_replicate]
    rw [u, u, u, u, tri_succ]
    show (0 : Int) * 3 ^ n + num false (List.replicate n 0) = 0 ∧ (2 - 2 : Int) * 3 ^ n + num true (List.replicate n 2) = 0 ∧ (2 : Int) * 3 ^ n + num false (List.replicate n 2) = 3 * 3 ^ n - 1 ∧ (2 - 0 : Int) * 3 ^ n + num true (List.replicate n 0) = 3 * 3 ^ n - 1
    rw [i1, i2, i3, i4]
    omega
theorem num_one : ∀ (n : Nat) (o : Bool), 2 * num o (List.replicate n 1) = 3 ^ n - 1
  | 0, o => by
    cases o <;> rfl
  | n + 1, o => by
    have ih := num_one n (!o)
    rw [List.replicate_succ]
    have u : num o (1 :: List.replicate n 1) = 3 ^ n + num (!o) (List.replicate n 1) := by
      show dig o 1 * 3 ^ (List.replicate n (1 : Int)).length + num (o != decide ((1 : Int) = 1)) (List.replicate n 1) = _
      rw [List.length_replicate, show dig o 1 = 1 by cases o <;> rfl, show (o != decide ((1 : Int) = 1)) = !o by cases o <;> rfl]
      omega
    rw [u, tri_succ]
    omega
theorem num_cons (o : Bool) (p : Int) (l : List Int) : num o (p :: l) = dig o p * 3 ^ l.length + num (o != decide (p = 1)) l := rfl
/-- behind each move by neighbouring pegs one more or one less -/
theorem num_step : ∀ {s : List Int} {d : Nat} {e : Int} {s' : List Int}, Mv .line s d e s' → AllP s → ∀ (o : Bool), num o s' = num o s + 1 ∨ num o s' = num o s - 1 := by
  intro s d e s' h
  induction h with
  | @there a e s s' d h ih =>
    intro hs o
    have i := ih (fun p hp => hs p (List.mem_cons_of_mem _ hp)) (o != decide (a = 1))
    rw [num_cons, num_cons, h.len.1]
    omega
  | @here a e s h hc he =>
    intro hs o
    have ha : P3 a := hs a List.mem_cons_self
    have es := rep_of hc
    have h : decide (iabs (a - e) = 1) = true := h
    obtain ⟨n1, n2, n3, n4⟩ := num_rep s.length
    rw [num_cons, num_cons]
    generalize hn : s.length = n at *
    rw [es]
    generalize (3 : Int) ^ n = T at *
    cases o <;> rcases ha with rfl | rfl | rfl <;> rcases he with rfl | rfl | rfl <;> first
      | (exfalso; revert h; decide)
      | skip
    all_goals simp (config := { decide := true }) [dig, n1, n2, n3, n4]
    all_goals omega
/-- one more is to be had where it is not the last, one less where it is not the first -/
theorem num_more : ∀ (o : Bool) {s : List Int}, AllP s → num o s < 3 ^ s.length - 1 → ∃ d e s', Mv .line s d e s' ∧ num o s' = num o s + 1
  | _, [], _, h => by
    exact absurd h (by unfold num; decide)
  | o, p :: l, hs, h => by
    have hs1 : AllP l := fun x hx => hs x (List.mem_cons_of_mem _ hx)
    have hp : P3 p := hs p List.mem_cons_self
    by_cases c : num (o != decide (p = 1)) l < 3 ^ l.length - 1
    · obtain ⟨d, e, s', hv, hn⟩ := num_more _ hs1 c
      refine ⟨d, e, p :: s', .there hv, ?_⟩
      rw [num_cons, num_cons, hv.len.1, hn]
      omega
    · have hb := num_bound (o != decide (p = 1)) hs1
      have hmax : num (o != decide (p = 1)) l = 3 ^ l.length - 1 := by omega
      obtain ⟨n1, n2, n3, n4⟩ := num_rep l.length
      have h' : dig o p * 3 ^ l.length + num (o != decide (p = 1)) l < 3 ^ (l.length + 1) - 1 := h
      rw [tri_succ, hmax] at h'
      have t := tri_pos l.length
      have fin : ∀ (e c : Int), P3 e → P3 c → c = 3 - p - e → decide (iabs (p - e) = 1) = true → num (o != decide (p = 1)) (List.replicate l.length c) = 3 ^ l.length - 1 → dig o e = dig o p + 1 → num (o != decide (e = 1)) (List.replicate l.length c) = 0 → ∃ d e s', Mv .line (p :: l) d e s' ∧ num o s' = num o (p :: l) + 1 := by
        intro e c he hc ec ha hm hd hz
        have el : l = List.replicate l.length c := num_inj (o != decide (p = 1)) hs1 (all_rep hc _) (by rw [List.length_replicate]) (by rw [hm, hmax])
        refine ⟨l.length, e, e :: l, .here ha (fun x hx => ?_) he, ?_⟩
        · rw [el] at hx
          rw [List.eq_of_mem_replicate hx, ec]
        · rw [num_cons, num_cons, hmax, hd]
          have : num (o != decide (e = 1)) l = 0 := by
            rw [el]
            exact hz
          rw [this, Int.add_mul]
          omega
      cases o
      · rcases hp with rfl | rfl | rfl
        · exact fin 1 2 (.inr (.inl rfl)) (.inr (.inr rfl)) (by decide) (by decide) n3 rfl n2
        · exact fin 2 0 (.inr (.inr rfl)) (.inl rfl) (by decide) (by decide) n4 rfl n1
        · exfalso
          have : dig false 2 = 2 := rfl
          rw [this] at h'
          omega
      · rcases hp with rfl | rfl | rfl
        · exfalso
          have : dig true 0 = 2 := rfl
          rw [this] at h'
          omega
        · exact fin 0 2 (.inl rfl) (.inr (.inr rfl)) (by decide) (by decide) n3 rfl n2
        · exact fin 1 0 (.inr (.inl rfl)) (.inl rfl) (by decide) (by decide) n4 rfl n1
theorem num_fewer (o : Bool) {s : List Int} (hs : AllP s) (h : 0 < num o s) : ∃ d e s', Mv .line s d e s' ∧ num o s' = num o s - 1 := by
  have f := num_flip o s
  have hb := num_bound o hs
  obtain ⟨d, e, s', hv, hn⟩ := num_more (!o) hs (by omega)
  refine ⟨d, e, s', hv, ?_⟩
  have f' := num_flip o s'
  rw [hv.len.1] at f'
  omega
/-- how many are left by line, as numbers -/
theorem tw_line : ∀ n : Nat, 2 * (tw .line n).1 = 3 ^ n - 1 ∧ (tw .line n).2 = 3 ^ n - 1
  | 0 => by decide
  | n + 1 => by
    obtain ⟨i1, i2⟩ := tw_line n
    show 2 * ((tw .line n).2 + 1 + (tw .line n).1) = 3 ^ (n + 1) - 1 ∧ 3 * (tw .line n).2 + 2 = 3 ^ (n + 1) - 1
    rw [tri_succ]
    omega
theorem L_line : ∀ {s : List Int}, AllP s → L .line s 0 = num false s ∧ L .line s 2 = 3 ^ s.length - 1 - num false s ∧ L .line s 1 = iabs (num false s - num false (List.replicate s.length 1))
  | [], _ => by
    unfold L num
    decide
  | a :: s, hs => by
    obtain ⟨i1, i2, i3⟩ := L_line (s := s) fun x hx => hs x (List.mem_cons_of_mem _ hx)
    obtain ⟨b1, b2⟩ := num_bound false (l := s) fun x hx => hs x (List.mem_cons_of_mem _ hx)
    have f := num_flip false s
    have f : num false s + num true s = 3 ^ s.length - 1 := f
    have o1 := num_one s.length false
    have o2 := num_one s.length true
    obtain ⟨w1, w2⟩ := tw_line s.length
    have u : ∀ g, L .line (a :: s) g = bf .line a g (tw .line s.length) + L .line s (gn .line a g) := fun g => rfl
    have v : num false (List.replicate (s.length + 1) 1) = 3 ^ s.length + num true (List.replicate s.length 1) := by
      rw [List.replicate_succ, num_cons, List.length_replicate]
      show (1 : Int) * 3 ^ s.length + num true (List.replicate s.length 1) = _
      omega
    rw [u, u, u, num_cons, show (a :: s).length = s.length + 1 from rfl, v, tri_succ]
    generalize hx : (tw .line s.length).1 = x at *
    generalize hy : (tw .line s.length).2 = y at *
    have hp : tw .line s.length = (x, y) := by rw [← hx, ← hy]
    clear hx hy v u
    rcases hs a List.mem_cons_self with rfl | rfl | rfl
    · rw [show (false != decide ((0 : Int) = 1)) = false from rfl]
      rw [hp]
      generalize (3 : Int) ^ s.length = T at *
      generalize num false s = A at *
      generalize num true s = B at *
      generalize num false (List.replicate s.length 1) = C at *
      generalize num true (List.replicate s.length 1) = D at *
      simp (config := { decide := true }) [bf, gn, tower, isNear, iabs, dig, i1, i2, i3]
      refine ⟨?_, ?_⟩
      · omega
      · split <;> omega
    · rw [show (false != decide ((1 : Int) = 1)) = true from rfl]
      rw [hp]
      generalize (3 : Int) ^ s.length = T at *
      generalize num false s = A at *
      generalize num true s = B at *
      generalize num false (List.replicate s.length 1) = C at *
      generalize num true (List.replicate s.length 1) = D at *
      simp (config := { decide := true }) [bf, gn, tower, isNear, iabs, dig, i1, i2, i3]
      refine ⟨?_, ?_, ?_⟩
      · omega
      · omega
      · split <;> split <;> omega
    · rw [show (false != decide ((2 : Int) = 1)) = false from rfl]
      rw [hp]
      generalize (3 : Int) ^ s.length = T at *
      generalize num false s = A at *
      generalize num true s = B at *
      generalize num false (List.replicate s.length 1) = C at *
      generalize num true (List.replicate s.length 1) = D at *
      simp (config := { decide := true }) [bf, gn, tower, isNear, iabs, dig, i1, i2, i3]
      refine ⟨?_, ?_⟩
      · omega
      · split <;> omega
/-- as many as the numbers of the two are apart -/
theorem L_num {s : List Int} (hs : AllP s) {g : Int} (hg : P3 g) : L .line s g = iabs (num false s - num false (List.replicate s.length g)) := by
  obtain ⟨i1, i2, i3⟩ := L_line hs
  obtain ⟨b1, b2⟩ := num_bound false hs
  obtain ⟨n1, n2, n3, n4⟩ := num_rep s.length
  rcases hg with rfl | rfl | rfl
  · rw [i1, n1]
    unfold iabs
    split <;> omega
  · exact i3
  · rw [i2, n3]
    unfold iabs
    split <;> omega
end Peg

namespace Peg
theorem par_snoc_aux (o : Bool) : ∀ (l : List Int) (p : Int), num o (l ++ [p]) = 3 * num o l + dig (l.foldl (fun o p => o != decide (p = 1)) o) p
  | [], p => by
    show dig o p * 3 ^ ([] : List Int).length + num _ [] = 3 * num o [] + dig o p
    unfold num
    simp
  | a :: l, p => by
    have ih := par_snoc_aux (o != decide (a = 1)) l p
    show dig o a * 3 ^ (l ++ [p]).length + num (o != decide (a = 1)) (l ++ [p]) = 3 * (dig o a * 3 ^ l.length + num (o != decide (a = 1)) l) + dig (l.foldl (fun o p => o != decide (p = 1)) (o != decide (a = 1))) p
    rw [ih, List.length_append]
    show dig o a * 3 ^ (l.length + 1) + _ = _
    rw [tri_succ, Int.mul_add, show dig o a * (3 * 3 ^ l.length) = 3 * (dig o a * 3 ^ l.length) by rw [← Int.mul_assoc, Int.mul_comm (dig o a) 3, Int.mul_assoc]]
    omega
def par (l : List Int) : Bool := l.foldl (fun o p => o != decide (p = 1)) false
theorem num_snoc (l : List Int) (p : Int) : num false (l ++ [p]) = 3 * num false l + dig (par l) p := par_snoc_aux false l p
theorem par_snoc (l : List Int) (p : Int) : par (l ++ [p]) = (par l != decide (p = 1)) := by
  unfold par
  rw [List.foldl_append]
  rfl
/-- how many moves are between two states (the least disc first) -/
def dA (r : Rule) (s t : List Int) : Int := match r with
  | .line => iabs (num false s.reverse - num false t.reverse)
  | _ => dF s.reverse t.reverse
theorem rev_all {s : List Int} (h : AllP s) : AllP s.reverse := fun p hp => h p (List.mem_reverse.mp hp)
theorem rev_len {s t : List Int} (h : s.length = t.length) : s.reverse.length = t.reverse.length := by rw [List.length_reverse, List.length_reverse, h]
theorem iabs_nn (x : Int) : 0 ≤ iabs x := by
  unfold iabs
  split <;> omega
theorem iabs_zero (x : Int) : iabs x = 0 ↔ x = 0 := by
  unfold iabs
  split <;> omega
theorem iabs_sub (x y : Int) : iabs (x - y) = iabs (y - x) := by
  unfold iabs
  split <;> split <;> omega
theorem dA_nn (r : Rule) (s t : List Int) : 0 ≤ dA r s t := by
  cases r
  · exact dF_nn _ _
  · exact iabs_nn _
  · exact dF_nn _ _
theorem dA_zero (r : Rule) {s t : List Int} (hs : AllP s) (ht : AllP t) (hl : s.length = t.length) : dA r s t = 0 ↔ s = t := by
  have f : dF s.reverse t.reverse = 0 ↔ s = t := by
    rw [dF_zero (rev_len hl)]
    exact List.reverse_inj
  cases r
  · exact f
  · show iabs _ = 0 ↔ _
    rw [iabs_zero]
    constructor
    · intro h
      have := num_inj false (rev_all hs) (rev_all ht) (rev_len hl) (by omega)
      exact List.reverse_inj.mp this
    · rintro rfl
      omega
  · exact f
theorem dA_symm (r : Rule) {s t : List Int} (hl : s.length = t.length) : dA r s t = dA r t s := by
  cases r
  · exact dF_symm (rev_len hl)
  · exact iabs_sub _ _
  · exact dF_symm (rev_len hl)
theorem dA_step {r : Rule} (hr : r ≠ .round) {s t : List Int} (hs : AllP s) (ht : AllP t) (hl : s.length = t.length) {x : (Nat × Int) × List Int} (hx : x ∈ behindL r s) : -1 ≤ dA r x.2 t - dA r s t ∧ dA r x.2 t - dA r s t ≤ 1 := by
  have hv := behind_mv hs (show ((x.1.1, x.1.2), x.2) ∈ behindL r s from hx)
  cases r
  · exact dF_step hv (rev_all hs) (rev_all ht) (rev_len hl)
  · have := num_step hv (rev_all hs) false
    show -1 ≤ iabs _ - iabs _ ∧ iabs _ - iabs _ ≤ 1
    unfold iabs
    constructor <;> (split <;> split <;> omega)
  · exact absurd rfl hr
theorem dA_less {r : Rule} (hr : r ≠ .round) {s t : List Int} (hs : AllP s) (ht : AllP t) (hl : s.length = t.length) (h : 0 < dA r s t) : ∃ x ∈ behindL r s, dA r x.2 t - dA r s t = -1 := by
  have fin : ∀ {d : Nat} {e : Int} {s' : List Int}, Mv r s.reverse d e s' → dA r s'.reverse t ≤ dA r s t - 1 → ∃ x ∈ behindL r s, dA r x.2 t - dA r s t = -1 := fun {d e s'} hv hd => by
    have hm := mv_behind hs hv
    have h1 : -1 ≤ dA r s'.reverse t - dA r s t := (dA_step hr hs ht hl hm).1
    exact ⟨_, hm, by show dA r s'.reverse t - dA r s t = -1; omega⟩
  cases r
  · obtain ⟨d, e, s', hv, hd⟩ := dF_less (rev_all hs) (rev_all ht) (rev_len hl) h
    refine fin hv ?_
    show dF s'.reverse.reverse t.reverse ≤ _
    rw [List.reverse_reverse]
    exact hd
  · have h : 0 < iabs (num false s.reverse - num false t.reverse) := h
    have bt := num_bound false (rev_all ht)
    have hl' := rev_len hl
    by_cases c : num false s.reverse < num false t.reverse
    · obtain ⟨d, e, s', hv, hn⟩ := num_more false (rev_all hs) (by rw [hl']; omega)
      refine fin hv ?_
      show iabs (num false s'.reverse.reverse - num false t.reverse) ≤ iabs (num false s.reverse - num false t.reverse) - 1
      rw [List.reverse_reverse, hn]
      unfold iabs
      split <;> split <;> omega
    · have c2 : num false t.reverse < num false s.reverse := by
        unfold iabs at h
        split at h <;> omega
      obtain ⟨d, e, s', hv, hn⟩ := num_fewer false (rev_all hs) (by omega)
      refine fin hv ?_
      show iabs (num false s'.reverse.reverse - num false t.reverse) ≤ iabs (num false s.reverse - num false t.reverse) - 1
      rw [List.reverse_reverse, hn]
      unfold iabs
      split <;> split <;> omega
  · exact absurd rfl hr
/-- to all discs on a peg as many as are left -/
theorem dA_left {r : Rule} (hr : r ≠ .round) {s : List Int} {g : Int} (hs : AllP s) (hg : P3 g) : dA r s (List.replicate s.length g) = L r s.reverse g := by
  cases r
  · show dF s.reverse (List.replicate s.length g).reverse = _
    rw [List.reverse_replicate]
    have := dF_rep hg (rev_all hs)
    rw [List.length_reverse] at this
    exact this
  · show iabs (num false s.reverse - num false (List.replicate s.length g).reverse) = _
    rw [List.reverse_replicate, L_num (rev_all hs) hg, List.length_reverse]
  · exact absurd rfl hr
/-! ### the greatest discs alike -/
theorem dF_same (u : List Int) (s t : List Int) : dF (u ++ s) (u ++ t) = dF s t := by
  induction u with
  | nil => rfl
  | cons a u ih =>
    show (if a = a then dF (u ++ s) (u ++ t) else _) = _
    rw [if_pos rfl, ih]
theorem dF_take {s t : List Int} {m : Nat} (h : s.drop m = t.drop m) : dF s.reverse t.reverse = dF (s.take m).reverse (t.take m).reverse := by
  have e1 : s.reverse = (s.drop m).reverse ++ (s.take m).reverse := by
    rw [← List.reverse_append, List.take_append_drop]
  have e2 : t.reverse = (t.drop m).reverse ++ (t.take m).reverse := by
    rw [← List.reverse_append, List.take_append_drop]
  rw [e1, e2, h, dF_same]
theorem take_rev {s : List Int} {m : Nat} {a : Int} (h : s[m]? = some a) : (s.take (m + 1)).reverse = a :: (s.take m).reverse := by
  rw [List.take_add_one, h]
  simp
theorem drop_eq {s t : List Int} {m : Nat} {a : Int} (h1 : s[m]? = some a) (h2 : t[m]? = some a) (h : s.drop (m + 1) = t.drop (m + 1)) : s.drop m = t.drop m := by
  obtain ⟨k1, e1⟩ := List.getElem?_eq_some_iff.mp h1
  obtain ⟨k2, e2⟩ := List.getElem?_eq_some_iff.mp h2
  rw [List.drop_eq_getElem_cons k1, List.drop_eq_getElem_cons k2, e1, e2, h]
/-! ### the law's own draws -/
def primes : List Int := [1000003, 1000033, 1000037, 1000039, 1000081, 1000099, 1000117, 1000121, 1000133, 1000151, 1000159, 1000171, 1000183, 1000187, 1000193, 1000199]
def drawF (c k m : Int) : Int := (c * 48271 + k * 69621) % primes.getD (k % 16).toNat 1 % m
def cellF (ns : List Int) (k : Nat) : Int := ns.getD k 0
/-- how many discs the k-th number brings -/
def cntF (ns : List Int) (k : Nat) : Nat := if drawF (cellF ns 0) 6 5 = 3 then (drawF (cellF ns k) ((k : Int) % 6 + 7) 3).toNat + 1 else 1
def lenF (ns : List Int) (n : Nat) : Nat := ((List.range n).map (cntF ns)).sum
theorem lenF_succ (ns : List Int) (n : Nat) : lenF ns (n + 1) = lenF ns n + cntF ns n := by
  unfold lenF
  rw [List.range_succ, List.map_append, List.sum_append]
  simp
theorem draw_bound (c k : Int) {m : Int} (hm : 0 < m) : 0 ≤ drawF c k m ∧ drawF c k m < m := ⟨Int.emod_nonneg _ (by omega), Int.emod_lt_of_pos _ hm⟩
end Peg

namespace Peg
open PySem PyProof.Rows L2
def sp_number_by_line (K : PySem.W.Frag) : Sp := fun vs H Q _ => ∃ (a : Addr) (s : List Int), vs = [.ref a] ∧ SqL K H a (s.map V.int) ∧ s.length ≤ 1000 ∧ Q (.int (num false s.reverse)) H
def sp_apart_free (K : PySem.W.Frag) : Sp := fun vs H Q _ => ∃ (a b : Addr) (s t : List Int), vs = [.ref a, .ref b] ∧ SqL K H a (s.map V.int) ∧ SqL K H b (t.map V.int) ∧ s.length = t.length ∧ s.length ≤ 999 ∧ ∀ H', Same H H' → Q (.int (dF s.reverse t.reverse)) H'
def sp_apart (K : PySem.W.Frag) : Sp := fun vs H Q _ => ∃ (r : Rule) (a b : Addr) (s t : List Int), vs = [.str r.s, .ref a, .ref b] ∧ r ≠ .round ∧ SqL K H a (s.map V.int) ∧ SqL K H b (t.map V.int) ∧ s.length = t.length ∧ s.length ≤ 999 ∧ AllP s ∧ AllP t ∧
  ∀ H', Same H H' → Q (.int (dA r s t)) H'
def sp_cellS (K : PySem.W.Frag) : Sp := fun vs H Q _ => ∃ (a : Addr) (ns : List Int) (k : Nat), vs = [.ref a, .int (k : Int)] ∧ SqL K H a (ns.map V.int) ∧ Q (.int (cellF ns k)) H
def sp_drawS : Sp := fun vs H Q _ => ∃ c k m : Int, vs = [.int c, .int k, .int m] ∧ 0 < m ∧ ∀ H', Same H H' → Q (.int (drawF c k m)) H'
def sp_stateS (K : PySem.W.Frag) : Sp := fun vs H Q _ => ∃ (a : Addr) (ns : List Int) (b : Int), vs = [.ref a, .int b] ∧ SqL K H a (ns.map V.int) ∧ ns.length ≤ 63 ∧
  ∀ (s : List Int) p H', AllP s → s.length ≤ 189 → s.length = lenF ns ns.length → H p = none → Same H H' → H' p = some (.lst (s.map V.int)) → Q (.ref p) H'
section
variable {H : Hp} {Q : VK}
theorem rd_cellS {K : PySem.W.Frag} {E : XK} {a : Addr} {ns : List Int} {k : Int} (hk : 0 ≤ k) (h : SqL K H a (ns.map V.int)) (q : Q (.int (cellF ns k.toNat)) H) : sp_cellS K ([.ref a, .int k] ++ []) H Q E :=
  ⟨a, ns, k.toNat, by rw [Int.toNat_of_nonneg hk] <;> rfl, h, q⟩
theorem rd_drawS {E : XK} {c k m : Int} (hm : 0 < m) (q : ∀ H', Same H H' → Q (.int (drawF c k m)) H') : sp_drawS ([.int c, .int k, .int m] ++ []) H Q E := ⟨c, k, m, rfl, hm, q⟩
end
section
variable {P : Program} {w : World} {K : PySem.W.Frag} {mg : Str → Option Value} {base : Heap} {CX : CXT} {k : Nat} {x : Str} {ps : List Str} {sp sp' : Sp}
theorem Has.imp (h : Has P w K mg base CX k x ps sp) (i : ∀ vs H Q E, sp' vs H Q E → sp vs H Q E) : Has P w K mg base CX k x ps sp' := by
  obtain ⟨f, fd, F, a, b, c⟩ := h
  exact ⟨f, fd, F.imp i, a, b, c⟩
theorem cell_weak (h : Has P w K mg base CX k x ps (sp_cellS K)) : Has P w K mg base CX k x ps (sp_cell K) := h.imp fun vs H Q E ⟨a, ns, k, e, h, q⟩ => ⟨a, ns, k, e, h, q _⟩
theorem draw_weak (h : Has P w K mg base CX k x ps sp_drawS) : Has P w K mg base CX k x ps sp_draw := h.imp fun vs H Q E ⟨c, k, m, e, hm, q⟩ => ⟨c, k, m, e, hm, fun H' s => q _ H' (draw_bound c k hm).1 (draw_bound c k hm).2 s⟩
theorem state_weak (h : Has P w K mg base CX k x ps (sp_stateS K)) : Has P w K mg base CX k x ps (sp_state K) := h.imp fun vs H Q E ⟨a, ns, b, e, h, hz, q⟩ => ⟨a, ns, b, e, h, hz, fun s p H' h1 h2 _ h3 h4 h5 => q s p H' h1 h2 h3 h4 h5⟩
end
/-- two lists of numbers -/
def dTwo (s t : List Int) : PyData := .list [dInts s, dInts t]
theorem good_two (n : Nat) (s t : List Int) : GoodN (n + 2) (dTwo s t) := .list fun d hd => by
  rcases List.mem_cons.mp hd with rfl | hd
  · exact good_ints n s
  · rcases List.mem_cons.mp hd with rfl | hd
    · exact good_ints n t
    · cases hd
def sp_rightA (K : PySem.W.Frag) : Sp := fun vs H Q _ => ∃ (r : Rule) (a b : Addr) (s t : List Int), vs = [.str r.s, .ref a, .ref b] ∧ r ≠ .round ∧ SqL K H a (s.map V.int) ∧ SqL K H b (t.map V.int) ∧ s.length = t.length ∧ s.length ≤ 500 ∧ AllP s ∧ AllP t ∧
  ∀ H', Same H H' → Q (.bl true) H'
def sp_gates (K : PySem.W.Frag) : Sp := fun vs H Q _ => ∃ (a b : Addr) (s t : List Int) (k : Nat), vs = [.ref a, .ref b, .int (k : Int)] ∧ SqL K H a (s.map V.int) ∧ SqL K H b (t.map V.int) ∧ s.length = t.length ∧ s.length ≤ 200 ∧ AllP s ∧ AllP t ∧ k ≤ s.length ∧
  ∀ H', Same H H' → Q (.bl true) H'
end Peg

namespace Peg
open PySem PySem.P PyProof.Rows
/-! ### reversed(text) -/
theorem rvs_init : Slot "reversed" "__init__" "object.__init__" :=
  .of (owner := "object") (n := "__init__") (by rw [typeLookup_type, builtinLookup_eq_fast]; kernel_rfl) (by decide +kernel) (by decide +kernel) (by decide +kernel)
    (by first | exact .inl (by decide +kernel) | exact .inr (by decide +kernel)) (by rw [isSubtype_type]; kernel_rfl)
theorem called_reversed : TypeCalled "reversed" "reversed.__new__" "object.__init__" :=
  ⟨by decide +kernel, by decide +kernel, ⟨_, _, F.mro_reversed⟩, F.made_reversed, by decide +kernel, F.sub_reversed_self, rvs_init⟩
theorem str_no_reversed : typeLookup (.type "str") "__reversed__" = pure none := by rw [typeLookup_type, builtinLookup_eq_fast]; kernel_rfl
def revS (x : Str) (t : Tok) (i : Int) : Obj := { cls := .type "reversed", data := .fields #[.str x t, rawInt i] }
theorem reversed_new_str (x : Str) (t : Tok) : Meets (Builtin.«reversed.__new__» ⟨[.type "reversed", .str x t], []⟩)
    (fun _ R s => x.length < 1000000 ∧ ∀ tk, R (.ok (.ret (.ref s.heap.objs.size))) { s with heap := s.heap.push (revS x t ((x.length : Int) - 1)), toks := tk }) := by
  intro prog w A R s hs
  obtain ⟨hx, hq⟩ := hs
  unfold Builtin.«reversed.__new__»
  refine wpAny_bind (wpAny_of_eq (newClass_reversed _) ?_)
  try dsimp only
  refine wpAny_bind (wpAny_of_eq (a := ()) (by first | rfl | kernel_rfl) ?_)
  refine wpAny_bind (wpAny_of_eq (a := ()) (by first | rfl | kernel_rfl) ?_)
  try dsimp only
  refine wpAny_bind (wpAny_specialOf (typeIs_str s x t) str_no_reversed ?_)
  try dsimp only
  refine wpAny_bind (wpAny_of_eq (a := true) (by first | rfl | kernel_rfl) ?_)
  rw [if_neg (show ¬ ((!true) = true) from Bool.false_ne_true)]
  refine wpAny_bind (P.len_str (by omega) ?_)
  refine wpAny_bind (wpAny_of_eq (a := some (x.length : Int)) (by first | rfl | kernel_rfl) ?_)
  try dsimp only
  unfold Builtin.SmallTypes.newRecord
  try dsimp only
  refine wpAny_bind (wpAny_newObj_type ?_)
  exact wpAny_pure (hq (s.toks + 1 + 1))
theorem rvs_next : Slot "reversed" "__next__" "reversed.__next__" :=
  .of (owner := "reversed") (n := "__next__") (by rw [typeLookup_type, builtinLookup_eq_fast]; kernel_rfl) (by decide +kernel) (by decide +kernel) (by decide +kernel)
    (by first | exact .inl (by decide +kernel) | exact .inr (by decide +kernel)) (by rw [isSubtype_type]; kernel_rfl)
theorem rvs_owner : Manifest.owners.lookup (String.ofList ['d', 'e', 's', 'r', 'e', 'v', 'e', 'r'].reverse) = some Manifest.sig_reversed := by kernel_rfl
theorem rvs_entry_next : entryFor table "reversed.__next__" = some Builtin.«reversed.__next__» := entryFor_of_tree (by kernel_rfl)
theorem rvs_args_next (a : Value) : argsOk "reversed.__next__" ⟨[a], []⟩ := by
  unfold argsOk; rw [signature?_of (id := "reversed.__next__") (n := ['_', '_', 't', 'x', 'e', 'n', '_', '_']) (o := ['d', 'e', 's', 'r', 'e', 'v', 'e', 'r']) (by kernel_rfl) rvs_owner]; kernel_rfl
theorem rvs_iter : Slot "reversed" "__iter__" "reversed.__iter__" :=
  .of (owner := "reversed") (n := "__iter__") (by rw [typeLookup_type, builtinLookup_eq_fast]; kernel_rfl) (by decide +kernel) (by decide +kernel) (by decide +kernel)
    (by first | exact .inl (by decide +kernel) | exact .inr (by decide +kernel)) (by rw [isSubtype_type]; kernel_rfl)
theorem rvs_args_iter (a : Value) : argsOk "reversed.__iter__" ⟨[a], []⟩ := by
  unfold argsOk; rw [signature?_of (id := "reversed.__iter__") (n := ['_', '_', 'r', 'e', 't', 'i', '_', '_']) (o := ['d', 'e', 's', 'r', 'e', 'v', 'e', 'r']) (by kernel_rfl) rvs_owner]; kernel_rfl
theorem rvs_entry_iter : entryFor table "reversed.__iter__" = some Builtin.«dict_keyiterator.__iter__» :=
  entryFor_alias (id' := "dict_keyiterator.__iter__") (by kernel_rfl) (by first | rfl | decide +kernel | (unfold String.splitOn; simp +decide [String.splitOnAux])) (by decide +kernel) (by kernel_rfl)
section
variable {prog : Program} {w : World} {A : Around} {E : Value → Shared → Prop} {s : Shared}
theorem call_reversed_str {x : Str} {t : Tok} {Q : Value → Shared → Prop} (hx : x.length < 1000000)
    (h : ∀ tk, Q (.ref s.heap.objs.size) { s with heap := s.heap.push (revS x t ((x.length : Int) - 1)), toks := tk }) : wpAny (model prog w) A (call (.type "reversed") [.str x t]) Q E s :=
  callType_new called_reversed (by decide +kernel) (F.typeCall_reversed_1 _) (F.newCall_reversed_1 _) (fun obj => F.args_object_init_2 obj _) F.entry_reversed_new (reversed_new_str x t)
    ⟨hx, fun tk => ⟨⟨_, Heap.get?_push_size _ rfl, rfl⟩, h tk⟩⟩
def IsRevS (h : Heap) (it : Addr) (x : Str) (t : Tok) (i : Int) : Prop := ∃ o, h.get? it = some o ∧ o.cls = .type "reversed" ∧ o.data = .fields #[.str x t, rawInt i]
theorem IsRevS.typeIs {it : Addr} {x : Str} {t : Tok} {i : Int} (h : IsRevS s.heap it x t i) : s.TypeIs (.ref it) "reversed" := let ⟨o, ho, hc, _⟩ := h; ⟨o, ho, hc⟩
theorem next_revS_item {it : Addr} {x : Str} {t : Tok} {i : Nat} {c : Nat} {Q : Option Value → Shared → Prop} (hit : IsRevS s.heap it x t (i : Int)) (hx : x.cps[i]? = some c) (hi : x.length < 1000000)
    (hQ : ∀ h' u tk, IsRevS h' it x t ((i : Int) - 1) → Heap.SameBut it s.heap h' → Q (some (.str ⟨#[c]⟩ u)) { s with heap := h', toks := tk }) : wpAny (model prog w) A (pyNext (.ref it)) Q E s := by
  obtain ⟨o, ho, hc, hd⟩ := id hit
  unfold pyNext
  refine wpAny_bind (wpAny_attempt (wpAny_callSpecial?_slot (name := Str.ofString "__next__") hit.typeIs rvs_next
    (wpAny_call_entry rvs_next hit.typeIs rvs_entry_next ?_ (rvs_args_next _))))
  unfold Builtin.«reversed.__next__»
  refine wpAny_bind (wpAny_of_eq (a := (Value.ref it, [])) rfl ?_)
  try dsimp only
  refine wpAny_bind (wpAny_field ho hd (x := .str x t) rfl ?_)
  refine wpAny_bind (wpAny_field ho hd (x := rawInt (i : Int)) rfl ?_)
  show wpAny _ _ (if (i : Int) < 0 then _ else _) _ _ s
  rw [if_neg (by omega)]
  refine wpAny_bind (wpAny_specialOf (typeIs_str s x t) F.slot_str_getitem.lookup ?_)
  rw [if_neg (show ¬ ((some (Value.builtin "str.__getitem__")).isNone = true) from Bool.false_ne_true)]
  refine wpAny_bind (wpAny_mkInt ?_)
  have hlt : i < x.length := (Array.getElem?_eq_some_iff.mp hx).1
  refine wpAny_bind (wpAny_attempt (P.getItem_str (c := c) ?_ ?_ ?_))
  · have h1 : ¬ (i : Int) < -(2 ^ 63) := by omega
    have h2 : ¬ (i : Int) ≥ 2 ^ 63 := by omega
    rw [decide_eq_false h1, decide_eq_false h2]
    rfl
  · have e : seqIndex? (i : Int) x.length = some i := by
      unfold seqIndex?
      simp
      omega
    rw [e]
    exact hx
  try dsimp only
  refine wpAny_bind (wpAny_field ho hd (x := rawInt (i : Int)) rfl ?_)
  refine wpAny_bind (wpAny_setField ho hd (by simp) ?_)
  refine wpAny_pure ⟨_, rfl, wpAny_pure (hQ _ _ _ ?_ (Heap.SameBut.update ..))⟩
  exact ⟨_, Heap.get?_update_self _ ho (Obj.isFreed_of_fields (Obj.data_mapFields hd _)), (Obj.cls_mapFields ..).trans hc, by
    rw [Obj.data_mapFields hd]; simp⟩
theorem next_revS_end {it : Addr} {x : Str} {t : Tok} {Q : Option Value → Shared → Prop} (hh : A.handled = none) (hit : IsRevS s.heap it x t (-1)) (hQ : ∀ h', Heap.ExtBut it s.heap h' → Q none { s with heap := h' }) :
    wpAny (model prog w) A (pyNext (.ref it)) Q E s := by
  obtain ⟨o, ho, hc, hd⟩ := id hit
  unfold pyNext
  refine wpAny_bind (wpAny_attempt (wpAny_callSpecial?_slot (name := Str.ofString "__next__") hit.typeIs rvs_next
    (wpAny_call_entry rvs_next hit.typeIs rvs_entry_next ?_ (rvs_args_next _))))
  unfold Builtin.«reversed.__next__»
  refine wpAny_bind (wpAny_of_eq (a := (Value.ref it, [])) rfl ?_)
  try dsimp only
  refine wpAny_bind (wpAny_field ho hd (x := .str x t) rfl ?_)
  refine wpAny_bind (wpAny_field ho hd (x := rawInt (-1)) rfl ?_)
  show wpAny _ _ (if (-1 : Int) < 0 then _ else _) _ _ s
  rw [if_pos (by decide)]
  refine wpAny_bind (wpAny_rule ?_)
  refine wpAny_bind ?_
  change wpAny _ _ (setField (.ref it) 1 (rawInt (-1)) >>= fun _ => setField (.ref it) 0 .none) _ _ _
  refine wpAny_bind (wpAny_setField ho hd (by simp) ?_)
  have ho2 := Heap.get?_update_self (Obj.mapFields (·.setIfInBounds 1 (rawInt (-1)))) ho (Obj.isFreed_of_fields (Obj.data_mapFields hd _))
  refine wpAny_setField ho2 (Obj.data_mapFields hd _) (by simp) ?_
  try dsimp only
  unfold Builtin.SmallTypes.stopIteration
  refine wpAny_bind ?_
  first
  | show wpAny _ _ (newExc (.type "StopIteration") [] >>= _) _ _ _
  | (refine wpAny_bind ?_; show wpAny _ _ (newExc (.type "StopIteration") [] >>= _) _ _ _)
  refine wpAny_bind ?_
  simp only [newExc, newTuple]
  refine wpAny_bind (wpAny_newObj_type ?_ (by size_fits))
  refine wpAny_bind (m := firstArgMember _ _) (wpAny_of_eq (a := Value.none) (by first | rfl | (simp only [firstArgMember]; rfl)) ?_)
  refine wpAny_newObj_type ?_ (by size_fits)
  simp only [raiseNew]
  refine wpAny_bind (wpAny_handled ?_)
  first | rw [show A.in1.handled = none from hh] | rw [hh]
  refine wpAny_bind (wpAny_pure (wpAny_throw ?_))
  refine wpAny_bind (wpAny_isInstance (T := "StopIteration") (b := true) ⟨_, Heap.get?_push_size _ rfl, rfl⟩ isSubtype_stop ?_)
  refine wpAny_pure (hQ _ fun b o hb e => ?_)
  refine Heap.get?_push_of_some _ (Heap.get?_push_of_some _ ?_)
  exact (Heap.SameBut.update _ it _).extBut b o hb ((Heap.SameBut.update _ it _).extBut b o hb e)
theorem iter_revS {it : Addr} {x : Str} {t : Tok} {i : Int} {Q : Value → Shared → Prop} (hit : IsRevS s.heap it x t i) (h : Q (.ref it) s) : wpAny (model prog w) A (pyIter (.ref it)) Q E s := by
  refine wpAny_pyIter_slot hit.typeIs rvs_iter (wpAny_call_entry rvs_iter hit.typeIs rvs_entry_iter ?_ (rvs_args_iter _))
  show wpAny _ _ (ret (.ref it)) _ _ s
  exact wpAny_pure ⟨_, rfl, "reversed", _, hit.typeIs, rvs_next.lookup, h⟩
end
open L2
def Itrs (x : Str) : It := ⟨fun i _ => i < x.cps.size, fun i H v H' => H' = H ∧ ∃ c, x.cps[x.cps.size - 1 - i]? = some c ∧ v = .str ⟨#[c]⟩, fun i _ => x.cps.size ≤ i⟩
theorem turn_revS {P : Program} {w : World} {K : PySem.W.Frag} {tg : Expr} (it : Addr) (x : Str) (t : Tok) (hx : x.length < 1000000) :
    Turn P w K tg (Itrs x) [it] it (fun i h => i ≤ x.cps.size ∧ IsRevS h it x t ((x.cps.size : Int) - 1 - (i : Nat))) where
  mem := by simp
  obj := fun i h st b hb => by
    have e : b = it := by simpa using hb
    subst e
    obtain ⟨_, o, e, c, d⟩ := st
    exact ⟨o, e, fun v z => by rw [d] at z; cases z⟩
  keep := fun i h h' st k => ⟨st.1, let ⟨o, ho, r⟩ := st.2; ⟨o, k it (by simp) o ho, r⟩⟩
  item := by
    intro X hP hw hK hc i pins s σ H E I hf st hg
    subst hP hw hK
    obtain ⟨f0, f1, f2, f3, f4, f5⟩ := hf it (by simp)
    obtain ⟨_, hit⟩ := st
    have hlt : i < x.cps.size := hg
    have e1 : (x.cps.size : Int) - 1 - ((i : Nat) : Int) = ((x.cps.size - 1 - i : Nat) : Int) := by omega
    rw [e1] at hit
    obtain ⟨c, hcx⟩ : ∃ c, x.cps[x.cps.size - 1 - i]? = some c := ⟨_, Array.getElem?_eq_getElem (by omega)⟩
    refine next_revS_item hit hcx hx fun h' u tk st' sb => ?_
    have e2 : ((x.cps.size - 1 - i : Nat) : Int) - 1 = (x.cps.size : Int) - 1 - ((i + 1 : Nat) : Int) := by omega
    rw [e2] at st'
    have I1 : Inv X pins σ H { s with heap := h', toks := tk } := I.turned (t' := tk) (fun b o hb e => (sb.2 b hb).trans e) f0 f1 f3 f4 f5
    obtain ⟨o, e, c', d⟩ := id st'
    exact ⟨_, rfl, go_of (s := { s with heap := h', toks := tk }) e c' d (by decide) ⟨.str ⟨#[c]⟩, H, I1, ⟨u, rfl⟩, ⟨rfl, c, hcx, rfl⟩, ⟨hlt, st'⟩, fun b hb => (hf b hb).1⟩⟩
  done := by
    intro X hP hw hK hc i pins s σ H E I hf st hg
    subst hP hw hK
    obtain ⟨f0, f1, f2, f3, f4, f5⟩ := hf it (by simp)
    obtain ⟨hin, hit⟩ := st
    have hge : x.cps.size ≤ i := hg
    have e1 : (x.cps.size : Int) - 1 - ((i : Nat) : Int) = -1 := by omega
    rw [e1] at hit
    exact next_revS_end (I.ok.hd hc) hit fun h' eb => ⟨rfl, I.turned (t' := s.toks) (fun b o hb e => eb b o hb e) f0 f1 f3 f4 f5⟩
  self := fun A i s Q E st h => iter_revS st.2 h
def iRevS (ta : TA) : TI := fun σ H R => ta σ H fun vs H1 => ∃ x : Str, vs = [.str x] ∧ x.length < 1000000 ∧ R (Itrs x) H1
theorem pi_revS {X : Cx} {tg e : Expr} {ta : TA} {p pos : Pos} (hg : Gl X "reversed") (hm : X.mg "reversed" = none) (ha : PA X [e] ta) (hs : starEach [e] X.env = [(false, eval e X.env)] := by rfl) : PI X tg (.Call (.Name "reversed" p) [e] [] pos) (iRevS ta) := by
  refine ⟨fun pins s σ H R I h => ?_⟩
  refine Call_ (ld_blt I hg hm PyProof.Rows.boot_reversed (PyProof.Rows.callWith_type1 (thn (ha.run pos pins s σ H _ I h) fun us s1 ⟨vs, H1, I1, r1, q1⟩ => ?_) hs rfl))
  obtain ⟨x, e, hx, q⟩ := q1
  subst e
  cases r1 with
  | cons r rr =>
    cases rr
    obtain ⟨t, rfl⟩ := r
    refine call_reversed_str hx fun tk => iter_revS (x := x) (t := t) (i := (x.length : Int) - 1) ⟨_, Heap.get?_push_size _ rfl, rfl, rfl⟩ ?_
    refine pi_one (tk := tk) I1 _ (turn_revS _ x t hx) ⟨Nat.zero_le _, ?_⟩ q
    refine ⟨_, Heap.get?_push_size _ rfl, rfl, ?_⟩
    show Data.fields #[.str x t, rawInt ((x.length : Int) - 1)] = Data.fields #[.str x t, rawInt ((x.cps.size : Int) - 1 - ((0 : Nat) : Int))]
    have : (x.cps.size : Int) - 1 - ((0 : Nat) : Int) = (x.length : Int) - 1 := by
      show (x.length : Int) - 1 - ((0 : Nat) : Int) = (x.length : Int) - 1
      omega
    rw [this]
end Peg

namespace Peg
open PySem PyProof.Rows L2
/-! ### texts of the three figures -/
def isD (c : Nat) : Bool := c == 48 || (c == 49 || c == 50)
def allD (x : Str) : Bool := x.cps.toList.all isD
def dgs (x : Str) : List Int := x.cps.toList.map fun c : Nat => (c : Int) - 48
def rdT (x : Str) : Option (List Int) := if x = Str.ofString "-" then some [] else if x ≠ Str.ofString "" ∧ allD x = true then some (dgs x).reverse else none
theorem s012 : (Str.ofString "012").cps = #[48, 49, 50] := by decide +kernel
theorem s0 : (Str.ofString "").cps = #[] := by decide +kernel
theorem goes_eq : (Str.ofString "012").cps.contains = isD := by
  funext c
  rw [s012]
  show (#[48, 49, 50] : Array Nat).contains c = isD c
  unfold isD
  rw [Array.contains_eq_any_beq]
  simp [Bool.or_assoc, BEq.comm]
theorem str_ext {x y : Str} (h : x.cps.toList = y.cps.toList) : x = y := by
  obtain ⟨x⟩ := x
  obtain ⟨y⟩ := y
  have : x = y := Array.toList_inj.mp h
  rw [this]
theorem eq_nil {x : Str} : x = Str.ofString "" ↔ x.cps.toList = [] := by
  constructor
  · rintro rfl
    rw [s0]
  · intro h
    exact str_ext (by rw [h, s0])
theorem tw_all {p : Nat → Bool} : ∀ l : List Nat, l.all p = true → l.takeWhile p = l
  | [], _ => rfl
  | c :: r, h => by
    rw [List.all_cons, Bool.and_eq_true] at h
    rw [List.takeWhile_cons, if_pos h.1, tw_all r h.2]
/-- a list not all of whose items are so: what stands ahead of the first that is not -/
theorem tw_split {p : Nat → Bool} : ∀ l : List Nat, l.all p = false → ∃ a c r, l = a ++ c :: r ∧ p c = false ∧ l.takeWhile p = a
  | [], h => by cases h
  | c :: r, h => by
    cases hc : p c with
    | false => exact ⟨[], c, r, rfl, hc, by rw [List.takeWhile_cons, if_neg (by rw [hc]; decide)]⟩
    | true =>
      rw [List.all_cons, hc, Bool.true_and] at h
      obtain ⟨a, d, r', e, hd, ht⟩ := tw_split r h
      exact ⟨c :: a, d, r', by rw [e] <;> rfl, hd, by rw [List.takeWhile_cons, if_pos hc, ht]⟩
theorem tw_lt {p : Nat → Bool} {c : Nat} (h : p c = false) : ∀ l : List Nat, ((l ++ [c]).takeWhile p).length ≤ l.length
  | [] => by
    rw [List.nil_append, List.takeWhile_cons, if_neg (by rw [h]; decide)]
    exact Nat.le_refl _
  | d :: l => by
    rw [List.cons_append, List.takeWhile_cons]
    split
    · exact Nat.succ_le_succ (tw_lt h l)
    · exact Nat.zero_le _
theorem strip_iff (x : Str) : Txt.stripChars x (Str.ofString "012") = Str.ofString "" ↔ allD x = true := by
  unfold Txt.stripChars Txt.stripBy stripSame stripped
  rw [goes_eq]
  have hn : x.length = x.cps.toList.length := by
    rw [Array.length_toList]
    rfl
  cases h : allD x with
  | true =>
    have h' : x.cps.toList.all isD = true := h
    have lo : stripLo isD true x = x.length := by
      unfold stripLo
      rw [if_pos rfl, tw_all _ h', hn]
    have hi : stripHi isD true x x.length = x.length := by
      unfold stripHi
      rw [if_pos rfl, hn, List.drop_length]
      rfl
    rw [lo, hi]
    simp only [iff_true]
    split
    · rename_i z
      simp only [beq_self_eq_true, Bool.and_true, beq_iff_eq] at z
      rw [eq_nil]
      exact List.length_eq_zero_iff.mp (hn ▸ z)
    · rw [eq_nil]
      show (Builtin.Str.strSub x x.length x.length).cps.toList = []
      unfold Builtin.Str.strSub
      simp
  | false =>
    have h' : x.cps.toList.all isD = false := h
    obtain ⟨a, c, r, e, hc, ht⟩ := tw_split _ h'
    have lo : stripLo isD true x = a.length := by
      unfold stripLo
      rw [if_pos rfl, ht]
    have hi : a.length < stripHi isD true x a.length := by
      unfold stripHi
      rw [if_pos rfl, hn, e, List.drop_left, List.reverse_cons]
      have := tw_lt hc r.reverse
      rw [List.length_reverse] at this
      rw [List.length_append, List.length_cons]
      omega
    have hi2 : stripHi isD true x a.length ≤ x.length := by
      unfold stripHi
      rw [if_pos rfl]
      omega
    rw [lo]
    constructor
    · intro q
      exfalso
      split at q
      · have q := eq_nil.mp q
        rw [q] at e
        cases a <;> cases e
      · have q := eq_nil.mp q
        have q := congrArg List.length q
        unfold Builtin.Str.strSub at q
        simp only [Array.length_toList, Array.size_extract, List.length_nil] at q
        have : x.length = x.cps.size := rfl
        omega
    · intro q
      cases q
end Peg

namespace Peg
open PySem PyProof.Rows L2
section
variable {H : Hp} {Q : VK} {x y : Str}
theorem rd_eqS (h : Q (.bl (decide (x = y))) H) : rEq (.str x) (.str y) H Q := ⟨rfl, by
  have e : decide (V.str x = V.str y) = decide (x = y) := decide_eq_decide.mpr ⟨V.str.inj, congrArg V.str⟩
  rw [e]
  exact h⟩
theorem rd_neS (h : Q (.bl (!decide (x = y))) H) : rNe (.str x) (.str y) H Q := ⟨rfl, by
  have e : decide (V.str x = V.str y) = decide (x = y) := decide_eq_decide.mpr ⟨V.str.inj, congrArg V.str⟩
  rw [e]
  exact h⟩
end
/-- the place of a text in a text, where it is found -/
theorem mt_indexF {X : Cx} (hc : X.calm = true) : MtR X "str.index" (fun x xs H Q => ∃ (a b : Str) (k : Nat), x = .str a ∧ xs = [.str b] ∧ Txt.index0 a b = some k ∧ Q (.int (k : Int)) H) :=
  fun pins s σ H x xs v us Q I rx rs ⟨a, b, k, h1, h2, hk, q⟩ => mt_indexX hc takes0 pins s σ H x xs v us Q I rx rs ⟨a, b, h1, h2, fun j e => by
    cases hk.symm.trans e
    exact q, fun e => by
    rw [hk] at e
    cases e⟩
/-- [e for x in a text], no test -/
theorem lc_s {σ : L2.St} {H : Hp} {Q : VK} {te : TE} {vs : List Nat} {x : Str} {D : Addr} {j : Nat} (Pv : Nat → Hp → Prop) (h0 : Pv 0 (upd H D (.lst [])))
    (hs : ∀ i c H, x.cps.toList[i]? = some c → Pv i H → wipe ((wipe σ vs).set j (some (.str ⟨#[c]⟩))) vs = wipe σ vs ∧ te ((wipe σ vs).set j (some (.str ⟨#[c]⟩))) H fun y H4 => ∃ acc, H4 D = some (.lst acc) ∧ acc.length < sizeLine ∧ Pv (i + 1) (upd H4 D (.lst (acc ++ [y]))))
    (hd : ∀ H, Pv x.cps.toList.length H → Q (.ref D) H) : LcW (Its x) D (gName j) tYes te vs σ Q H := by
  have hn : x.cps.toList.length = x.cps.size := Array.length_toList
  refine ⟨fun i m H => m = x.cps.size - i ∧ i ≤ x.cps.size ∧ Pv i H, ⟨x.cps.size, by simp, Nat.zero_le _, h0⟩, ?_⟩
  rintro i m H ⟨rfl, hi, p⟩
  by_cases hlt : i < x.cps.size
  · refine .inr ⟨hlt, Pv (i + 1), fun H' p' => ⟨x.cps.size - (i + 1), by omega, rfl, hlt, p'⟩, fun v H' y => ?_⟩
    obtain ⟨rfl, c, hc, rfl⟩ := y
    have hc' : x.cps.toList[i]? = some c := by rw [Array.getElem?_toList]; exact hc
    first
    | exact ⟨(hs i c _ hc' p).1, rd_ifT (B := Pv (i + 1) H) (c := true) rfl (hs i c _ hc' p).2⟩
    | exact ⟨(hs i c _ hc' p).1, rd_ifT (B := Pv (i + 1) H') (c := true) rfl (hs i c _ hc' p).2⟩
  · have e : i = x.cps.size := by omega
    subst e
    exact .inl ⟨Nat.le_refl _, hd H (hn ▸ p)⟩
/-- [e for x in reversed(a text)], no test -/
theorem lc_rs {σ : L2.St} {H : Hp} {Q : VK} {te : TE} {vs : List Nat} {x : Str} {D : Addr} {j : Nat} (Pv : Nat → Hp → Prop) (h0 : Pv 0 (upd H D (.lst [])))
    (hs : ∀ i c H, x.cps.toList.reverse[i]? = some c → Pv i H → wipe ((wipe σ vs).set j (some (.str ⟨#[c]⟩))) vs = wipe σ vs ∧ te ((wipe σ vs).set j (some (.str ⟨#[c]⟩))) H fun y H4 => ∃ acc, H4 D = some (.lst acc) ∧ acc.length < sizeLine ∧ Pv (i + 1) (upd H4 D (.lst (acc ++ [y]))))
    (hd : ∀ H, Pv x.cps.toList.length H → Q (.ref D) H) : LcW (Itrs x) D (gName j) tYes te vs σ Q H := by
  have hn : x.cps.toList.length = x.cps.size := Array.length_toList
  refine ⟨fun i m H => m = x.cps.size - i ∧ i ≤ x.cps.size ∧ Pv i H, ⟨x.cps.size, by simp, Nat.zero_le _, h0⟩, ?_⟩
  rintro i m H ⟨rfl, hi, p⟩
  by_cases hlt : i < x.cps.size
  · refine .inr ⟨hlt, Pv (i + 1), fun H' p' => ⟨x.cps.size - (i + 1), by omega, rfl, hlt, p'⟩, fun v H' y => ?_⟩
    obtain ⟨rfl, c, hc, rfl⟩ := y
    have hc' : x.cps.toList.reverse[i]? = some c := by
      rw [List.getElem?_reverse (by rw [hn]; exact hlt), hn, Array.getElem?_toList]
      exact hc
    first
    | exact ⟨(hs i c _ hc' p).1, rd_ifT (B := Pv (i + 1) H) (c := true) rfl (hs i c _ hc' p).2⟩
    | exact ⟨(hs i c _ hc' p).1, rd_ifT (B := Pv (i + 1) H') (c := true) rfl (hs i c _ hc' p).2⟩
  · have e : i = x.cps.size := by omega
    subst e
    exact .inl ⟨Nat.le_refl _, hd H (hn ▸ p)⟩
/-- [e for x in reversed(xs)], no test -/
theorem lc_v {σ : L2.St} {H : Hp} {Q : VK} {te : TE} {vs : List Nat} {K : PySem.W.Frag} {a D : Addr} {xs : List V} {j : Nat} (Pv : Nat → Hp → Prop) (h0 : Pv 0 (upd H D (.lst []))) (hl : ∀ i H, i ≤ xs.length → Pv i H → SqL K H a xs)
    (hs : ∀ i x H, xs.reverse[i]? = some x → Pv i H → wipe ((wipe σ vs).set j (some x)) vs = wipe σ vs ∧ te ((wipe σ vs).set j (some x)) H fun y H4 => ∃ acc, H4 D = some (.lst acc) ∧ acc.length < sizeLine ∧ Pv (i + 1) (upd H4 D (.lst (acc ++ [y]))))
    (hd : ∀ H, Pv xs.length H → Q (.ref D) H) : LcW (Itv K a xs.length) D (gName j) tYes te vs σ Q H := by
  refine ⟨fun i m H => m = xs.length - i ∧ i ≤ xs.length ∧ Pv i H, ⟨xs.length, by simp, Nat.zero_le _, h0⟩, ?_⟩
  rintro i m H ⟨rfl, hi, p⟩
  have q := hl i H hi p
  by_cases hlt : i < xs.length
  · have hlt2 : xs.length - 1 - i < xs.length := by omega
    refine .inr ⟨⟨hlt, xs, xs[xs.length - 1 - i], q, by simp [hlt2]⟩, Pv (i + 1), fun H' p' => ⟨xs.length - (i + 1), by omega, rfl, hlt, p'⟩, fun v H' y => ?_⟩
    obtain ⟨rfl, y⟩ := y
    have hc' : xs.reverse[i]? = some v := by
      rw [List.getElem?_reverse hlt]
      exact y xs q
    first
    | exact ⟨(hs i v _ hc' p).1, rd_ifT (B := Pv (i + 1) H) (c := true) rfl (hs i v _ hc' p).2⟩
    | exact ⟨(hs i v _ hc' p).1, rd_ifT (B := Pv (i + 1) H') (c := true) rfl (hs i v _ hc' p).2⟩
  · have e : i = xs.length := by omega
    subst e
    exact .inl ⟨Nat.le_refl _, hd H p⟩
/-! ### signs -/
def sg (i : Int) : Str := ⟨#[(i + 48).toNat]⟩
theorem isD_iff {c : Nat} : isD c = true ↔ c = 48 ∨ c = 49 ∨ c = 50 := by
  unfold isD
  simp
theorem in012 (c : Nat) : decide (c ∈ (Str.ofString "012").cps.toList) = isD c := by
  rw [s012]
  unfold isD
  simp [Bool.or_assoc]
  rfl
theorem int_sign {c : Nat} (h : isD c = true) : PySem.intText? ⟨#[c]⟩ = some ((c : Int) - 48) := by
  rcases isD_iff.mp h with rfl | rfl | rfl <;> decide +kernel
theorem index_sign {c : Nat} (h : isD c = true) : Txt.index0 (Str.ofString "012") ⟨#[c]⟩ = some (c - 48) := by
  rcases isD_iff.mp h with rfl | rfl | rfl <;> decide +kernel
theorem str_peg {i : Int} (h : P3 i) : Str.ofString (toString i) = sg i := by
  rcases h with rfl | rfl | rfl <;> decide +kernel
end Peg

namespace Peg
open PySem PyProof.Rows L2
/-! ### text * number -/
def rRepS : R2 := fun x y H Q => ∃ (z : Str) (k : Int), x = .str z ∧ y = .int k ∧ 1 < k ∧ k ≤ 1000 ∧ 1 ≤ z.length ∧ z.length ≤ 10 ∧ Q (.str ⟨(List.replicate k.toNat z.cps).foldl (· ++ ·) #[]⟩) H
theorem fold_size : ∀ (n : Nat) (z a : Array Nat), ((List.replicate n z).foldl (· ++ ·) a).size = a.size + n * z.size
  | 0, z, a => by simp
  | n + 1, z, a => by
    rw [List.replicate_succ, List.foldl_cons, fold_size n z (a ++ z), Array.size_append, Nat.succ_mul]
    omega
theorem op_repS {X : Cx} : OpR X (binaryOp .Mult) rRepS := by
  intro pins s σ H x y v u Q I rx ry h
  obtain ⟨z, k, rfl, rfl, k1, k2, z1, z2, q⟩ := h
  obtain ⟨t, rfl⟩ := rx
  obtain ⟨t', rfl⟩ := ry
  have hz : z.length * k.toNat ≤ 10000 := Nat.le_trans (Nat.mul_le_mul z2 (show k.toNat ≤ 1000 by omega)) (by decide)
  have nlt : ¬ k < 1 := by omega
  have ne1 : (k == 1 || z.length == 0) = false := by
    have h1 : (k == 1) = false := beq_eq_false_iff_ne.mpr (by omega)
    have h2 : (z.length == 0) = false := beq_eq_false_iff_ne.mpr (by omega)
    rw [h1, h2]
    rfl
  refine P.mul_str ?_ (fun _ _ => ?_) (fun _ _ => ?_) ?_
  · rw [decide_eq_false (by omega), decide_eq_false (by omega)]
    rfl
  · have : (10 : Int) ≤ (2 ^ 63 - 1) / k := Int.le_ediv_of_mul_le (by omega) (by omega)
    omega
  · show decide (z.length * k.toNat > 2 ^ 24) = false
    rw [decide_eq_false]
    omega
  · rw [if_neg nlt, ne1, if_neg Bool.false_ne_true]
    refine ⟨?_, .str _, H, I.tok _, ⟨_, rfl⟩, q⟩
    show ((List.replicate k.toNat z.cps).foldl (· ++ ·) #[]).size ≤ sizeLine
    rw [fold_size, sizeLine_eq]
    have : k.toNat * z.cps.size = z.length * k.toNat := Nat.mul_comm _ _
    rw [this]
    simp
    omega
/-! ### texts joined -/
theorem join_cons (x : Str) (ys : List Str) : (Str.join (Str.ofString "") (x :: ys)).cps.toList = x.cps.toList ++ (Str.join (Str.ofString "") ys).cps.toList := by
  cases ys with
  | nil =>
    show x.cps.toList = x.cps.toList ++ (Str.empty).cps.toList
    rw [show (Str.empty).cps.toList = [] from rfl, List.append_nil]
  | cons y r =>
    show (x ++ Str.ofString "" ++ Str.join (Str.ofString "") (y :: r)).cps.toList = _
    have e : (x ++ Str.ofString "" ++ Str.join (Str.ofString "") (y :: r)).cps = x.cps ++ (Str.ofString "").cps ++ (Str.join (Str.ofString "") (y :: r)).cps := rfl
    rw [e, s0]
    simp
theorem join_signs : ∀ cs : List Nat, Txt.join (Str.ofString "") (cs.map fun c => (⟨#[c]⟩ : Str)) = ⟨cs.toArray⟩ := by
  intro cs
  show Builtin.Str.glued _ _ = _
  rw [StrLaws.glued_eq_join]
  refine str_ext ?_
  induction cs with
  | nil => rfl
  | cons c r ih =>
    rw [List.map_cons, join_cons, ih]
    rfl
def wrT (s : List Int) : Str := if s = [] then Str.ofString "-" else ⟨(s.reverse.map fun i => (i + 48).toNat).toArray⟩
theorem AllP.rev {s : List Int} (h : AllP s) : AllP s.reverse := fun p hp => h p (List.mem_reverse.mp hp)
theorem dgs_all {x : Str} (h : allD x = true) : AllP (dgs x) := fun p hp => by
  obtain ⟨c, hc, rfl⟩ := List.mem_map.mp hp
  have := isD_iff.mp (List.all_eq_true.mp h c hc)
  unfold P3
  omega
/-- what is read is written so -/
theorem wr_rd {x : Str} {ds : List Int} (h : rdT x = some ds) : wrT ds = x ∧ AllP ds ∧ ds.length ≤ x.length := by
  unfold rdT at h
  by_cases h1 : x = Str.ofString "-"
  · rw [if_pos h1] at h
    cases h
    exact ⟨h1.symm, (fun p hp => nomatch hp), Nat.zero_le _⟩
  · rw [if_neg h1] at h
    by_cases h2 : x ≠ Str.ofString "" ∧ allD x = true
    · rw [if_pos h2] at h
      cases h
      have hn : x.cps.toList.length = x.length := Array.length_toList
      refine ⟨?_, (dgs_all h2.2).rev, by unfold dgs; rw [List.length_reverse, List.length_map, hn]; exact Nat.le_refl _⟩
      unfold wrT
      have ne : (dgs x).reverse ≠ [] := fun e => h2.1 (eq_nil.mpr (by
        have e := List.reverse_eq_nil_iff.mp e
        exact List.map_eq_nil_iff.mp e))
      rw [if_neg ne, List.reverse_reverse]
      refine str_ext ?_
      show (dgs x).map (fun i => (i + 48).toNat) = x.cps.toList
      unfold dgs
      rw [List.map_map]
      conv => rhs; rw [← List.map_id x.cps.toList]
      refine List.map_congr_left fun c _ => ?_
      show ((c : Int) - 48 + 48).toNat = c
      omega
    · rw [if_neg h2] at h
      cases h
/-- what is written is read so -/
theorem wr_len (s : List Int) : (wrT s).length ≤ s.length + 1 := by
  unfold wrT
  split
  · exact Nat.le_trans (by decide +kernel : (Str.ofString "-").length ≤ 1) (Nat.le_add_left _ _)
  · show ((s.reverse.map fun i => (i + 48).toNat).toArray).size ≤ _
    rw [List.size_toArray, List.length_map, List.length_reverse]
    exact Nat.le_succ _
/-! ### promises -/
def sp_written (K : PySem.W.Frag) : Sp := fun vs H Q _ => ∃ (a : Addr) (s : List Int), vs = [.ref a] ∧ SqL K H a (s.map V.int) ∧ s.length ≤ 1000 ∧ AllP s ∧ ∀ H', Same H H' → Q (.str (wrT s)) H'
def NoStr (K : PySem.W.Frag) (H : Hp) (v : V) : Prop := ∃ a, TyX K H v (.type a) ∧ kitB a "str" = some false
def sp_read (K : PySem.W.Frag) (C : Addr) : Sp := fun vs H Q E => ∃ v : V, vs = [v] ∧ ((∃ x : Str, v = .str x ∧ x.length ≤ 600 ∧ (∀ ds, rdT x = some ds → ∀ p H', H p = none → Same H H' → H' p = some (.lst (ds.map V.int)) → Q (.ref p) H') ∧ (rdT x = none → ∀ H', Same H H' → E (.ref C) none H')) ∨
  (NoStr K H v ∧ ∀ H', Same H H' → E (.ref C) none H'))
def sp_refused (K : PySem.W.Frag) : Sp := fun vs H Q _ => ∃ v : V, vs = [v] ∧ ((∃ x : Str, v = .str x ∧ x.length ≤ 600 ∧ rdT x = none) ∨ NoStr K H v) ∧ ∀ H', Same H H' → Q (.bl true) H'
def sp_rightT : Sp := fun vs H Q _ => ∃ x : Str, vs = [.str x] ∧ x.length ≤ 600 ∧ ∀ H', Same H H' → Q (.bl true) H'
theorem strD (x y : Str) : decide (V.str x = V.str y) = decide (x = y) := decide_eq_decide.mpr ⟨V.str.inj, congrArg V.str⟩
section
variable {σ : L2.St} {H : Hp} {te : TE} {tA : TA} {R : It → Hp → Prop}
theorem rd_iS (h : te σ H fun v H1 => ∃ x, v = .str x ∧ R (Its x) H1) : iStr te σ H R := h
theorem rd_iRS (h : tA σ H fun vs H1 => ∃ x : Str, vs = [.str x] ∧ x.length < 1000000 ∧ R (Itrs x) H1) : iRevS tA σ H R := h
end
theorem all_bl (bs : List Bool) : bs.all id = bs.all fun b => b := rfl
theorem pe_bmK {X : Cx} {K : PySem.W.Frag} {o e : Expr} {es : List Expr} {to : TE} {t : TA} {name : Str} {apos cpos : Pos} {T id : String} {r : V → List V → Hp → VK → Prop} (hK : X.K = K) (pa : PlainAttrs T) (slot : Slot T name id) (hty : typeOf (.builtin id) = pure (.type "method_descriptor")) (hm : MtR X id r) (ho : PE X o to) (ha : PA X (e :: es) t)
    (hbase : attributeBase o name X.env (eval o X.env) = eval o X.env := by rfl)
    (hfew : ((backTo cpos (starEach (e :: es) X.env)).all (fun x => !x.1) && (backToKw cpos (keywordEach [] X.env)).all (fun x => x.1.isSome)
      && decide ((e :: es).length + ([] : List Keyword).length + (if ([] : List Keyword).isEmpty then 0 else 1) < 30)) = true := by rfl)
    (hline : (apos.endLine == cpos.line) = true := by rfl) (hs : starEach (e :: es) X.env = (false, eval e X.env) :: starEach es X.env := by rfl) (hplain : (backTo cpos (starEach es X.env)).any (·.1) = false := by rfl) :
    PE X (.Call (.Attribute o name apos) (e :: es) [] cpos) (tBM K T r to t) := by
  subst hK
  exact pe_bm pa slot hty hm ho ha hbase hfew hline hs hplain
theorem read_bad {K : PySem.W.Frag} {C : Addr} {H : Hp} {Q : VK} {E : XK} {v : V} (h : (∃ x : Str, v = .str x ∧ x.length ≤ 600 ∧ rdT x = none) ∨ NoStr K H v) (e : ∀ H', Same H H' → E (.ref C) none H') : sp_read K C [v] H Q E := by
  refine ⟨v, rfl, ?_⟩
  rcases h with ⟨x, rfl, hz, hx⟩ | hv
  · refine .inl ⟨x, rfl, hz, fun ds e => ?_, fun _ => e⟩
    rw [hx] at e
    cases e
  · exact .inr ⟨hv, e⟩
end Peg

namespace Peg
open PySem PyProof.Rows L2
local macro_rules | `(tactic| walk_at "s") => `(tactic| with_reducible first
  | refine rd_seq ?_ | refine rd_asgN ?_ | refine rd_asgT ?_ | refine rd_ret ?_ | refine rd_drop ?_ | refine rd_ifs ?_ | refine rd_next ?_ | refine rd_par ?_ | refine rd_par2 ?_ | refine rd_par3 ?_ | refine rd_par33 ?_
  | refine rd_c ?_ | refine rd_op ?_ | refine rd_un ?_ | refine rd_rU ?_ | refine rd_rI0 ?_ | refine rd_test ?_ | refine rd_tB ?_ | refine rd_bl ?_ | refine rd_and ?_ | refine rd_or ?_ | refine rd_not ?_
  | refine rd_andV ?_ | refine rd_orV ?_ | refine rd_notV ?_ | refine rd_ife ?_ | refine rd_nil ?_ | refine rd_cons ?_ | refine rd_call ?_ | refine rd_cb ?_ | refine rd_bm ?_ | refine rd_bm0 ?_ | refine rd_gN ?_ | refine rd_tup ?_ | refine rd_lst ?_ | refine rd_ipI ?_
  | refine rd_rev ?_ | refine rd_sl ?_ | refine rd_noP ?_ | refine rd_part ?_ | refine rd_int1 ?_ | refine rd_chain ?_ | refine rd_isiI ?_ | refine rd_isiB ?_ | refine rd_isiS ?_ | refine rd_lc ?_ | refine rd_gC ?_ | refine rd_gNil ?_ | refine rd_for ?_ | refine rd_while ?_ | refine rd_iR1 ?_ | refine rd_iR2 ?_ | refine rd_iL ?_ | refine rd_iT ?_ | refine rd_iE ?_ | refine rd_iV ?_ | refine rd_iRR ?_ | refine rd_tRg1 ?_ | refine rd_eqF ?_ | refine rd_eqL ?_ | refine rd_eqR ?_ | refine rd_neRound ?_ | refine rd_whole ?_ | refine rd_eqI ?_ | refine rd_neI ?_ | refine rd_neB ?_ | refine rd_min ?_ | refine rd_max ?_
  | (refine rd_var (v := ?v) ?e ?_; case e => with_unfolding_all exact rfl)
  | (refine rd_aug (x := ?x) ?e ?_; case e => with_unfolding_all exact rfl)
  | (refine rd_rEq ?c ?_; case c => with_unfolding_all exact rfl)
  | (refine rd_rNe ?c ?_; case c => with_unfolding_all exact rfl)
  | (refine rd_mulL ?c ?_; case c => with_unfolding_all decide)
  | (refine rd_mulR ?c ?_; case c => with_unfolding_all decide)
  | (refine rd_modP ?c ?_; case c => with_unfolding_all decide)
  | (refine rd_divP ?c ?_; case c => with_unfolding_all decide)
  | (refine rd_ifT ?c ?_; case c => with_unfolding_all decide)
  | (refine rd_ifF ?c ?_; case c => with_unfolding_all decide)
  | (refine rd_sz ?c ?_; case c => with_unfolding_all exact rfl)
  | refine rd_abs ?_ | refine rd_is_near ?_)

def topS (i : Nat) : Stmt := PySem.Challenge.pw_pegtowers_k06_written.main.body.getD i (.Pass ⟨0, 0, 0, 0⟩)
section
variable {P : Program} {w : World} {K : PySem.W.Frag} {mg : Str → Option Value} {base : Heap}
abbrev s_is_whole : Stmt := topS 10
theorem sc_is_whole : FnScope ["thing"] ["thing"] (defScope s_is_whole) := ⟨rfl, rfl, rfl, by decide +kernel, rfl, by decide +kernel, by decide +kernel⟩

theorem ok_is_whole (D : Df K mg "is_whole" s_is_whole ["thing"]) (B : Blt mg) : Has P w K mg base CX0 1 "is_whole" ["thing"] sp_is_whole := by
  refine D.ok sc_is_whole (fun vs H Q E h => ?_) (fun f cdv A outer s H vs Q E hr h => ?_)
  · obtain ⟨i, rfl, _⟩ := h
    rfl
  · obtain ⟨i, rfl, q⟩ := h
    refine ⟨_, pss_one (ps_ret (pe_and (pe_callB call_isi (by rfl) B.isinstance (by decide +kernel) (pa_cons (pv 0) (pa_cons (pe_bltn (v := .ty "int") rfl B.int (by decide +kernel) rfl) pa_nil))) (pe_one (pe_not (pe_callB call_isi (by rfl) B.isinstance (by decide +kernel) (pa_cons (pv 0) (pa_cons (pe_bltn (v := .ty "bool") rfl B.bool (by decide +kernel) rfl) pa_nil))))))), ?_⟩
    try dsimp only [cxOf_K]
    repeat walk_at "s"
    exact q
abbrev s_is_peg : Stmt := topS 11
theorem sc_is_peg : FnScope ["thing"] ["thing"] (defScope s_is_peg) := ⟨rfl, rfl, rfl, by decide +kernel, rfl, by decide +kernel, by decide +kernel⟩

theorem ok_is_peg (D : Df K mg "is_peg" s_is_peg ["thing"]) (h_is_whole : Has P w K mg base CX0 1 "is_whole" ["thing"] sp_is_whole) : Has P w K mg base CX0 2 "is_peg" ["thing"] sp_is_peg := by
  refine D.ok sc_is_peg (fun vs H Q E h => ?_) (fun f cdv A outer s H vs Q E hr h => ?_)
  · obtain ⟨i, rfl, _⟩ := h
    rfl
  · obtain ⟨i, rfl, q⟩ := h
    refine ⟨_, pss_one (ps_ret (pe_and (pe_h h_is_whole (hr.mono (by decide)) pass0 (pa_cons (pv 0) pa_nil)) (pe_one (pe_chain op_le op_le pe_int (pv 0) pe_int)))), ?_⟩
    try dsimp only [cxOf_K]
    repeat walk_at "s"
    refine ⟨i, rfl, ?_⟩
    repeat walk_at "s"
    refine rd_if2 (fun e => ?_) (fun e => ?_)
    · repeat walk_at "s"
      rw [e] at q
      exact q
    · rw [e] at q
      exact q
abbrev s_check_state : Stmt := topS 12
theorem sc_check_state : FnScope ["state", "peg"] ["state"] (defScope s_check_state) := ⟨rfl, rfl, rfl, by decide +kernel, rfl, by decide +kernel, by decide +kernel⟩

theorem ok_check_state (D : Df K mg "check_state" s_check_state ["state"]) (B : Blt mg) (h_is_peg : Has P w K mg base CX0 2 "is_peg" ["thing"] sp_is_peg) : Has P w K mg base CX0 3 "check_state" ["state"] (sp_check_state K) := by
  refine D.ok sc_check_state (fun vs H Q E h => ?_) (fun f cdv A outer s0 H vs Q E hr h => ?_)
  · obtain ⟨a, s, rfl, _⟩ := h
    rfl
  · obtain ⟨a, s, rfl, hs, hz, hp, q⟩ := h
    refine ⟨_, pss_one (ps_if (PW.pt (pw_or (pt_not (pt_val (pe_callB call_isi (by rfl) B.isinstance (by decide +kernel) (pa_cons (pv 0) (pa_cons (pe_bltn (v := .ty "list") rfl B.list (by decide +kernel) rfl) pa_nil))))) (pw_or1 (pt_not (pt_val (pe_callB (cr_all rfl) (by rfl) B.all (by decide +kernel) (pa_cons (pe_lc (own := [("peg", 1)]) rfl sc_check_state.nd (pi_list (pv 0)) (blkOk_by (N := ["state", "peg"]) (sc := defScope s_check_state) (by decide +kernel)) (fun _ _ _ _ _ => (pg_name (i := 1) sc_check_state.nd rfl (by first | exact Or.inl rfl | exact Or.inr rfl))) (fun _ _ _ _ _ => pts_nil) (fun _ _ _ _ _ => (pe_h h_is_peg (hr.mono (by decide)) pass0 (pa_cons (pv 1) pa_nil)))) pa_nil))))))) (pss_one ps_never) pss_nil), ?_⟩
    try dsimp only [cxOf_K]
    repeat walk_at "s"
    refine rd_isiL hs ?_
    repeat walk_at "s"
    refine rd_l1 hs ?_
    intro l nl
    refine lc_l (xs := s.map V.int) (fun i H' => Same H H' ∧ H' l = some (.lst ((List.replicate i true).map V.bl))) ⟨same_new nl, upd_same⟩ (fun i H' _ h => h.1.seq hs) ?_ ?_
    · rintro i x H' hx ⟨sH, hl⟩
      obtain ⟨b, hb, rfl⟩ : ∃ b, b ∈ s ∧ V.int b = x := by
        have := List.mem_of_getElem? hx
        obtain ⟨b, h1, h2⟩ := List.mem_map.mp this
        exact ⟨b, h1, h2⟩
      refine ⟨rfl, ?_⟩
      repeat walk_at "s"
      refine ⟨b, rfl, ?_⟩
      rw [(hp b hb).test]
      have hi := (List.getElem?_eq_some_iff.mp hx).1
      rw [List.length_map] at hi
      refine ⟨_, hl, sz_lt ?_, same_mut sH nl, ?_⟩
      · rw [List.length_map, List.length_replicate]
        omega
      · rw [upd_same, List.replicate_succ', List.map_append]
        rfl
    · rintro H' ⟨sH, hl⟩
      repeat walk_at "s"
      refine rd_all (sqL_of hl) ?_
      have e : (List.replicate (s.map V.int).length true).all id = true := List.all_eq_true.mpr fun x hx => List.eq_of_mem_replicate hx
      rw [e]
      repeat walk_at "s"
      exact q _ sH
end
end Peg

namespace Peg
open PySem PyProof.Rows L2
local macro_rules | `(tactic| walk_at "s") => `(tactic| with_reducible first
  | refine rd_seq ?_ | refine rd_asgN ?_ | refine rd_asgT ?_ | refine rd_ret ?_ | refine rd_drop ?_ | refine rd_ifs ?_ | refine rd_next ?_ | refine rd_par ?_ | refine rd_par2 ?_ | refine rd_par3 ?_ | refine rd_par33 ?_
  | refine rd_c ?_ | refine rd_op ?_ | refine rd_un ?_ | refine rd_rU ?_ | refine rd_rI0 ?_ | refine rd_test ?_ | refine rd_tB ?_ | refine rd_bl ?_ | refine rd_and ?_ | refine rd_or ?_ | refine rd_not ?_
  | refine rd_andV ?_ | refine rd_orV ?_ | refine rd_notV ?_ | refine rd_ife ?_ | refine rd_nil ?_ | refine rd_cons ?_ | refine rd_call ?_ | refine rd_cb ?_ | refine rd_bm ?_ | refine rd_bm0 ?_ | refine rd_gN ?_ | refine rd_tup ?_ | refine rd_lst ?_ | refine rd_ipI ?_
  | refine rd_rev ?_ | refine rd_sl ?_ | refine rd_noP ?_ | refine rd_part ?_ | refine rd_int1 ?_ | refine rd_chain ?_ | refine rd_isiI ?_ | refine rd_isiB ?_ | refine rd_isiS ?_ | refine rd_lc ?_ | refine rd_gC ?_ | refine rd_gNil ?_ | refine rd_for ?_ | refine rd_while ?_ | refine rd_iR1 ?_ | refine rd_iR2 ?_ | refine rd_iL ?_ | refine rd_iT ?_ | refine rd_iE ?_ | refine rd_iV ?_ | refine rd_iRR ?_ | refine rd_tRg1 ?_ | refine rd_eqF ?_ | refine rd_eqL ?_ | refine rd_eqR ?_ | refine rd_neRound ?_ | refine rd_whole ?_ | refine rd_eqI ?_ | refine rd_neI ?_ | refine rd_neB ?_ | refine rd_min ?_ | refine rd_max ?_
  | (refine rd_var (v := ?v) ?e ?_; case e => with_unfolding_all exact rfl)
  | (refine rd_aug (x := ?x) ?e ?_; case e => with_unfolding_all exact rfl)
  | (refine rd_rEq ?c ?_; case c => with_unfolding_all exact rfl)
  | (refine rd_rNe ?c ?_; case c => with_unfolding_all exact rfl)
  | (refine rd_mulL ?c ?_; case c => with_unfolding_all decide)
  | (refine rd_mulR ?c ?_; case c => with_unfolding_all decide)
  | (refine rd_modP ?c ?_; case c => with_unfolding_all decide)
  | (refine rd_divP ?c ?_; case c => with_unfolding_all decide)
  | (refine rd_ifT ?c ?_; case c => with_unfolding_all decide)
  | (refine rd_ifF ?c ?_; case c => with_unfolding_all decide)
  | (refine rd_sz ?c ?_; case c => with_unfolding_all exact rfl)
  | refine rd_abs ?_ | refine rd_is_near ?_)

section
variable {P : Program} {w : World} {K : PySem.W.Frag} {mg : Str → Option Value} {base : Heap}
abbrev s_law_cell_at : Stmt := topS 17
theorem sc_law_cell_at : FnScope ["script", "k"] ["script", "k"] (defScope s_law_cell_at) := ⟨rfl, rfl, rfl, by decide +kernel, rfl, by decide +kernel, by decide +kernel⟩

theorem ok_cell (D : Df K mg "_law_cell_at" s_law_cell_at ["script", "k"]) (B : Blt mg) : Has P w K mg base CX0 1 "_law_cell_at" ["script", "k"] (sp_cell K) := by
  refine D.ok sc_law_cell_at (fun vs H Q E h => ?_) (fun f cdv A outer s0 H vs Q E hr h => ?_)
  · obtain ⟨a, ns, k, rfl, _⟩ := h
    rfl
  · obtain ⟨a, ns, k, rfl, hs, q⟩ := h
    refine ⟨_, pss_cons (ps_if (pt_cmpR op_lt (pv 1) (pe_callB ca_len (by rfl) B.len (by decide +kernel) (pa_cons (pv 0) pa_nil)) (nomark _)) (pss_one (ps_ret (pe_ix ix_list (pv 0) (pv 1) (fun _ _ => rfl)))) pss_nil)
      (pss_one (ps_ret pe_int)), ?_⟩
    try dsimp only [cxOf_K]
    repeat walk_at "s"
    refine rd_lenL hs ?_
    repeat walk_at "s"
    refine rd_ifP (fun e => ?_) (fun e => ?_)
    · rw [List.length_map] at e
      have hk : k < ns.length := by omega
      repeat walk_at "s"
      exact rd_ixL (v := .int ns[k]) hs (atI_nat (by rw [List.getElem?_map, List.getElem?_eq_getElem hk]; rfl)) (q _)
    · repeat walk_at "s"
      exact q 0
abbrev s_law_draw : Stmt := topS 18
theorem sc_law_draw : FnScope ["cell", "k", "many", "primes"] ["cell", "k", "many"] (defScope s_law_draw) := ⟨rfl, rfl, rfl, by decide +kernel, rfl, by decide +kernel, by decide +kernel⟩

theorem ok_draw (D : Df K mg "_law_draw" s_law_draw ["cell", "k", "many"]) : Has P w K mg base CX0 1 "_law_draw" ["cell", "k", "many"] sp_draw := by
  refine D.ok sc_law_draw (fun vs H Q E h => ?_) (fun f cdv A outer s0 H vs Q E hr h => ?_)
  · obtain ⟨c, k, m, rfl, _⟩ := h
    rfl
  · obtain ⟨c, k, m, rfl, hm, q⟩ := h
    refine ⟨_, pss_cons (ps_set (i := 3) sc_law_draw.nd rfl (by first | exact Or.inl rfl | exact Or.inr rfl) (pe_tup (pa_cons pe_int (pa_cons pe_int (pa_cons pe_int (pa_cons pe_int (pa_cons pe_int (pa_cons pe_int (pa_cons pe_int (pa_cons pe_int (pa_cons pe_int (pa_cons pe_int (pa_cons pe_int (pa_cons pe_int (pa_cons pe_int (pa_cons pe_int (pa_cons pe_int (pa_cons pe_int pa_nil))))))))))))))))))
      (pss_one (ps_ret (pe_op op_mod (pe_op op_mod (pe_op op_add (pe_op op_mul (pv 0) pe_int) (pe_op op_mul (pv 1) pe_int)) (pe_ix ix_tup (pv 3) (pe_op op_mod (pv 1) pe_int) (fun _ _ => rfl))) (pv 2)))), ?_⟩
    try dsimp only [cxOf_K]
    repeat walk_at "s"
    intro p np
    repeat walk_at "s"
    have h0 : 0 ≤ k % 16 := Int.emod_nonneg k (by decide)
    have h1 : k % 16 < 16 := Int.emod_lt_of_pos k (by decide)
    obtain ⟨j, hj⟩ : ∃ j : Nat, k % 16 = (j : Int) := ⟨(k % 16).toNat, by omega⟩
    have hp : ∀ j : Nat, j < 16 → ∃ z : Int, 0 < z ∧ ([1000003, 1000033, 1000037, 1000039, 1000081, 1000099, 1000117, 1000121, 1000133, 1000151, 1000159, 1000171, 1000183, 1000187, 1000193, 1000199] : List Int)[j]? = some z := by
      intro j hj
      refine ⟨([1000003, 1000033, 1000037, 1000039, 1000081, 1000099, 1000117, 1000121, 1000133, 1000151, 1000159, 1000171, 1000183, 1000187, 1000193, 1000199] : List Int)[j]'hj, ?_, List.getElem?_eq_getElem hj⟩
      exact (by decide : ∀ z ∈ ([1000003, 1000033, 1000037, 1000039, 1000081, 1000099, 1000117, 1000121, 1000133, 1000151, 1000159, 1000171, 1000183, 1000187, 1000193, 1000199] : List Int), 0 < z) _ (List.getElem_mem hj)
    obtain ⟨z, hz, ez⟩ := hp j (by omega)
    rw [hj]
    refine rd_ixT (v := .int z) (sqT_of upd_same) (atI_nat (j := j) ?_) ?_
    · show (([1000003, 1000033, 1000037, 1000039, 1000081, 1000099, 1000117, 1000121, 1000133, 1000151, 1000159, 1000171, 1000183, 1000187, 1000193, 1000199] : List Int).map V.int)[j]? = _
      rw [List.getElem?_map, ez]
      rfl
    refine rd_modP hz ?_
    repeat walk_at "s"
    refine rd_modP hm ?_
    exact q _ _ (Int.emod_nonneg _ (by omega)) (Int.emod_lt_of_pos _ hm) (same_new np)
abbrev s_law_whole : Stmt := topS 22
theorem sc_law_whole : FnScope ["number"] ["number"] (defScope s_law_whole) := ⟨rfl, rfl, rfl, by decide +kernel, rfl, by decide +kernel, by decide +kernel⟩

theorem ok_whole (D : Df K mg "_law_whole" s_law_whole ["number"]) (B : Blt mg) : Has P w K mg base CX0 1 "_law_whole" ["number"] sp_whole := by
  refine D.ok sc_law_whole (fun vs H Q E h => ?_) (fun f cdv A outer s H vs Q E hr h => ?_)
  · obtain ⟨i, rfl, _⟩ := h
    rfl
  · obtain ⟨i, rfl, q⟩ := h
    refine ⟨_, pss_one (ps_ret (pe_and (pe_callB call_isi (by rfl) B.isinstance (by decide +kernel) (pa_cons (pv 0) (pa_cons (pe_bltn (v := .ty "int") rfl B.int (by decide +kernel) rfl) pa_nil))) (pe_one (pe_not (pe_callB call_isi (by rfl) B.isinstance (by decide +kernel) (pa_cons (pv 0) (pa_cons (pe_bltn (v := .ty "bool") rfl B.bool (by decide +kernel) rfl) pa_nil))))))), ?_⟩
    dsimp only [cxOf_K]
    repeat walk_at "s"
    exact q
abbrev s_law_rule : Stmt := topS 20
theorem sc_law_rule : FnScope ["script", "k"] ["script", "k"] (defScope s_law_rule) := ⟨rfl, rfl, rfl, by decide +kernel, rfl, by decide +kernel, by decide +kernel⟩

theorem ok_rule (D : Df K mg "_law_rule" s_law_rule ["script", "k"]) (h_law_cell_at : Has P w K mg base CX0 1 "_law_cell_at" ["script", "k"] (sp_cell K)) (h_law_draw : Has P w K mg base CX0 1 "_law_draw" ["cell", "k", "many"] sp_draw) : Has P w K mg base CX0 2 "_law_rule" ["script", "k"] (sp_rule K) := by
  refine D.ok sc_law_rule (fun vs H Q E h => ?_) (fun f cdv A outer s H vs Q E hr h => ?_)
  · obtain ⟨a, ns, k, rfl, _⟩ := h
    rfl
  · obtain ⟨a, ns, k, rfl, hs, q⟩ := h
    refine ⟨_, pss_one (ps_ret (pe_ix ix_tup (pe_tup (pa_cons pe_str (pa_cons pe_str (pa_cons pe_str pa_nil)))) (pe_h h_law_draw (hr.mono (by decide)) pass0 (pa_cons (pe_h h_law_cell_at (hr.mono (by decide)) pass0 (pa_cons (pv 0) (pa_cons (pv 1) pa_nil))) (pa_cons (pe_op op_add (pv 1) pe_int) (pa_cons pe_int pa_nil)))) (fun _ _ => rfl))), ?_⟩
    dsimp only [cxOf_K]
    repeat walk_at "s"
    intro t nt
    repeat walk_at "s"
    refine rd_cell (by omega) ((same_new nt).seq hs) fun x => ?_
    repeat walk_at "s"
    refine rd_draw (by decide) fun d H1 d0 d3 s1 => ?_
    have s2 : Same H H1 := (same_new nt).trans s1
    have ht := s1 _ _ (upd_same (H := H) (a := t) (o := .tup [.str (Str.ofString "free"), .str (Str.ofString "line"), .str (Str.ofString "round")]))
    rcases P3.of d0 d3 with rfl | rfl | rfl
    · exact rd_ixT (sqT_of ht) rfl (q .free H1 s2)
    · exact rd_ixT (sqT_of ht) rfl (q .line H1 s2)
    · exact rd_ixT (sqT_of ht) rfl (q .round H1 s2)
abbrev s_law_state : Stmt := topS 19
theorem sc_law_state : FnScope ["script", "by", "kind", "found", "k", "peg"] ["script", "by"] (defScope s_law_state) := ⟨rfl, rfl, rfl, by decide +kernel, rfl, by decide +kernel, by decide +kernel⟩

theorem ok_state (D : Df K mg "_law_state" s_law_state ["script", "by"]) (B : Blt mg) (h_law_cell_at : Has P w K mg base CX0 1 "_law_cell_at" ["script", "k"] (sp_cell K)) (h_law_draw : Has P w K mg base CX0 1 "_law_draw" ["cell", "k", "many"] sp_draw) : Has P w K mg base CX0 2 "_law_state" ["script", "by"] (sp_state K) := by
  refine D.ok sc_law_state (fun vs H Q E h => ?_) (fun f cdv A outer s0 H vs Q E hr h => ?_)
  · obtain ⟨a, ns, b, rfl, _⟩ := h
    rfl
  · obtain ⟨a, ns, b, rfl, hs, hz, q⟩ := h
    refine ⟨_, pss_cons (ps_set (i := 2) sc_law_state.nd rfl (by first | exact Or.inl rfl | exact Or.inr rfl) (pe_h h_law_draw (hr.mono (by decide)) pass0 (pa_cons (pe_h h_law_cell_at (hr.mono (by decide)) pass0 (pa_cons (pv 0) (pa_cons pe_int pa_nil))) (pa_cons pe_int (pa_cons pe_int pa_nil)))))
      (pss_cons (ps_set (i := 3) sc_law_state.nd rfl (by first | exact Or.inl rfl | exact Or.inr rfl) (pe_lst pa_nil))
      (pss_cons (ps_for PassesOwn.never rfl (pi_range1 (by rfl) B.range (pa_cons (pe_callB ca_len (by rfl) B.len (by decide +kernel) (pa_cons (pv 0) pa_nil)) pa_nil)) (pg_name (i := 4) sc_law_state.nd rfl (by first | exact Or.inl rfl | exact Or.inr rfl))
        (pss_cons (ps_set (i := 5) sc_law_state.nd rfl (by first | exact Or.inl rfl | exact Or.inr rfl) (pe_h h_law_draw (hr.mono (by decide)) pass0 (pa_cons (pe_ix ix_list (pv 0) (pv 4) (fun _ _ => rfl)) (pa_cons (pe_op op_add (pe_op op_mod (pv 4) pe_int) (pv 1)) (pa_cons pe_int pa_nil)))))
        (Evl.pss_cut (ps_if (PW.pt (pw_and (pt_cmpR op_eq (pv 2) pe_int (nomark _)) (pw_and1 (pt_cmpR op_gt (pe_h h_law_draw (hr.mono (by decide)) pass0 (pa_cons (pe_ix ix_list (pv 0) (pv 4) (fun _ _ => rfl)) (pa_cons (pe_op op_add (pe_op op_mod (pv 4) pe_int) (pv 1)) (pa_cons pe_int pa_nil)))) pe_int (nomark _))))) (pss_one (ps_set (i := 5) sc_law_state.nd rfl (by first | exact Or.inl rfl | exact Or.inr rfl) pe_int)) pss_nil)
        (Evl.pss_cut (ps_if (PW.pt (pw_and (pt_cmpR op_eq (pv 2) pe_int (nomark _)) (pw_and1 (pt_cmpR op_gt (pv 4) (pe_op op_fdiv (pe_callB ca_len (by rfl) B.len (by decide +kernel) (pa_cons (pv 0) pa_nil)) pe_int) (nomark _))))) (pss_one (ps_set (i := 5) sc_law_state.nd rfl (by first | exact Or.inl rfl | exact Or.inr rfl) pe_int)) pss_nil)
        (Evl.pss_cut (ps_if (pt_cmpR op_eq (pv 2) pe_int (nomark _)) (pss_one (ps_set (i := 3) sc_law_state.nd rfl (by first | exact Or.inl rfl | exact Or.inr rfl) (pe_op op_cat (pv 3) (pe_op op_rep (pe_lst (pa_cons (pv 5) pa_nil)) (pe_h h_law_draw (hr.mono (by decide)) pass0 (pa_cons (pe_ix ix_list (pv 0) (pv 4) (fun _ _ => rfl)) (pa_cons (pe_op op_add (pe_op op_mod (pv 4) pe_int) pe_int) (pa_cons pe_int pa_nil)))))))) pss_nil)
        (pss_one (ps_expr (pe_bm PySem.F.plainAttrs_list PySem.F.slot_list_append PySem.F.type_list_append mt_append (pv 3) (pa_cons (pv 5) pa_nil)))))))))
      (pss_one (ps_ret (pv 3))))), ?_⟩
    dsimp only [cxOf_K]
    repeat walk_at "s"
    refine rd_cell (by decide) hs fun x => ?_
    repeat walk_at "s"
    refine rd_draw (by decide) fun kind H1 _ _ s1 => ?_
    repeat walk_at "s"
    intro l nl
    repeat walk_at "s"
    have s2 := s1.trans (same_new nl (o := .lst []))
    have hlen : (ns.map V.int).length = ns.length := List.length_map _
    refine rd_lenL (s2.seq hs) ?_
    rw [hlen]
    repeat walk_at "s"
    refine rd_r1 (n := ns.length) (by omega) ?_
    refine for_r (fun i σ H' => ∃ (x y : Option V) (l : Addr) (s : List Int), σ = [some (.ref a), some (.int b), some (.int kind), some (.ref l), x, y] ∧ Same H H' ∧ H l = none ∧ H' l = some (.lst (s.map V.int)) ∧ AllP s ∧ s.length ≤ 3 * i)
      ⟨none, none, l, [], rfl, s2, s1.free nl, upd_same, (fun p hp => nomatch hp), Nat.zero_le _⟩ ?_ ?_
    · rintro i σ H' hi ⟨_, _, l, s, rfl, sH, nl, hl, hp, hsz⟩
      have hx : ∀ H'', Same H H'' → SqL K H'' a (ns.map V.int) := fun H'' e => e.seq hs
      have hat : atI (ns.map V.int) (i : Int) = some (.int ns[i]) := atI_nat (by rw [List.getElem?_map, List.getElem?_eq_getElem hi]; rfl)
      repeat walk_at "s"
      refine rd_ixL (hx _ sH) hat ?_
      repeat walk_at "s"
      refine rd_draw (by decide) fun pg H2 p0 p3 e2 => ?_
      repeat walk_at "s"
      have e2' := sH.trans e2
      refine rd_cut (fun σ H3 => ∃ pg : Int, P3 pg ∧ σ = [some (.ref a), some (.int b), some (.int kind), some (.ref l), some (.int i), some (.int pg)] ∧ Same H H3 ∧ H3 l = some (.lst (s.map V.int))) ?_ ?_
      · repeat walk_at "s"
        refine rd_ifP (fun _ => ?_) (fun _ => ?_)
        · repeat walk_at "s"
          refine rd_ixL (hx _ e2') hat ?_
          repeat walk_at "s"
          refine rd_draw (by decide) fun d H3 _ _ e3 => ?_
          repeat walk_at "s"
          refine rd_ifP (fun _ => ?_) (fun _ => ?_)
          · repeat walk_at "s"
            exact ⟨1, .inr (.inl rfl), rfl, e2'.trans e3, e3 _ _ (e2 _ _ hl)⟩
          · repeat walk_at "s"
            exact ⟨pg, P3.of p0 p3, rfl, e2'.trans e3, e3 _ _ (e2 _ _ hl)⟩
        · repeat walk_at "s"
          exact ⟨pg, P3.of p0 p3, rfl, e2', e2 _ _ hl⟩
      · rintro σ3 H3 ⟨pg, hpg, rfl, e3, hl3⟩
        refine rd_cut (fun σ H4 => ∃ pg : Int, P3 pg ∧ σ = [some (.ref a), some (.int b), some (.int kind), some (.ref l), some (.int i), some (.int pg)] ∧ Same H H4 ∧ H4 l = some (.lst (s.map V.int))) ?_ ?_
        · repeat walk_at "s"
          refine rd_ifP (fun _ => ?_) (fun _ => ?_)
          · repeat walk_at "s"
            refine rd_lenL (hx _ e3) ?_
            repeat walk_at "s"
            refine rd_ifP (fun _ => ?_) (fun _ => ?_)
            · repeat walk_at "s"
              exact ⟨2, .inr (.inr rfl), rfl, e3, hl3⟩
            · repeat walk_at "s"
              exact ⟨pg, hpg, rfl, e3, hl3⟩
          · repeat walk_at "s"
            exact ⟨pg, hpg, rfl, e3, hl3⟩
        · rintro σ4 H4 ⟨pg, hpg, rfl, e4, hl4⟩
          refine rd_cut (fun σ H5 => ∃ (l : Addr) (s : List Int), σ = [some (.ref a), some (.int b), some (.int kind), some (.ref l), some (.int i), some (.int pg)] ∧ Same H H5 ∧ H l = none ∧ H5 l = some (.lst (s.map V.int)) ∧ AllP s ∧ s.length ≤ 3 * i + 2) ?_ ?_
          · repeat walk_at "s"
            refine rd_ifP (fun _ => ?_) (fun _ => ?_)
            · repeat walk_at "s"
              intro u nu
              repeat walk_at "s"
              have e5 := e4.trans (same_new nu (o := .lst [.int pg]))
              refine rd_ixL (hx _ e5) hat ?_
              repeat walk_at "s"
              refine rd_draw (by decide) fun d H6 d0 d3 e6 => ?_
              obtain ⟨dn, rfl⟩ : ∃ n : Nat, d = (n : Int) := ⟨d.toNat, by omega⟩
              refine rd_rep1 (e6 _ _ upd_same) (by omega) fun v nv => ?_
              have e7 := (e5.trans e6).trans (same_new nv (o := .lst (List.replicate dn (.int pg))))
              refine rd_cat (xs := s.map V.int) (ys := List.replicate dn (.int pg)) ((same_new nv) _ _ (e6 _ _ ((same_new nu) _ _ hl4))) upd_same (by rw [List.length_map, List.length_replicate]; omega) fun x nx => ?_
              repeat walk_at "s"
              refine ⟨x, s ++ List.replicate dn pg, rfl, e7.trans (same_new nx), e7.free nx, ?_, ?_, ?_⟩
              · rw [upd_same, List.map_append, List.map_replicate]
              · intro p hp'
                rcases List.mem_append.mp hp' with h | h
                · exact hp p h
                · exact List.eq_of_mem_replicate h ▸ hpg
              · rw [List.length_append, List.length_replicate]
                omega
            · repeat walk_at "s"
              exact ⟨l, s, rfl, e4, nl, hl4, hp, by omega⟩
          · rintro σ5 H5 ⟨l5, s5, rfl, e5, nl5, hl5, hp5, hz5⟩
            repeat walk_at "s"
            refine ⟨tyV_l (sqL_of hl5), ?_⟩
            repeat walk_at "s"
            refine rd_app hl5 (sz_lt (by rw [List.length_map]; omega)) ?_
            refine ⟨_, _, l5, s5 ++ [pg], rfl, same_mut e5 nl5, nl5, ?_, ?_, ?_⟩
            · rw [upd_same, List.map_append]
              rfl
            · intro p hp'
              rcases List.mem_append.mp hp' with h | h
              · exact hp5 p h
              · exact List.mem_singleton.mp h ▸ hpg
            · rw [List.length_append]
              show s5.length + 1 ≤ 3 * (i + 1)
              omega
    · rintro σ H' ⟨_, _, l, s, rfl, sH, nl, hl, hp, hsz⟩
      repeat walk_at "s"
      exact q s l H' hp (by omega) nl sH hl
end
end Peg

namespace Peg
open PySem PyProof.Rows L2
local macro_rules | `(tactic| walk_at "s") => `(tactic| with_reducible first
  | refine rd_seq ?_ | refine rd_asgN ?_ | refine rd_asgT ?_ | refine rd_ret ?_ | refine rd_drop ?_ | refine rd_ifs ?_ | refine rd_next ?_ | refine rd_par ?_ | refine rd_par2 ?_ | refine rd_par3 ?_ | refine rd_par33 ?_
  | refine rd_c ?_ | refine rd_op ?_ | refine rd_un ?_ | refine rd_rU ?_ | refine rd_rI0 ?_ | refine rd_test ?_ | refine rd_tB ?_ | refine rd_bl ?_ | refine rd_and ?_ | refine rd_or ?_ | refine rd_not ?_
  | refine rd_andV ?_ | refine rd_orV ?_ | refine rd_notV ?_ | refine rd_ife ?_ | refine rd_nil ?_ | refine rd_cons ?_ | refine rd_call ?_ | refine rd_cb ?_ | refine rd_bm ?_ | refine rd_bm0 ?_ | refine rd_gN ?_ | refine rd_tup ?_ | refine rd_lst ?_ | refine rd_ipI ?_
  | refine rd_rev ?_ | refine rd_sl ?_ | refine rd_noP ?_ | refine rd_part ?_ | refine rd_int1 ?_ | refine rd_chain ?_ | refine rd_isiI ?_ | refine rd_isiB ?_ | refine rd_isiS ?_ | refine rd_lc ?_ | refine rd_gC ?_ | refine rd_gNil ?_ | refine rd_for ?_ | refine rd_while ?_ | refine rd_iR1 ?_ | refine rd_iR2 ?_ | refine rd_iL ?_ | refine rd_iT ?_ | refine rd_iE ?_ | refine rd_iV ?_ | refine rd_iRR ?_ | refine rd_tRg1 ?_ | refine rd_eqF ?_ | refine rd_eqL ?_ | refine rd_eqR ?_ | refine rd_neRound ?_ | refine rd_whole ?_ | refine rd_eqI ?_ | refine rd_neI ?_ | refine rd_neB ?_ | refine rd_min ?_ | refine rd_max ?_
  | (refine rd_var (v := ?v) ?e ?_; case e => with_unfolding_all exact rfl)
  | (refine rd_aug (x := ?x) ?e ?_; case e => with_unfolding_all exact rfl)
  | (refine rd_rEq ?c ?_; case c => with_unfolding_all exact rfl)
  | (refine rd_rNe ?c ?_; case c => with_unfolding_all exact rfl)
  | (refine rd_mulL ?c ?_; case c => with_unfolding_all decide)
  | (refine rd_mulR ?c ?_; case c => with_unfolding_all decide)
  | (refine rd_modP ?c ?_; case c => with_unfolding_all decide)
  | (refine rd_divP ?c ?_; case c => with_unfolding_all decide)
  | (refine rd_ifT ?c ?_; case c => with_unfolding_all decide)
  | (refine rd_ifF ?c ?_; case c => with_unfolding_all decide)
  | (refine rd_sz ?c ?_; case c => with_unfolding_all exact rfl)
  | refine rd_abs ?_ | refine rd_is_near ?_)

section
variable {P : Program} {w : World} {K : PySem.W.Frag} {mg : Str → Option Value} {base : Heap}
abbrev s_written : Stmt := topS 14
theorem sc_written : FnScope ["state", "peg"] ["state"] (defScope s_written) := ⟨rfl, rfl, rfl, by decide +kernel, rfl, by decide +kernel, by decide +kernel⟩

theorem ok_written (D : Df K mg "written" s_written ["state"]) (B : Blt mg) (h_check_state : Has P w K mg base CX0 3 "check_state" ["state"] (sp_check_state K)) : Has P w K mg base CX0 4 "written" ["state"] (sp_written K) := by
  refine D.ok sc_written (fun vs H Q E h => ?_) (fun f cdv A outer s0 H vs Q E hr h => ?_)
  · obtain ⟨a, s, rfl, _⟩ := h
    rfl
  · obtain ⟨a, s, rfl, hs, hz, hp, q⟩ := h
    refine ⟨_, pss_cons (ps_expr (pe_h h_check_state (hr.mono (by decide)) pass0 (pa_cons (pv 0) pa_nil)))
      (pss_cons (ps_if (pt_cmpR op_eq (pe_callB ca_len (by rfl) B.len (by decide +kernel) (pa_cons (pv 0) pa_nil)) pe_int (nomark _)) (pss_one (ps_ret pe_str)) pss_nil)
      (pss_one (ps_ret (pe_bm PySem.F.plainAttrs_str PySem.F.slot_str_join PySem.F.type_str_join mt_join pe_str (pa_cons (pe_lc (own := [("peg", 1)]) rfl sc_written.nd (pi_reversed (by rfl) B.reversed (pa_cons (pv 0) pa_nil)) (blkOk_by (N := ["state", "peg"]) (sc := defScope s_written) (by decide +kernel)) (fun _ _ _ _ _ => (pg_name (i := 1) sc_written.nd rfl (by first | exact Or.inl rfl | exact Or.inr rfl))) (fun _ _ _ _ _ => pts_nil) (fun _ _ _ _ _ => (pe_callTy ca_str (by rfl) B.str (by decide +kernel) (pa_cons (pv 1) pa_nil)))) pa_nil))))), ?_⟩
    try dsimp only [cxOf_K]
    repeat walk_at "s"
    refine ⟨a, s, rfl, hs, hz, hp, fun H1 s1 => ?_⟩
    repeat walk_at "s"
    refine rd_lenL (s1.seq hs) ?_
    repeat walk_at "s"
    rw [List.length_map]
    refine rd_ifP (fun z => ?_) (fun z => ?_)
    · have z : s = [] := List.length_eq_zero_iff.mp (by omega)
      repeat walk_at "s"
      rw [z] at q
      exact q _ s1
    · have z : s ≠ [] := fun e => z (by rw [e]; rfl)
      repeat walk_at "s"
      refine ⟨rfl, ?_⟩
      repeat walk_at "s"
      refine rd_v1 (s1.seq hs) ?_
      intro l nl
      refine lc_v (xs := s.map V.int) (fun i H' => Same H1 H' ∧ H' l = some (.lst (((s.reverse.take i).map sg).map V.str))) ⟨same_new nl, upd_same⟩ (fun i H' _ h => h.1.seq (s1.seq hs)) ?_ ?_
      · rintro i x H' hx ⟨eH, hl⟩
        rw [← List.map_reverse] at hx
        obtain ⟨p, hpx, rfl⟩ := get_int hx
        have hp3 := hp p (List.mem_reverse.mp (List.mem_of_getElem? hpx))
        refine ⟨rfl, ?_⟩
        repeat walk_at "s"
        refine ⟨p, rfl, by rcases hp3 with rfl | rfl | rfl <;> decide +kernel, ?_⟩
        refine ⟨_, hl, sz_lt (by rw [List.length_map, List.length_map, List.length_take, List.length_reverse]; omega), same_mut eH nl, ?_⟩
        rw [upd_same, List.take_add_one, hpx, List.map_append, List.map_append]
        have e := str_peg hp3
        show some (HO.lst (_ ++ [V.str (toString p)])) = some (HO.lst (_ ++ [V.str (sg p)]))
        first
        | rw [← e]; rfl
        | rw [← e]
      rintro H2 ⟨e2, hl⟩
      rw [List.length_map, List.take_of_length_le (by rw [List.length_reverse]; exact Nat.le_refl _)] at hl
      repeat walk_at "s"
      refine ⟨_, l, s.reverse.map sg, rfl, rfl, .inl (sqL_of hl), ?_, ?_⟩
      · have : ∀ ps : List Int, ((ps.map sg).map fun x => x.length).sum = ps.length := fun ps => by
          induction ps with
          | nil => rfl
          | cons p r ih =>
            rw [List.map_cons, List.map_cons, List.sum_cons, ih, List.length_cons]
            show 1 + r.length = r.length + 1
            omega
        rw [this, List.length_map, List.length_reverse]
        have : (Str.ofString "").length = 0 := by decide +kernel
        rw [this]
        omega
      · have e : Txt.join (Str.ofString "") (s.reverse.map sg) = wrT s := by
          unfold wrT
          rw [if_neg z, ← join_signs, List.map_map]
          rfl
        rw [e]
        exact q _ (s1.trans e2)
abbrev s_read : Stmt := topS 15
theorem sc_read : FnScope ["text", "sign"] ["text"] (defScope s_read) := ⟨rfl, rfl, rfl, by decide +kernel, rfl, by decide +kernel, by decide +kernel⟩

theorem ok_read (D : Df K mg "read" s_read ["text"]) (B : Blt mg) {cX : Addr} (BadText_ : Exc K mg "BadText" cX) : Has P w K mg base (L2N.CX P w) 1 "read" ["text"] (sp_read K cX) := by
  refine D.okX sc_read (fun vs H Q E h => ?_) (fun f cdv A outer s0 H vs Q E hr h => ?_)
  · obtain ⟨v, rfl, _⟩ := h
    rfl
  · obtain ⟨v, rfl, h⟩ := h
    refine ⟨_, pss_cons (ps_if (pt_not (pt_val (pe_callB call_isi (by rfl) B.isinstance (by decide +kernel) (pa_cons (pv 0) (pa_cons (pe_bltn (v := .ty "str") rfl B.str (by decide +kernel) rfl) pa_nil))))) (pss_one (ps_raiseC rfl (L2N.takes_of rfl rfl rfl rfl) BadText_ rfl)) pss_nil)
      (pss_cons (ps_if (pt_cmpR op_eq (pv 0) pe_str (nomark _)) (pss_one (ps_ret (pe_lst pa_nil))) pss_nil)
      (pss_cons (ps_if (PW.pt (pw_or (pt_cmpR op_eq (pv 0) pe_str (nomark _)) (pw_or1 (pt_not (pt_val (pe_callB (cr_all rfl) (by rfl) B.all (by decide +kernel) (pa_cons (pe_lc (own := [("sign", 1)]) rfl sc_read.nd (pi_str (pv 0)) (blkOk_by (N := ["text", "sign"]) (sc := defScope s_read) (by decide +kernel)) (fun _ _ _ _ _ => (pg_name (i := 1) sc_read.nd rfl (by first | exact Or.inl rfl | exact Or.inr rfl))) (fun _ _ _ _ _ => pts_nil) (fun _ _ _ _ _ => (pe_cmpR op_in_sign (pv 1) pe_str rfl))) pa_nil))))))) (pss_one (ps_raiseC rfl (L2N.takes_of rfl rfl rfl rfl) BadText_ rfl)) pss_nil)
      (pss_one (ps_ret (pe_lc (own := [("sign", 1)]) rfl sc_read.nd (pi_revS (by rfl) B.reversed (pa_cons (pv 0) pa_nil)) (blkOk_by (N := ["text", "sign"]) (sc := defScope s_read) (by decide +kernel)) (fun _ _ _ _ _ => (pg_name (i := 1) sc_read.nd rfl (by first | exact Or.inl rfl | exact Or.inr rfl))) (fun _ _ _ _ _ => pts_nil) (fun _ _ _ _ _ => (pe_callTy call_int_str (by rfl) B.int (by decide +kernel) (pa_cons (pv 1) pa_nil)))))))), ?_⟩
    try dsimp only [cxOf_KX]
    rcases h with ⟨x, rfl, hz, q, e⟩ | ⟨⟨ty, ht, hk⟩, e⟩
    · repeat walk_at "s"
      rw [strD]
      refine rd_ifP (fun h1 => ?_) (fun h1 => ?_)
      · repeat walk_at "s"
        intro l nl
        refine q [] ?_ l _ nl (same_new nl) upd_same
        unfold rdT
        rw [if_pos h1]
      · repeat walk_at "s"
        rw [strD]
        have r0 : ¬ (x ≠ Str.ofString "" ∧ allD x = true) → rdT x = none := fun h2 => by
          unfold rdT
          rw [if_neg h1, if_neg h2]
        refine rd_ifP (fun h2 => ?_) (fun h2 => ?_)
        · repeat walk_at "s"
          exact e (r0 fun h => h.1 h2) _ (Same.refl _)
        · repeat walk_at "s"
          refine rd_iS ?_
          repeat walk_at "s"
          refine ⟨x, rfl, ?_⟩
          intro l nl
          have hn : x.cps.toList.length = x.length := Array.length_toList
          refine lc_s (fun i H' => Same H H' ∧ H' l = some (.lst (((x.cps.toList.take i).map isD).map V.bl))) ⟨same_new nl, upd_same⟩ ?_ ?_
          · rintro i c H' hc ⟨eH, hl⟩
            refine ⟨rfl, ?_⟩
            repeat walk_at "s"
            refine ⟨c, _, rfl, rfl, ?_⟩
            rw [in012]
            refine ⟨_, hl, sz_lt (by rw [List.length_map, List.length_map, List.length_take]; omega), same_mut eH nl, ?_⟩
            rw [upd_same, List.take_add_one, hc, List.map_append, List.map_append]
            rfl
          rintro H2 ⟨e2, hl⟩
          rw [List.take_length] at hl
          repeat walk_at "s"
          refine rd_all (sqL_of hl) ?_
          have ea : (x.cps.toList.map isD).all id = allD x := by
            rw [List.all_map]
            rfl
          rw [ea]
          repeat walk_at "s"
          refine rd_if2 (fun h3 => ?_) (fun h3 => ?_)
          · have h3 : allD x = false := by simpa using h3
            repeat walk_at "s"
            exact e (r0 fun h => by rw [h3] at h; cases h.2) _ e2
          · have h3 : allD x = true := by simpa using h3
            repeat walk_at "s"
            refine rd_iRS ?_
            repeat walk_at "s"
            refine ⟨x, rfl, by omega, ?_⟩
            intro l2 nl2
            refine lc_rs (fun i H' => Same H2 H' ∧ H' l2 = some (.lst (((x.cps.toList.reverse.take i).map fun c : Nat => (c : Int) - 48).map V.int))) ⟨same_new nl2, upd_same⟩ ?_ ?_
            · rintro i c H' hc ⟨eH, hl⟩
              have hcd := List.all_eq_true.mp h3 c (List.mem_reverse.mp (List.mem_of_getElem? hc))
              refine ⟨rfl, ?_⟩
              repeat walk_at "s"
              refine ⟨_, _, rfl, int_sign hcd, (show 1 ≤ 640 by decide), ?_⟩
              refine ⟨_, hl, sz_lt (by rw [List.length_map, List.length_map, List.length_take, List.length_reverse]; omega), same_mut eH nl2, ?_⟩
              rw [upd_same, List.take_add_one, hc, List.map_append, List.map_append]
              rfl
            rintro H3 ⟨e3, hl3⟩
            rw [List.take_of_length_le (by rw [List.length_reverse]; exact Nat.le_refl _)] at hl3
            refine q (dgs x).reverse ?_ l2 H3 (e2.free nl2) (e2.trans e3) ?_
            · unfold rdT
              rw [if_neg h1, if_pos ⟨h2, h3⟩]
            · rw [hl3]
              unfold dgs
              rw [List.map_reverse (f := fun c : Nat => (c : Int) - 48)]
    · repeat walk_at "s"
      refine rd_isi ht hk ?_
      repeat walk_at "s"
      exact e _ (Same.refl _)
end
end Peg

namespace Peg
open PySem PyProof.Rows L2
local macro_rules | `(tactic| walk_at "s") => `(tactic| with_reducible first
  | refine rd_seq ?_ | refine rd_asgN ?_ | refine rd_asgT ?_ | refine rd_ret ?_ | refine rd_drop ?_ | refine rd_ifs ?_ | refine rd_next ?_ | refine rd_par ?_ | refine rd_par2 ?_ | refine rd_par3 ?_ | refine rd_par33 ?_
  | refine rd_c ?_ | refine rd_op ?_ | refine rd_un ?_ | refine rd_rU ?_ | refine rd_rI0 ?_ | refine rd_test ?_ | refine rd_tB ?_ | refine rd_bl ?_ | refine rd_and ?_ | refine rd_or ?_ | refine rd_not ?_
  | refine rd_andV ?_ | refine rd_orV ?_ | refine rd_notV ?_ | refine rd_ife ?_ | refine rd_nil ?_ | refine rd_cons ?_ | refine rd_call ?_ | refine rd_cb ?_ | refine rd_bm ?_ | refine rd_bm0 ?_ | refine rd_gN ?_ | refine rd_tup ?_ | refine rd_lst ?_ | refine rd_ipI ?_
  | refine rd_rev ?_ | refine rd_sl ?_ | refine rd_noP ?_ | refine rd_part ?_ | refine rd_int1 ?_ | refine rd_chain ?_ | refine rd_isiI ?_ | refine rd_isiB ?_ | refine rd_isiS ?_ | refine rd_lc ?_ | refine rd_gC ?_ | refine rd_gNil ?_ | refine rd_for ?_ | refine rd_while ?_ | refine rd_iR1 ?_ | refine rd_iR2 ?_ | refine rd_iL ?_ | refine rd_iT ?_ | refine rd_iE ?_ | refine rd_iV ?_ | refine rd_iRR ?_ | refine rd_tRg1 ?_ | refine rd_eqF ?_ | refine rd_eqL ?_ | refine rd_eqR ?_ | refine rd_neRound ?_ | refine rd_whole ?_ | refine rd_eqI ?_ | refine rd_neI ?_ | refine rd_neB ?_ | refine rd_min ?_ | refine rd_max ?_
  | (refine rd_var (v := ?v) ?e ?_; case e => with_unfolding_all exact rfl)
  | (refine rd_aug (x := ?x) ?e ?_; case e => with_unfolding_all exact rfl)
  | (refine rd_rEq ?c ?_; case c => with_unfolding_all exact rfl)
  | (refine rd_rNe ?c ?_; case c => with_unfolding_all exact rfl)
  | (refine rd_mulL ?c ?_; case c => with_unfolding_all decide)
  | (refine rd_mulR ?c ?_; case c => with_unfolding_all decide)
  | (refine rd_modP ?c ?_; case c => with_unfolding_all decide)
  | (refine rd_divP ?c ?_; case c => with_unfolding_all decide)
  | (refine rd_ifT ?c ?_; case c => with_unfolding_all decide)
  | (refine rd_ifF ?c ?_; case c => with_unfolding_all decide)
  | (refine rd_sz ?c ?_; case c => with_unfolding_all exact rfl)
  | refine rd_abs ?_ | refine rd_is_near ?_)

section
variable {P : Program} {w : World} {K : PySem.W.Frag} {mg : Str → Option Value} {base : Heap}
abbrev s_law_refused : Stmt := topS 23
theorem sc_law_refused : FnScope ["text", "error", "others"] ["text"] (defScope s_law_refused) := ⟨rfl, rfl, rfl, by decide +kernel, rfl, by decide +kernel, by decide +kernel⟩

theorem ok_refused (D : Df K mg "_law_refused" s_law_refused ["text"]) (B : Blt mg) (BV : mg "ValueError" = none) {cT cR cS cP cM cN cU cX : Addr} (XE : Errs mg cT cR cS cP cM cN cU cX) (EC : ExcC K cX) (tm : PySem.W.exmOne K (.ref cX) (.ref cT) = some true)
    (i1 : PySem.W.kitOne K (.ref cX) (.ref cR) = some false) (i2 : PySem.W.kitOne K (.ref cX) (.ref cS) = some false) (i3 : PySem.W.kitOne K (.ref cX) (.ref cP) = some false) (i4 : PySem.W.kitOne K (.ref cX) (.ref cM) = some false) (i5 : PySem.W.kitOne K (.ref cX) (.ref cN) = some false)
    (i6 : PySem.W.kitOne K (.ref cX) (.ref cU) = some false) (i7 : PySem.W.kitOne K (.ref cX) (.type "ValueError") = some true) (i8 : PySem.W.kitOne K (.ref cX) (.ref cX) = some true)
    (h_read : Has P w K mg base (L2N.CX P w) 1 "read" ["text"] (sp_read K cX)) : Has P w K mg base CX0 2 "_law_refused" ["text"] (sp_refused K) := by
  refine D.ok sc_law_refused (fun vs H Q E h => ?_) (fun f cdv A outer s0 H vs Q E hr h => ?_)
  · obtain ⟨v, rfl, _⟩ := h
    rfl
  · obtain ⟨v, rfl, h, q⟩ := h
    refine ⟨_, pss_cons (L2N.ps_try_as (i := 1) rfl rfl sc_law_refused.nd rfl rfl ⟨rfl, by decide, .inl XE.TowerError⟩ takesN0 (fun W pn xe tk _ => (pss_one (ps_expr (pe_hS h_read (hr.mono (by decide)) (fun σ => L2N.passAt tk σ) (pa_cons (pv 0) pa_nil)))))
        (fun a oe cls d pn hz hf => pss_when (C := cls = .ref cX ∧ d = none) fun he => (pss_cons (ps_set (i := 2) sc_law_refused.nd rfl (by first | exact Or.inl rfl | exact Or.inr rfl) (pe_lst (pa_cons (pe_callB (cr_isEK (K := K) rfl List.mem_cons_self EC (zc_of hz he) hf) (by rfl) B.isinstance (by decide +kernel) (pa_cons (pv 1) (pa_cons (pe_glob (v := .ref cR) rfl XE.BadRule rfl) pa_nil))) (pa_cons (pe_callB (cr_isEK (K := K) rfl List.mem_cons_self EC (zc_of hz he) hf) (by rfl) B.isinstance (by decide +kernel) (pa_cons (pv 1) (pa_cons (pe_glob (v := .ref cS) rfl XE.BadState rfl) pa_nil))) (pa_cons (pe_callB (cr_isEK (K := K) rfl List.mem_cons_self EC (zc_of hz he) hf) (by rfl) B.isinstance (by decide +kernel) (pa_cons (pv 1) (pa_cons (pe_glob (v := .ref cP) rfl XE.BadPeg rfl) pa_nil))) pa_nil)))))
        (pss_cons (ps_set (i := 2) sc_law_refused.nd rfl (by first | exact Or.inl rfl | exact Or.inr rfl) (pe_op op_cat (pv 2) (pe_lst (pa_cons (pe_callB (cr_isEK (K := K) rfl List.mem_cons_self EC (zc_of hz he) hf) (by rfl) B.isinstance (by decide +kernel) (pa_cons (pv 1) (pa_cons (pe_glob (v := .ref cM) rfl XE.BadMove rfl) pa_nil))) (pa_cons (pe_callB (cr_isEK (K := K) rfl List.mem_cons_self EC (zc_of hz he) hf) (by rfl) B.isinstance (by decide +kernel) (pa_cons (pv 1) (pa_cons (pe_glob (v := .ref cN) rfl XE.BadNumber rfl) pa_nil))) (pa_cons (pe_callB (cr_isEK (K := K) rfl List.mem_cons_self EC (zc_of hz he) hf) (by rfl) B.isinstance (by decide +kernel) (pa_cons (pv 1) (pa_cons (pe_glob (v := .ref cU) rfl XE.Unlike rfl) pa_nil))) pa_nil))))))
        (pss_one (ps_ret (pe_and (pe_callB (cr_isEK (K := K) rfl List.mem_cons_self EC (zc_of hz he) hf) (by rfl) B.isinstance (by decide +kernel) (pa_cons (pv 1) (pa_cons (pe_glob (v := .ref cX) rfl XE.BadText rfl) pa_nil))) (pe_and (pe_callB (cr_isEK (K := K) rfl List.mem_cons_self EC (zc_of hz he) hf) (by rfl) B.isinstance (by decide +kernel) (pa_cons (pv 1) (pa_cons (pe_bltn (v := .ty "ValueError") rfl BV (by decide +kernel) rfl) pa_nil))) (pe_one (pe_not (pe_callB (cr_anyHK (K := K) rfl (hot_suite hz hf)) (by rfl) B.any (by decide +kernel) (pa_cons (pv 2) pa_nil))))))))))))
      (pss_one (ps_ret pe_bl)), ?_⟩
    try dsimp only [cxOf_K]
    repeat walk_at "s"
    refine rd_callS ?_
    repeat walk_at "s"
    refine read_bad h fun H' eH => ?_
    · refine rd_as tm fun a na => ⟨⟨rfl, rfl⟩, ?_⟩
      repeat walk_at "s"
      refine rd_isE i1 ?_
      repeat walk_at "s"
      refine rd_isE i2 ?_
      repeat walk_at "s"
      refine rd_isE i3 ?_
      repeat walk_at "s"
      intro o1 n1
      repeat walk_at "s"
      refine rd_isE i4 ?_
      repeat walk_at "s"
      refine rd_isE i5 ?_
      repeat walk_at "s"
      refine rd_isE i6 ?_
      repeat walk_at "s"
      intro o2 n2
      have e2 := eH.trans ((same_new (o := .lst [V.bl false, V.bl false, V.bl false]) n1).trans (same_new (o := .lst [V.bl false, V.bl false, V.bl false]) n2))
      refine rd_cat (same_new n2 _ _ upd_same) upd_same (by decide) fun o3 n3 => ?_
      have e3 := e2.trans (same_new (o := .lst ([V.bl false, V.bl false, V.bl false] ++ [V.bl false, V.bl false, V.bl false])) n3)
      repeat walk_at "s"
      refine rd_isE i8 ?_
      repeat walk_at "s"
      refine rd_isET i7 ?_
      repeat walk_at "s"
      refine rd_anyF (n := 6) upd_same ?_
      repeat walk_at "s"
      exact q _ e3
abbrev s_law_right : Stmt := topS 24
theorem sc_law_right : FnScope ["text", "found", "due", "sign", "peg"] ["text"] (defScope s_law_right) := ⟨rfl, rfl, rfl, by decide +kernel, rfl, by decide +kernel, by decide +kernel⟩

theorem ok_rightT (D : Df K mg "_law_right" s_law_right ["text"]) (B : Blt mg) {cX : Addr} (h_law_refused : Has P w K mg base CX0 2 "_law_refused" ["text"] (sp_refused K)) (h_read : Has P w K mg base (L2N.CX P w) 1 "read" ["text"] (sp_read K cX))
    (h_written : Has P w K mg base CX0 4 "written" ["state"] (sp_written K)) (h_law_whole : Has P w K mg base CX0 1 "_law_whole" ["number"] sp_whole) : Has P w K mg base CX0 5 "_law_right" ["text"] sp_rightT := by
  refine D.ok sc_law_right (fun vs H Q E h => ?_) (fun f cdv A outer s0 H vs Q E hr h => ?_)
  · obtain ⟨x, rfl, _⟩ := h
    rfl
  · obtain ⟨x, rfl, hz, q⟩ := h
    refine ⟨_, Evl.pss_cut (ps_if (PW.pt (pw_and (pt_cmpR op_ne (pv 0) pe_str (nomark _)) (pw_and1 (PW.pt (pw_or (pt_cmpR op_eq (pv 0) pe_str (nomark _)) (pw_or1 (pt_cmpR op_ne (pe_bm PySem.F.plainAttrs_str PySem.F.slot_str_strip PySem.F.type_str_strip mt_stripChars (pv 0) (pa_cons pe_str pa_nil)) pe_str (nomark _)))))))) (pss_one (ps_ret (pe_h h_law_refused (hr.mono (by decide)) pass0 (pa_cons (pv 0) pa_nil)))) pss_nil)
      (pss_cons (ps_set (i := 1) sc_law_right.nd rfl (by first | exact Or.inl rfl | exact Or.inr rfl) (pe_h h_read (hr.mono (by decide)) passNL (pa_cons (pv 0) pa_nil)))
      (Evl.pss_cut (ps_set (i := 2) sc_law_right.nd rfl (by first | exact Or.inl rfl | exact Or.inr rfl) (pe_ifExp (pt_cmpR op_eq (pv 0) pe_str (nomark _)) (pe_lst pa_nil) (pe_revL (pe_lc (own := [("sign", 3)]) rfl sc_law_right.nd (pi_str (pv 0)) (blkOk_by (N := ["text", "found", "due", "sign", "peg"]) (sc := defScope s_law_right) (by decide +kernel)) (fun _ _ _ _ _ => (pg_name (i := 3) sc_law_right.nd rfl (by first | exact Or.inl rfl | exact Or.inr rfl))) (fun _ _ _ _ _ => pts_nil) (fun _ _ _ _ _ => (pe_bmK (K := K) rfl PySem.F.plainAttrs_str PySem.F.slot_str_index PySem.F.type_str_index (mt_indexF rfl) pe_str (pa_cons (pv 3) pa_nil)))))))
      (pss_cons (ps_if (PW.pt (pw_or (pt_not (pt_val (pe_callB call_isi (by rfl) B.isinstance (by decide +kernel) (pa_cons (pv 1) (pa_cons (pe_bltn (v := .ty "list") rfl B.list (by decide +kernel) rfl) pa_nil))))) (pw_or (pt_cmpR (op_neD hr.units) (pv 1) (pv 2) (nomark _)) (pw_or1 (pt_cmpR op_ne (pe_h h_written (hr.mono (by decide)) pass0 (pa_cons (pv 1) pa_nil)) (pv 0) (nomark _)))))) (pss_one (ps_ret pe_bl)) pss_nil)
      (pss_cons (ps_if (pt_not (pt_val (pe_callB (cr_all rfl) (by rfl) B.all (by decide +kernel) (pa_cons (pe_lc (own := [("peg", 4)]) rfl sc_law_right.nd (pi_list (pv 1)) (blkOk_by (N := ["text", "found", "due", "sign", "peg"]) (sc := defScope s_law_right) (by decide +kernel)) (fun _ _ _ _ _ => (pg_name (i := 4) sc_law_right.nd rfl (by first | exact Or.inl rfl | exact Or.inr rfl))) (fun _ _ _ _ _ => pts_nil) (fun _ _ _ _ _ => (pe_h h_law_whole (hr.mono (by decide)) pass0 (pa_cons (pv 4) pa_nil)))) pa_nil)))) (pss_one (ps_ret pe_bl)) pss_nil)
      (pss_cons (ps_expr (pe_bm PySem.F.plainAttrs_list PySem.F.slot_list_append PySem.F.type_list_append mt_append (pv 1) (pa_cons pe_int pa_nil)))
      (pss_one (ps_ret (pe_cmpR (op_eqD hr.units) (pe_h h_read (hr.mono (by decide)) passNL (pa_cons (pv 0) pa_nil)) (pv 2) (nomark _))))))))), ?_⟩
    try dsimp only [cxOf_K]
    refine rd_cut (fun σ' H' => σ' = [some (.str x), none, none, none, none] ∧ H' = H ∧ ∃ ds, rdT x = some ds) ?_ ?_
    · have bad : rdT x = none → sp_refused K ([.str x] ++ []) H (fun v H' => Q v H') E0 := fun e => ⟨_, rfl, .inl ⟨x, rfl, hz, e⟩, fun H' s => q H' s⟩
      repeat walk_at "s"
      rw [strD]
      refine rd_ifN (fun h1 => ?_) (fun h1 => ?_)
      · repeat walk_at "s"
        rw [strD]
        refine rd_ifP (fun h2 => ?_) (fun h2 => ?_)
        · repeat walk_at "s"
          refine bad ?_
          unfold rdT
          rw [if_neg h1, if_neg fun h => h.1 h2]
        · repeat walk_at "s"
          refine ⟨rfl, ?_⟩
          repeat walk_at "s"
          refine ⟨x, _, rfl, rfl, sz_of (by omega), ?_⟩
          repeat walk_at "s"
          rw [strD]
          refine rd_ifN (fun h3 => ?_) (fun h3 => ?_)
          · repeat walk_at "s"
            refine bad ?_
            unfold rdT
            rw [if_neg h1, if_neg fun h => h3 ((strip_iff x).mpr h.2)]
          · repeat walk_at "s"
            refine ⟨rfl, rfl, (dgs x).reverse, ?_⟩
            unfold rdT
            rw [if_neg h1, if_pos ⟨h2, (strip_iff x).mp h3⟩]
      · repeat walk_at "s"
        refine ⟨rfl, rfl, [], ?_⟩
        unfold rdT
        rw [if_pos h1]
    rintro σ' H' ⟨rfl, rfl, ds, hds⟩
    obtain ⟨hw, hall, hlen⟩ := wr_rd hds
    have hn : x.cps.toList.length = x.length := Array.length_toList
    repeat walk_at "s"
    refine ⟨_, rfl, .inl ⟨x, rfl, hz, fun ds' e p H1 np s1 h1 => ?_, fun e => absurd (hds.symm.trans e) (by simp)⟩⟩
    cases hds.symm.trans e
    repeat walk_at "s"
    refine rd_cut (fun σ' H2 => ∃ dp, σ' = [some (.str x), some (.ref p), some (.ref dp), none, none] ∧ Same H1 H2 ∧ H2 dp = some (.lst (ds.map V.int)) ∧ p ≠ dp) ?_ ?_
    · repeat walk_at "s"
      rw [strD]
      refine rd_ifP (fun h2 => ?_) (fun h2 => ?_)
      · have e0 : ds = [] := by
          unfold rdT at hds
          rw [if_pos h2] at hds
          exact (Option.some.inj hds).symm
        repeat walk_at "s"
        intro l nl
        refine ⟨l, rfl, same_new nl, by rw [upd_same, e0] <;> rfl, ne_of_none h1 nl⟩
      · have hd : allD x = true ∧ ds = (dgs x).reverse := by
          unfold rdT at hds
          rw [if_neg h2] at hds
          by_cases h3 : x ≠ Str.ofString "" ∧ allD x = true
          · rw [if_pos h3] at hds
            exact ⟨h3.2, (Option.some.inj hds).symm⟩
          · rw [if_neg h3] at hds
            cases hds
        repeat walk_at "s"
        refine rd_iS ?_
        repeat walk_at "s"
        refine ⟨x, rfl, ?_⟩
        intro l nl
        refine lc_s (fun i H' => Same H1 H' ∧ H' l = some (.lst (((x.cps.toList.take i).map fun c : Nat => (c : Int) - 48).map V.int))) ⟨same_new nl, upd_same⟩ ?_ ?_
        · rintro i c H' hc ⟨eH, hl⟩
          have hcd := List.all_eq_true.mp hd.1 c (List.mem_of_getElem? hc)
          refine ⟨rfl, ?_⟩
          repeat walk_at "s"
          refine ⟨rfl, ?_⟩
          repeat walk_at "s"
          refine ⟨_, _, _, rfl, rfl, index_sign hcd, ?_⟩
          refine ⟨_, hl, sz_lt (by rw [List.length_map, List.length_map, List.length_take]; omega), same_mut eH nl, ?_⟩
          have e48 : ((c - 48 : Nat) : Int) = (c : Int) - 48 := by
            have := isD_iff.mp hcd
            omega
          rw [upd_same, List.take_add_one, hc, List.map_append, List.map_append, e48]
          rfl
        rintro H2 ⟨e2, hl⟩
        rw [List.take_length] at hl
        have hl : H2 l = some (.lst ((dgs x).map V.int)) := hl
        repeat walk_at "s"
        refine rd_rev1 (sqL_of hl) fun l2 nl2 => ?_
        have s2 := e2.trans (same_new (o := .lst ((dgs x).map V.int).reverse) nl2)
        refine ⟨l2, rfl, s2, by rw [upd_same, hd.2, List.map_reverse], ne_of_none (e2 _ _ h1) nl2⟩
    rintro σ2 H2 ⟨dp, rfl, e2, hdp, npd⟩
    have hp2 := e2 _ _ h1
    have s2 := s1.trans e2
    repeat walk_at "s"
    refine rd_isiL (sqL_of hp2) ?_
    repeat walk_at "s"
    refine rd_neD (p := True) (dp_ints (sqL_of hp2)) (dp_ints (sqL_of hdp)) (good_ints 0 _).good (good_ints 0 _).good (by simp) ?_
    repeat walk_at "s"
    refine ⟨p, ds, rfl, sqL_of hp2, by omega, hall, fun H3 s3 => ?_⟩
    rw [hw]
    repeat walk_at "s"
    refine rd_ifF (by simp) ?_
    repeat walk_at "s"
    have hp3 := s3 _ _ hp2
    refine rd_l1 (sqL_of hp3) ?_
    intro c nc
    refine lc_true (sqL_of hp3) nc (by rw [List.length_map]; omega) (fun _ => rfl) (fun y hy H5 Q5 _ hq => ?_) fun H4 s4 h4 => ?_
    · obtain ⟨z, _, rfl⟩ := List.mem_map.mp hy
      repeat walk_at "s"
      exact hq _ (Same.refl _)
    repeat walk_at "s"
    refine rd_allT h4 ?_
    have s34 := s3.trans s4
    have hp4 := s34 _ _ hp2
    repeat walk_at "s"
    refine ⟨tyV_l (sqL_of hp4), ?_⟩
    repeat walk_at "s"
    refine rd_app hp4 (sz_lt (by rw [List.length_map]; omega)) ?_
    have s5 := same_mut (o := .lst (ds.map V.int ++ [.int 0])) (s2.trans s34) np
    have hd5 : upd H4 p (.lst (ds.map V.int ++ [.int 0])) dp = some (.lst (ds.map V.int)) := by
      rw [upd_ne npd.symm]
      exact s34 _ _ hdp
    generalize upd H4 p (.lst (ds.map V.int ++ [.int 0])) = H5 at *
    repeat walk_at "s"
    refine ⟨_, rfl, .inl ⟨x, rfl, hz, fun ds' e p6 H6 np6 s6 h6 => ?_, fun e => absurd (hds.symm.trans e) (by simp)⟩⟩
    cases hds.symm.trans e
    repeat walk_at "s"
    refine rd_eqD (p := True) (dp_ints (sqL_of h6)) (dp_ints (sqL_of (s6 _ _ hd5))) (good_ints 0 _).good (good_ints 0 _).good (by simp) ?_
    exact q _ (s5.trans s6)
end
end Peg

namespace Peg
open PySem PyProof.Rows L2
local macro_rules | `(tactic| walk_at "s") => `(tactic| with_reducible first
  | refine rd_seq ?_ | refine rd_asgN ?_ | refine rd_asgT ?_ | refine rd_ret ?_ | refine rd_drop ?_ | refine rd_ifs ?_ | refine rd_next ?_ | refine rd_par ?_ | refine rd_par2 ?_ | refine rd_par3 ?_ | refine rd_par33 ?_
  | refine rd_c ?_ | refine rd_op ?_ | refine rd_un ?_ | refine rd_rU ?_ | refine rd_rI0 ?_ | refine rd_test ?_ | refine rd_tB ?_ | refine rd_bl ?_ | refine rd_and ?_ | refine rd_or ?_ | refine rd_not ?_
  | refine rd_andV ?_ | refine rd_orV ?_ | refine rd_notV ?_ | refine rd_ife ?_ | refine rd_nil ?_ | refine rd_cons ?_ | refine rd_call ?_ | refine rd_cb ?_ | refine rd_bm ?_ | refine rd_bm0 ?_ | refine rd_gN ?_ | refine rd_tup ?_ | refine rd_lst ?_ | refine rd_ipI ?_
  | refine rd_rev ?_ | refine rd_sl ?_ | refine rd_noP ?_ | refine rd_part ?_ | refine rd_int1 ?_ | refine rd_chain ?_ | refine rd_isiI ?_ | refine rd_isiB ?_ | refine rd_isiS ?_ | refine rd_lc ?_ | refine rd_gC ?_ | refine rd_gNil ?_ | refine rd_for ?_ | refine rd_while ?_ | refine rd_iR1 ?_ | refine rd_iR2 ?_ | refine rd_iL ?_ | refine rd_iT ?_ | refine rd_iE ?_ | refine rd_iV ?_ | refine rd_iRR ?_ | refine rd_tRg1 ?_ | refine rd_eqF ?_ | refine rd_eqL ?_ | refine rd_eqR ?_ | refine rd_neRound ?_ | refine rd_whole ?_ | refine rd_eqI ?_ | refine rd_neI ?_ | refine rd_neB ?_ | refine rd_min ?_ | refine rd_max ?_
  | (refine rd_var (v := ?v) ?e ?_; case e => with_unfolding_all exact rfl)
  | (refine rd_aug (x := ?x) ?e ?_; case e => with_unfolding_all exact rfl)
  | (refine rd_rEq ?c ?_; case c => with_unfolding_all exact rfl)
  | (refine rd_rNe ?c ?_; case c => with_unfolding_all exact rfl)
  | (refine rd_mulL ?c ?_; case c => with_unfolding_all decide)
  | (refine rd_mulR ?c ?_; case c => with_unfolding_all decide)
  | (refine rd_modP ?c ?_; case c => with_unfolding_all decide)
  | (refine rd_divP ?c ?_; case c => with_unfolding_all decide)
  | (refine rd_ifT ?c ?_; case c => with_unfolding_all decide)
  | (refine rd_ifF ?c ?_; case c => with_unfolding_all decide)
  | (refine rd_sz ?c ?_; case c => with_unfolding_all exact rfl)
  | refine rd_abs ?_ | refine rd_is_near ?_)

def okT : V → Bool
  | .str z => decide (z.length ≤ 600)
  | _ => false
theorem okT_iff {v : V} (h : okT v = true) : ∃ z, v = .str z ∧ z.length ≤ 600 := by
  cases v <;> first
    | (exfalso; exact Bool.false_ne_true h)
    | exact ⟨_, rfl, of_decide_eq_true h⟩
theorem app_len (x y : Str) : (x ++ y).length = x.length + y.length := by
  show (x.cps ++ y.cps).size = _
  rw [Array.size_append]
  rfl
theorem sg_at {i : Int} (h : P3 i) : ∃ c, atI (Str.ofString "012").cps.toList i = some c ∧ (⟨#[c]⟩ : Str) = sg i := by
  rcases h with rfl | rfl | rfl
  · exact ⟨48, by decide +kernel, by decide +kernel⟩
  · exact ⟨49, by decide +kernel, by decide +kernel⟩
  · exact ⟨50, by decide +kernel, by decide +kernel⟩
theorem sign_at {d : Int} (h0 : 0 ≤ d) (h1 : d < 9) : ∃ c, atI (Str.ofString "0123- ,x9").cps.toList d = some c := by
  have e : (Str.ofString "0123- ,x9").cps.toList.length = 9 := by decide +kernel
  obtain ⟨j, rfl⟩ : ∃ j : Nat, d = (j : Int) := ⟨d.toNat, by omega⟩
  exact ⟨_, atI_nat (List.getElem?_eq_getElem (by omega))⟩
section
variable {P : Program} {w : World} {K : PySem.W.Frag} {mg : Str → Option Value} {base : Heap}
abbrev s_law : Stmt := topS 25
theorem sc_law : FnScope ["script", "state", "text", "handed", "cell", "k", "at", "sign", "some", "peg", "other", "thing"] ["script"] (defScope s_law) := ⟨rfl, rfl, rfl, by decide +kernel, rfl, by decide +kernel, by decide +kernel⟩

theorem ok_law {f0 : Addr} {fd0 : FuncData} (D : DefAt K mg "law" s_law ["script"] f0 fd0) (B : Blt mg) (h_law_state : Has P w K mg base CX0 2 "_law_state" ["script", "by"] (sp_state K)) (h_law_cell_at : Has P w K mg base CX0 1 "_law_cell_at" ["script", "k"] (sp_cell K))
    (h_law_draw : Has P w K mg base CX0 1 "_law_draw" ["cell", "k", "many"] sp_draw) (h_written : Has P w K mg base CX0 4 "written" ["state"] (sp_written K)) (h_law_refused : Has P w K mg base CX0 2 "_law_refused" ["text"] (sp_refused K)) (h_law_right : Has P w K mg base CX0 5 "_law_right" ["text"] sp_rightT) :
    FnOk P w K mg base CX0 6 f0 fd0 ["script"] (sp_law K) := by
  refine D.okF sc_law (fun vs H Q E h => ?_) (fun f cdv A outer s0 H vs Q E hr h => ?_)
  · obtain ⟨a, ns, rfl, _⟩ := h
    rfl
  · obtain ⟨a, ns, rfl, hs, hz, q⟩ := h
    refine ⟨_, pss_cons (ps_set (i := 1) sc_law.nd rfl (by first | exact Or.inl rfl | exact Or.inr rfl) (pe_h h_law_state (hr.mono (by decide)) pass0 (pa_cons (pv 0) (pa_cons pe_int pa_nil))))
      (Evl.pss_cut (ps_set (i := 2) sc_law.nd rfl (by first | exact Or.inl rfl | exact Or.inr rfl) (pe_ifExp (pt_cmpR (op_neD hr.units) (pv 1) (pe_lst pa_nil) (nomark _)) (pe_bm PySem.F.plainAttrs_str PySem.F.slot_str_join PySem.F.type_str_join mt_join pe_str (pa_cons (pe_lc (own := [("peg", 9)]) rfl sc_law.nd (pi_list (pe_revL (pv 1))) (blkOk_by (N := ["script", "state", "text", "handed", "cell", "k", "at", "sign", "some", "peg", "other", "thing"]) (sc := defScope s_law) (by decide +kernel)) (fun _ _ _ _ _ => (pg_name (i := 9) sc_law.nd rfl (by first | exact Or.inl rfl | exact Or.inr rfl))) (fun _ _ _ _ _ => pts_nil) (fun _ _ _ _ _ => (pe_ix ix_str pe_str (pv 9) (fun _ _ => rfl)))) pa_nil)) pe_str))
      (pss_cons (ps_set (i := 3) sc_law.nd rfl (by first | exact Or.inl rfl | exact Or.inr rfl) (pe_callTy ca_list (by rfl) B.list (by decide +kernel) (pa_cons (pv 1) pa_nil)))
      (pss_cons (ps_if (PW.pt (pw_or (pt_cmpR op_ne (pe_h h_written (hr.mono (by decide)) pass0 (pa_cons (pv 3) pa_nil)) (pv 2) (nomark _)) (pw_or (pt_cmpR (op_neD hr.units) (pv 3) (pv 1) (nomark _)) (pw_or1 (pt_not (pt_val (pe_h h_law_right (hr.mono (by decide)) pass0 (pa_cons (pv 2) pa_nil)))))))) (pss_one (ps_ret pe_bl)) pss_nil)
      (pss_cons (ps_set (i := 4) sc_law.nd rfl (by first | exact Or.inl rfl | exact Or.inr rfl) (pe_op op_add (pe_h h_law_cell_at (hr.mono (by decide)) pass0 (pa_cons (pv 0) (pa_cons pe_int pa_nil))) (pe_op op_mul pe_int (pe_h h_law_cell_at (hr.mono (by decide)) pass0 (pa_cons (pv 0) (pa_cons pe_int pa_nil))))))
      (pss_cons (ps_for PassesOwn.never rfl (pi_range1 (by rfl) B.range (pa_cons pe_int pa_nil)) (pg_name (i := 5) sc_law.nd rfl (by first | exact Or.inl rfl | exact Or.inr rfl))
        (pss_cons (ps_set (i := 6) sc_law.nd rfl (by first | exact Or.inl rfl | exact Or.inr rfl) (pe_h h_law_draw (hr.mono (by decide)) pass0 (pa_cons (pe_op op_add (pv 4) (pv 5)) (pa_cons pe_int (pa_cons (pe_op op_add (pe_callB call_len_str (by rfl) B.len (by decide +kernel) (pa_cons (pv 2) pa_nil)) pe_int) pa_nil)))))
        (pss_cons (ps_set (i := 7) sc_law.nd rfl (by first | exact Or.inl rfl | exact Or.inr rfl) (pe_ix ix_tup (pe_tup (pa_cons pe_str (pa_cons (pe_ix ix_str pe_str (pe_h h_law_draw (hr.mono (by decide)) pass0 (pa_cons (pe_op op_add (pv 4) (pv 5)) (pa_cons pe_int (pa_cons pe_int pa_nil)))) (fun _ _ => rfl)) pa_nil))) (pe_h h_law_draw (hr.mono (by decide)) pass0 (pa_cons (pe_op op_add (pv 4) (pv 5)) (pa_cons pe_int (pa_cons pe_int pa_nil)))) (fun _ _ => rfl)))
        (pss_one (ps_if (pt_not (pt_val (pe_h h_law_right (hr.mono (by decide)) pass0 (pa_cons (pe_op op_add_str (pe_op op_add_str (pe_slice sl_str (pv 2) po_none (po_some (pv 6))) (pv 7)) (pe_slice sl_str (pv 2) (po_some (pe_op op_add (pv 6) (pe_h h_law_draw (hr.mono (by decide)) pass0 (pa_cons (pe_op op_add (pv 4) (pv 5)) (pa_cons pe_int (pa_cons pe_int pa_nil)))))) po_none)) pa_nil)))) (pss_one (ps_ret pe_bl)) pss_nil)))))
      (pss_cons (ps_set (i := 8) sc_law.nd rfl (by first | exact Or.inl rfl | exact Or.inr rfl) (pe_lst (pa_cons pe_str (pa_cons pe_str (pa_cons pe_str (pa_cons pe_str (pa_cons pe_str (pa_cons pe_str (pa_cons pe_str (pa_cons pe_str (pa_cons pe_str (pa_cons pe_str (pa_cons pe_str (pa_cons pe_str (pa_cons pe_str (pa_cons pe_str (pa_cons pe_str (pa_cons pe_str (pa_cons pe_str pa_nil)))))))))))))))))))
      (pss_cons (ps_set (i := 8) sc_law.nd rfl (by first | exact Or.inl rfl | exact Or.inr rfl) (pe_op op_cat (pv 8) (pe_lst (pa_cons pe_str (pa_cons pe_str (pa_cons pe_str (pa_cons (pe_op op_repS pe_str pe_int) (pa_cons (pe_op op_add_str (pe_op op_repS pe_str pe_int) pe_str) pa_nil))))))))
      (pss_one (ps_ret (pe_and (pe_callB (cr_all rfl) (by rfl) B.all (by decide +kernel) (pa_cons (pe_lc (own := [("other", 10)]) rfl sc_law.nd (pi_list (pv 8)) (blkOk_by (N := ["script", "state", "text", "handed", "cell", "k", "at", "sign", "some", "peg", "other", "thing"]) (sc := defScope s_law) (by decide +kernel)) (fun _ _ _ _ _ => (pg_name (i := 10) sc_law.nd rfl (by first | exact Or.inl rfl | exact Or.inr rfl))) (fun _ _ _ _ _ => pts_nil) (fun _ _ _ _ _ => (pe_h h_law_right (hr.mono (by decide)) pass0 (pa_cons (pv 10) pa_nil)))) pa_nil)) (pe_one (pe_callB (cr_all rfl) (by rfl) B.all (by decide +kernel) (pa_cons (pe_lc (own := [("thing", 11)]) rfl sc_law.nd (pi_list (pe_lst (pa_cons pe_non (pa_cons pe_int (pa_cons (pe_lst (pa_cons pe_int pa_nil)) (pa_cons pe_bl pa_nil)))))) (blkOk_by (N := ["script", "state", "text", "handed", "cell", "k", "at", "sign", "some", "peg", "other", "thing"]) (sc := defScope s_law) (by decide +kernel)) (fun _ _ _ _ _ => (pg_name (i := 11) sc_law.nd rfl (by first | exact Or.inl rfl | exact Or.inr rfl))) (fun _ _ _ _ _ => pts_nil) (fun _ _ _ _ _ => (pe_h h_law_refused (hr.mono (by decide)) pass0 (pa_cons (pv 11) pa_nil)))) pa_nil))))))))))))), ?_⟩
    try dsimp only [cxOf_K]
    repeat walk_at "s"
    refine ⟨a, ns, 3, rfl, hs, hz, fun s p1 H1 hp hsz n1 s1 h1 => ?_⟩
    repeat walk_at "s"
    refine rd_cut (fun σ' H' => σ' = [some (.ref a), some (.ref p1), some (.str (wrT s)), none, none, none, none, none, none, none, none, none] ∧ Same H1 H') ?_ ?_
    · repeat walk_at "s"
      intro l nl
      have sl := same_new (o := .lst []) nl
      refine rd_neD (p := s = []) (dp_ints (sqL_of (sl _ _ h1))) (dp_ints (ns := []) (sqL_of upd_same)) (good_ints 0 _).good (good_ints 0 []).good dInts_inj ?_
      repeat walk_at "s"
      refine rd_ifN (fun z => ?_) (fun z => ?_)
      · repeat walk_at "s"
        refine ⟨rfl, ?_⟩
        repeat walk_at "s"
        refine rd_rev1 (sqL_of (sl _ _ h1)) fun l2 nl2 => ?_
        have s2 := sl.trans (same_new (o := .lst (s.map V.int).reverse) nl2)
        have hl2 : upd (upd H1 l (.lst [])) l2 (.lst (s.map V.int).reverse) l2 = some (.lst (s.reverse.map V.int)) := by rw [upd_same, List.map_reverse]
        generalize upd (upd H1 l (.lst [])) l2 (.lst (s.map V.int).reverse) = H2 at *
        refine rd_l1 (sqL_of hl2) ?_
        intro c nc
        refine lc_l (xs := s.reverse.map V.int) (fun i H' => Same H2 H' ∧ H' c = some (.lst (((s.reverse.take i).map sg).map V.str))) ⟨same_new nc, upd_same⟩ (fun i H' _ h => sqL_of (h.1 _ _ hl2)) ?_ ?_
        · rintro i x H' hx ⟨eH, hc⟩
          obtain ⟨p, hpx, rfl⟩ := get_int hx
          obtain ⟨cc, hc1, hc2⟩ := sg_at (hp p (List.mem_reverse.mp (List.mem_of_getElem? hpx)))
          refine ⟨rfl, ?_⟩
          repeat walk_at "s"
          refine ⟨_, p, cc, rfl, rfl, sz_of (by decide +kernel), hc1, ?_⟩
          refine ⟨_, hc, sz_lt (by rw [List.length_map, List.length_map, List.length_take, List.length_reverse]; omega), same_mut eH nc, ?_⟩
          rw [upd_same, List.take_add_one, hpx, List.map_append, List.map_append, hc2]
          rfl
        rintro H3 ⟨e3, hc⟩
        rw [List.length_map, List.take_length] at hc
        repeat walk_at "s"
        refine ⟨_, c, s.reverse.map sg, rfl, rfl, .inl (sqL_of hc), ?_, ?_⟩
        · have : ∀ ps : List Int, ((ps.map sg).map fun x => x.length).sum = ps.length := fun ps => by
            induction ps with
            | nil => rfl
            | cons p r ih =>
              rw [List.map_cons, List.map_cons, List.sum_cons, ih, List.length_cons]
              show 1 + r.length = r.length + 1
              omega
          rw [this, List.length_map, List.length_reverse]
          have : (Str.ofString "").length = 0 := by decide +kernel
          rw [this]
          omega
        · have e : Txt.join (Str.ofString "") (s.reverse.map sg) = wrT s := by
            unfold wrT
            rw [if_neg z, ← join_signs, List.map_map]
            rfl
          rw [e]
          exact ⟨rfl, s2.trans e3⟩
      · repeat walk_at "s"
        refine ⟨?_, sl⟩
        unfold wrT
        rw [if_pos z]
        rfl
    rintro σ2 H2 ⟨rfl, e2⟩
    have h12 := e2 _ _ h1
    have e12 := s1.trans e2
    have hwl := wr_len s
    repeat walk_at "s"
    refine rd_listL (sqL_of h12) fun hd nhd => ?_
    have sh := same_new (o := .lst (s.map V.int)) nhd
    have hhd : upd H2 hd (.lst (s.map V.int)) hd = some (.lst (s.map V.int)) := upd_same
    have h13 := sh _ _ h12
    have e13 := e12.trans sh
    generalize upd H2 hd (.lst (s.map V.int)) = H3 at *
    repeat walk_at "s"
    refine ⟨hd, s, rfl, sqL_of hhd, by omega, hp, fun H4 s4 => ?_⟩
    repeat walk_at "s"
    refine rd_ifF (by simp) ?_
    repeat walk_at "s"
    refine rd_neD (p := True) (dp_ints (sqL_of (s4 _ _ hhd))) (dp_ints (sqL_of (s4 _ _ h13))) (good_ints 0 _).good (good_ints 0 _).good (by simp) ?_
    repeat walk_at "s"
    refine ⟨_, rfl, by omega, fun H5 s5 => ?_⟩
    have e15 := (e13.trans s4).trans s5
    repeat walk_at "s"
    refine rd_cell (by decide) (e15.seq hs) fun x1 => ?_
    repeat walk_at "s"
    refine rd_cell (by decide) (e15.seq hs) fun x2 => ?_
    repeat walk_at "s"
    refine rd_r1i (by decide) ?_
    show ForW (Itr 0 3) _ _ _ _ _
    refine for_r (fun i σ H' => ∃ x5 x6 x7 : Option V, σ = [some (.ref a), some (.ref p1), some (.str (wrT s)), some (.ref hd), some (.int (x1 + 7 * x2)), x5, x6, x7, none, none, none, none] ∧ Same H5 H') ⟨none, none, none, rfl, Same.refl _⟩ ?_ ?_
    · rintro i σ H' hi ⟨_, _, _, rfl, eH⟩
      repeat walk_at "s"
      refine ⟨_, rfl, sz_of (by omega), ?_⟩
      repeat walk_at "s"
      refine rd_draw (by omega) fun d1 H6 d10 d11 s6 => ?_
      repeat walk_at "s"
      refine rd_draw (by decide) fun d2 H7 d20 d21 s7 => ?_
      obtain ⟨c, hc⟩ := sign_at d20 d21
      refine ⟨_, d2, c, rfl, rfl, sz_of (by decide +kernel), hc, ?_⟩
      repeat walk_at "s"
      intro t nt
      repeat walk_at "s"
      have s8 := same_new (o := .tup [.str (Str.ofString ""), .str ⟨#[c]⟩]) nt
      refine rd_draw (by decide) fun d3 H8 d30 d31 s9 => ?_
      obtain ⟨sn, hsn, hsl⟩ : ∃ sn : Str, atI [V.str (Str.ofString ""), V.str ⟨#[c]⟩] d3 = some (.str sn) ∧ sn.length ≤ 1 := by
        have : d3 = 0 ∨ d3 = 1 := by omega
        rcases this with rfl | rfl
        · exact ⟨_, rfl, by decide +kernel⟩
        · exact ⟨_, rfl, Nat.le_refl 1⟩
      refine rd_ixT (sqT_of (s9 _ _ upd_same)) hsn ?_
      repeat walk_at "s"
      refine ⟨_, rfl, sz_of (by omega), ?_⟩
      repeat walk_at "s"
      have c1 := cutS_length (wrT s) none (some d1)
      refine ⟨_, _, rfl, rfl, sz_of (by omega), ?_⟩
      repeat walk_at "s"
      refine rd_draw (by decide) fun d4 H9 d40 d41 s10 => ?_
      repeat walk_at "s"
      refine ⟨_, rfl, sz_of (by omega), ?_⟩
      have c2 := cutS_length (wrT s) (some (d1 + d4)) none
      repeat walk_at "s"
      refine ⟨_, _, rfl, rfl, sz_of (by rw [app_len]; omega), ?_⟩
      repeat walk_at "s"
      refine ⟨_, rfl, by rw [app_len, app_len]; omega, fun H10 s11 => ?_⟩
      repeat walk_at "s"
      exact ⟨_, _, _, rfl, eH.trans (s6.trans (s7.trans (s8.trans (s9.trans (s10.trans s11)))))⟩
    rintro σ H6 ⟨_, _, _, rfl, e6⟩
    repeat walk_at "s"
    intro l1 nl1
    repeat walk_at "s"
    refine ⟨_, _, rfl, rfl, by decide, by decide, by decide +kernel, by decide +kernel, ?_⟩
    repeat walk_at "s"
    refine ⟨_, _, rfl, rfl, by decide, by decide, by decide +kernel, by decide +kernel, ?_⟩
    repeat walk_at "s"
    refine ⟨_, _, rfl, rfl, sz_of (by decide +kernel), ?_⟩
    repeat walk_at "s"
    intro l2 nl2
    refine rd_cat (same_new nl2 _ _ upd_same) upd_same (by decide) fun l3 nl3 => ?_
    repeat walk_at "s"
    refine rd_l1 (sqL_of upd_same) ?_
    intro c nc
    refine lc_true (sqL_of upd_same) nc (by decide) (fun _ => rfl) (fun x hx H7 Q7 eH7 hq => ?_) fun H8 s8 h8 => ?_
    · have hx := List.all_eq_true.mp (show List.all _ okT = true by decide +kernel) x hx
      obtain ⟨z, rfl, hzl⟩ := okT_iff hx
      repeat walk_at "s"
      exact ⟨z, rfl, hzl, fun H' s' => hq _ s'⟩
    repeat walk_at "s"
    refine rd_allT h8 ?_
    repeat walk_at "s"
    intro l4 nl4
    repeat walk_at "s"
    intro l5 nl5
    refine rd_l1 (sqL_of upd_same) ?_
    intro c2 nc2
    refine lc_true (sqL_of upd_same) nc2 (by show 4 ≤ 90000; decide) (fun _ => rfl) (fun x hx H9 Q9 eH9 hq => ?_) fun H9 s9 h9 => ?_
    · have hno : NoStr K H9 x := by
        simp only [List.mem_cons, List.not_mem_nil, or_false] at hx
        rcases hx with rfl | rfl | rfl | rfl
        · exact ⟨_, .base .non, by decide +kernel⟩
        · exact ⟨_, ty_int, by decide +kernel⟩
        · exact ⟨_, ty_list (sqL_of (eH9 _ _ (same_new nl5 _ _ upd_same))), by decide +kernel⟩
        · exact ⟨_, .base (.bl _), by decide +kernel⟩
      repeat walk_at "s"
      exact ⟨x, rfl, .inr hno, fun H' s' => hq _ s'⟩
    repeat walk_at "s"
    refine rd_allT h9 ?_
    repeat walk_at "s"
    exact q _
end
end Peg

namespace Peg
open PySem PyProof.Rows L2
theorem rules_of {K : PySem.W.Frag} {mg : Str → Option Value} {h : Heap} {r : Addr} {o : Obj} {its : Array Value} {n : Nat} (X : K.In h) (G : h.Ns mainGlobals mg) (a : PySem.W.nsIn K mainGlobals "RULES" = some (some (.ref r))) (l : K.lookup r = some o)
    (h1 : o.cls = .type "list") (h2 : o.dict = none) (h3 : o.data = .seq its n) (h4 : its.size ≤ sizeLine) (h5 : Vals [.str "free", .str "line", .str "round"] its.toList) : ∃ aR : Addr, mg "RULES" = some (.ref aR) ∧ ∀ H, SqL K H aR [.str "free", .str "line", .str "round"] :=
  ⟨r, PySem.W.mg_of X G a, fun H => .inr ⟨o, its, n, l, h1, h2, h3, h4, h5⟩⟩
theorem errs_go {K : PySem.W.Frag} {mg : Str → Option Value} {C : Prop} {h : Heap} {x : Str} {c : Addr} (X : K.In h) (G : h.Ns mainGlobals mg) (a : PySem.W.nsIn K mainGlobals x = some (some (.ref c))) (go : mg x = some (.ref c) → C) : C := go (PySem.W.mg_of X G a)
theorem exc_go {K : PySem.W.Frag} {mg : Str → Option Value} {Q : Prop} {h : Heap} {x : Str} {C : Addr} (X : K.In h) (g : mg x = some (.ref C)) (e : PySem.W.excIn K C [.type "ValueError", .type "Exception", .type "BaseException", .type "object"] "ValueError.__new__" = true)
    (k : PySem.W.keepIn K (.ref C) = true) (b : PySem.W.subIn K (.ref C) (.type "BaseException") = some true) (t : PySem.W.typeIn K (.ref C) = some (.type "type")) (go : Exc K mg x C → Q) : Q := go ⟨g, e, k, b, t⟩
theorem ec_go {K : PySem.W.Frag} {mg : Str → Option Value} {Q : Prop} {h : Heap} {x : Str} {D : Addr} (X : K.In h) (g : mg x = some (.ref D)) (hg : PySem.W.findIn K (.ref D) "__getattribute__" = some (some (.builtin "BaseException.__getattribute__")))
    (hk : PySem.W.findIn K (.ref D) "__getattr__" = some none) (hs : PySem.W.subIn K (.ref D) (.type "BaseException") = some true) (hd : PySem.W.hasDictIn K D = true) (ha : PySem.W.findIn K (.ref D) "__class__" = some (some (.builtin "object.__class__")))
    (hn : PySem.W.specialIn K (.builtin "object.__class__") "__get__" = some (some (.builtin "getset_descriptor.__get__"))) (ht : PySem.W.takesIn K (.builtin "object.__class__") = some true) (hm : PySem.W.mroIn K D (.type "object") = some true) (go : ExcC K D → Q) : Q := go ⟨hg, hk, hs, hd, ha, hn, ht, hm⟩
theorem exm_go {K : PySem.W.Frag} {mg : Str → Option Value} {Q : Prop} {h : Heap} {x y : Str} {D C : Addr} (X : K.In h) (g : mg x = some (.ref D)) (g2 : mg y = some (.ref C)) (h1 : PySem.W.subIn K (.ref C) (.type "BaseException") = some true) (hd : PySem.W.hasDictIn K C = true) (ht : PySem.W.typeIn K (.ref C) = some (.type "type"))
    (h4 : PySem.W.subIn K (.ref D) (.ref C) = some true) (go : PySem.W.exmOne K (.ref D) (.ref C) = some true → Q) : Q := go (PySem.W.exm_ref h1 hd ht h4)
theorem kit_go {K : PySem.W.Frag} {mg : Str → Option Value} {Q : Prop} {h : Heap} {x y : Str} {D C : Addr} (b : Bool) (X : K.In h) (g : mg x = some (.ref D)) (g2 : mg y = some (.ref C)) (hd : PySem.W.hasDictIn K C = true) (ht : PySem.W.typeIn K (.ref C) = some (.type "type")) (h4 : PySem.W.subIn K (.ref D) (.ref C) = some b) (ne : (D == C) = false)
    (go : PySem.W.kitOne K (.ref D) (.ref C) = some b → Q) : Q := go (kit_ref hd ht h4 ne)
theorem kitT_go {K : PySem.W.Frag} {mg : Str → Option Value} {Q : Prop} {h : Heap} {x : Str} {c : String} {D : Addr} (b : Bool) (X : K.In h) (g : mg x = some (.ref D)) (hm : PySem.W.kitMeta c = true) (h4 : PySem.W.subIn K (.ref D) (.type c) = some b) (go : PySem.W.kitOne K (.ref D) (.type c) = some b → Q) : Q := go (kit_typ hm h4)
end Peg
open PySem PySem.W PyProof.Rows
set_option maxHeartbeats 0 in
theorem PySem.Challenge.cw_pegtowers_k06_written_holds : PySem.Challenge.rw_pegtowers_k06_written.Holds := by
  w_on; o_law; k_head; (case hw => w_witness2)
  k_fill
  refine L2.walk_of (l := PySem.Challenge.rw_pegtowers_k06_written) (n := 63) (k := 6) (x := "script") (CX := fun _ => L2.CX0) (sp := fun w => Peg.sp_law _) rfl (by decide) rfl ⟨rfl, by decide, by decide⟩ (fun w h Y => PySem.W.kIn_of Y) ?F (fun _ _ a ns hl _ hS => ⟨a, ns, rfl, hS, hl, fun _ => rfl⟩) (fun _ _ _ _ _ h => h)
  case F =>
    intro w mg fa h KX G hmg
    have B : Peg.Blt mg := by
      constructor <;> (refine' PySem.W.mg_none_of KX G ?z; (case z => k_is))
    refine' Peg.df_go (x := "is_whole") (st := Peg.s_is_whole) (ps := ["thing"]) KX G ?a0 ?l0 ?c0 ?k0 (fun _ _ _ _ _ _ us hl => match us, hl with | [_], _ => rfl) ?go0
    (case a0 => k_is); (case l0 => k_is); (case c0 => k_is); (case k0 => k_is)
    intro D_is_whole
    refine' Peg.df_go (x := "is_peg") (st := Peg.s_is_peg) (ps := ["thing"]) KX G ?a1 ?l1 ?c1 ?k1 (fun _ _ _ _ _ _ us hl => match us, hl with | [_], _ => rfl) ?go1
    (case a1 => k_is); (case l1 => k_is); (case c1 => k_is); (case k1 => k_is)
    intro D_is_peg
    refine' Peg.df_go (x := "check_state") (st := Peg.s_check_state) (ps := ["state"]) KX G ?a2 ?l2 ?c2 ?k2 (fun _ _ _ _ _ _ us hl => match us, hl with | [_], _ => rfl) ?go2
    (case a2 => k_is); (case l2 => k_is); (case c2 => k_is); (case k2 => k_is)
    intro D_check_state
    refine' Peg.df_go (x := "written") (st := Peg.s_written) (ps := ["state"]) KX G ?a3 ?l3 ?c3 ?k3 (fun _ _ _ _ _ _ us hl => match us, hl with | [_], _ => rfl) ?go3
    (case a3 => k_is); (case l3 => k_is); (case c3 => k_is); (case k3 => k_is)
    intro D_written
    refine' Peg.df_go (x := "read") (st := Peg.s_read) (ps := ["text"]) KX G ?a4 ?l4 ?c4 ?k4 (fun _ _ _ _ _ _ us hl => match us, hl with | [_], _ => rfl) ?go4
    (case a4 => k_is); (case l4 => k_is); (case c4 => k_is); (case k4 => k_is)
    intro D_read
    refine' Peg.df_go (x := "_law_cell_at") (st := Peg.s_law_cell_at) (ps := ["script", "k"]) KX G ?a5 ?l5 ?c5 ?k5 (fun _ _ _ _ _ _ us hl => match us, hl with | [_, _], _ => rfl) ?go5
    (case a5 => k_is); (case l5 => k_is); (case c5 => k_is); (case k5 => k_is)
    intro D_law_cell_at
    refine' Peg.df_go (x := "_law_draw") (st := Peg.s_law_draw) (ps := ["cell", "k", "many"]) KX G ?a6 ?l6 ?c6 ?k6 (fun _ _ _ _ _ _ us hl => match us, hl with | [_, _, _], _ => rfl) ?go6
    (case a6 => k_is); (case l6 => k_is); (case c6 => k_is); (case k6 => k_is)
    intro D_law_draw
    refine' Peg.df_go (x := "_law_state") (st := Peg.s_law_state) (ps := ["script", "by"]) KX G ?a7 ?l7 ?c7 ?k7 (fun _ _ _ _ _ _ us hl => match us, hl with | [_, _], _ => rfl) ?go7
    (case a7 => k_is); (case l7 => k_is); (case c7 => k_is); (case k7 => k_is)
    intro D_law_state
    refine' Peg.df_go (x := "_law_whole") (st := Peg.s_law_whole) (ps := ["number"]) KX G ?a10 ?l10 ?c10 ?k10 (fun _ _ _ _ _ _ us hl => match us, hl with | [_], _ => rfl) ?go10
    (case a10 => k_is); (case l10 => k_is); (case c10 => k_is); (case k10 => k_is)
    intro D_law_whole
    refine' Peg.df_go (x := "_law_refused") (st := Peg.s_law_refused) (ps := ["text"]) KX G ?a11 ?l11 ?c11 ?k11 (fun _ _ _ _ _ _ us hl => match us, hl with | [_], _ => rfl) ?go11
    (case a11 => k_is); (case l11 => k_is); (case c11 => k_is); (case k11 => k_is)
    intro D_law_refused
    refine' Peg.df_go (x := "_law_right") (st := Peg.s_law_right) (ps := ["text"]) KX G ?a12 ?l12 ?c12 ?k12 (fun _ _ _ _ _ _ us hl => match us, hl with | [_], _ => rfl) ?go12
    (case a12 => k_is); (case l12 => k_is); (case c12 => k_is); (case k12 => k_is)
    intro D_law_right
    refine' Peg.df_go (x := "law") (st := Peg.s_law) (ps := ["script"]) KX G ?a13 ?l13 ?c13 ?k13 (fun _ _ _ _ _ _ us hl => match us, hl with | [_], _ => rfl) ?go13
    (case a13 => k_is); (case l13 => k_is); (case c13 => k_is); (case k13 => k_is)
    intro D_law
    refine' Peg.errs_go (x := "TowerError") KX G ?ncT ?gcT
    (case ncT => k_is)
    intro g_TowerError
    refine' Peg.errs_go (x := "BadRule") KX G ?ncR ?gcR
    (case ncR => k_is)
    intro g_BadRule
    refine' Peg.errs_go (x := "BadState") KX G ?ncS ?gcS
    (case ncS => k_is)
    intro g_BadState
    refine' Peg.errs_go (x := "BadPeg") KX G ?ncP ?gcP
    (case ncP => k_is)
    intro g_BadPeg
    refine' Peg.errs_go (x := "BadMove") KX G ?ncM ?gcM
    (case ncM => k_is)
    intro g_BadMove
    refine' Peg.errs_go (x := "BadNumber") KX G ?ncN ?gcN
    (case ncN => k_is)
    intro g_BadNumber
    refine' Peg.errs_go (x := "Unlike") KX G ?ncU ?gcU
    (case ncU => k_is)
    intro g_Unlike
    refine' Peg.errs_go (x := "BadText") KX G ?ncX ?gcX
    (case ncX => k_is)
    intro g_BadText
    have XE : Peg.Errs mg _ _ _ _ _ _ _ _ := ⟨g_TowerError, g_BadRule, g_BadState, g_BadPeg, g_BadMove, g_BadNumber, g_Unlike, g_BadText⟩
    have BV : mg "ValueError" = none := by
      refine' PySem.W.mg_none_of KX G ?z
      case z => k_is
    refine' Peg.exc_go KX g_BadText ?exBadText ?ekBadText ?ebBadText ?etBadText ?egBadText
    (case exBadText => k_exc); (case ekBadText => k_is); (case ebBadText => k_is); (case etBadText => k_is)
    intro BadText_
    refine' Peg.ec_go KX g_BadText ?c1BadText ?c2BadText ?c3BadText ?c4BadText ?c5BadText ?c6BadText ?c7BadText ?c8BadText ?c9BadText
    (case c1BadText => k_is); (case c2BadText => k_is); (case c3BadText => k_is); (case c4BadText => k_is); (case c5BadText => k_is); (case c6BadText => k_is); (case c7BadText => k_is); (case c8BadText => k_is)
    intro EC
    refine' Peg.exm_go KX g_BadText g_TowerError ?m1BadText ?m2BadText ?m3BadText ?m4BadText ?m5BadText
    (case m1BadText => k_is); (case m2BadText => k_is); (case m3BadText => k_is); (case m4BadText => k_is)
    intro tm
    refine' Peg.kit_go false KX g_BadText g_BadRule ?k1i1 ?k2i1 ?k3i1 (by decide) ?k4i1
    (case k1i1 => k_is); (case k2i1 => k_is); (case k3i1 => k_is)
    intro i1
    refine' Peg.kit_go false KX g_BadText g_BadState ?k1i2 ?k2i2 ?k3i2 (by decide) ?k4i2
    (case k1i2 => k_is); (case k2i2 => k_is); (case k3i2 => k_is)
    intro i2
    refine' Peg.kit_go false KX g_BadText g_BadPeg ?k1i3 ?k2i3 ?k3i3 (by decide) ?k4i3
    (case k1i3 => k_is); (case k2i3 => k_is); (case k3i3 => k_is)
    intro i3
    refine' Peg.kit_go false KX g_BadText g_BadMove ?k1i4 ?k2i4 ?k3i4 (by decide) ?k4i4
    (case k1i4 => k_is); (case k2i4 => k_is); (case k3i4 => k_is)
    intro i4
    refine' Peg.kit_go false KX g_BadText g_BadNumber ?k1i5 ?k2i5 ?k3i5 (by decide) ?k4i5
    (case k1i5 => k_is); (case k2i5 => k_is); (case k3i5 => k_is)
    intro i5
    refine' Peg.kit_go false KX g_BadText g_Unlike ?k1i6 ?k2i6 ?k3i6 (by decide) ?k4i6
    (case k1i6 => k_is); (case k2i6 => k_is); (case k3i6 => k_is)
    intro i6
    refine' Peg.kitT_go (c := "ValueError") true KX g_BadText (by decide +kernel) ?k1i7 ?k2i7
    (case k1i7 => k_is)
    intro i7
    obtain ⟨f0, fd0, D⟩ := D_law
    have e := hmg.symm.trans D.gl
    cases e
    refine ⟨fd0, fun s v => .of_eq (D.ba [v] rfl), fun base _ _ => ?_⟩
    have h_is_whole := Peg.ok_is_whole (P := PySem.Challenge.rw_pegtowers_k06_written.prog) (w := w) (base := base) D_is_whole B
    have h_is_peg := Peg.ok_is_peg D_is_peg h_is_whole
    have h_check_state := Peg.ok_check_state D_check_state B h_is_peg
    have h_written := Peg.ok_written D_written B h_check_state
    have h_read := Peg.ok_read (P := PySem.Challenge.rw_pegtowers_k06_written.prog) (w := w) (base := base) D_read B BadText_
    have h_cell := Peg.ok_cell (P := PySem.Challenge.rw_pegtowers_k06_written.prog) (w := w) (base := base) D_law_cell_at B
    have h_draw := Peg.ok_draw (P := PySem.Challenge.rw_pegtowers_k06_written.prog) (w := w) (base := base) D_law_draw
    have h_state := Peg.ok_state D_law_state B h_cell h_draw
    have h_whole := Peg.ok_whole (P := PySem.Challenge.rw_pegtowers_k06_written.prog) (w := w) (base := base) D_law_whole B
    have h_refused := Peg.ok_refused D_law_refused B BV XE EC tm i1 i2 i3 i4 i5 i6 i7 Peg.kit_self h_read
    have h_right := Peg.ok_rightT D_law_right B h_refused h_read h_written h_whole
    exact Peg.ok_law D B h_state h_cell h_draw h_written h_refused h_right
#print axioms PySem.Challenge.cw_pegtowers_k06_written_holds
