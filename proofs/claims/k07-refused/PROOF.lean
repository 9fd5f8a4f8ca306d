import PyProof.Rows.All
import Wide.All
import OpenK.AllK
import Wide.FinOn
import HandS.ForMost
import HandS.Style
import HandS.RevRange
import HandS.IsInst
import HandS.Evl
import HandS.ForExc
import HandS.ExcCtx
import HandS.ExcIs
import HandS.HotCalls
import HandS.CallLocal
import HandS.Deep
import HandS.Steps
import HandS.Conv
import HandS.Iter
import HandS.Dict
import PySem.Challenge.RW_pegtowers_k07_refused
set_option Elab.async false
set_option linter.all false
set_option maxRecDepth 100000
namespace Peg
open PySem PyProof.Rows L2

/-! ### defs of the text and what they promise, by name -/
structure DefAt (K : PySem.W.Frag) (mg : Str → Option Value) (x : Str) (st : Stmt) (ps : List Str) (f : Addr) (fd : FuncData) : Prop where
  fn : Fun K x x st f fd
  gl : mg x = some (.ref f)
  ba : ∀ us : List Value, us.length = ps.length → bindArgs fd ⟨us, []⟩ = pure (ps.zip us)
theorem DefAt.bi {K : PySem.W.Frag} {mg : Str → Option Value} {x : Str} {st : Stmt} {ps : List Str} {f : Addr} {fd : FuncData} (D : DefAt K mg x st ps f fd) : Binds K fd ps [] := .all D.ba
/-- the def st stands at the name x -/
def Df (K : PySem.W.Frag) (mg : Str → Option Value) (x : Str) (st : Stmt) (ps : List Str) : Prop := ∃ f fd, DefAt K mg x st ps f fd
/-- the def at the name x keeps the promise sp -/
def Has (P : Program) (w : World) (K : PySem.W.Frag) (mg : Str → Option Value) (base : Heap) (CX : CXT) (k : Nat) (x : Str) (ps : List Str) (sp : Sp) : Prop :=
  ∃ f fd, FnOk P w K mg base CX k f fd ps sp ∧ mg x = some (.ref f) ∧ PySem.W.keepIn K (.ref f) = true ∧ Binds K fd ps []
section
variable {P : Program} {w : World} {K : PySem.W.Frag} {mg : Str → Option Value} {base : Heap}
theorem Df.ok {x : Str} {st : Stmt} {N ps : List Str} {k : Nat} {sp : Sp} (D : Df K mg x st ps) (S : FnScope N ps (defScope st)) (len : ∀ vs H Q E, sp vs H Q E → vs.length = ps.length)
    (hbody : ∀ (f : Addr) (cdv : Value) (A : Around) (outer : List Env) (s : Shared) (H : Hp) (vs : List V) (Q : VK) (E : XK), Room k (A.deeper (envOfC x (defScope st) s.heap.objs.size f cdv)) → sp vs H Q E →
      ∃ t, PSs (cxOf CX0 P w K mg base N x (defScope st) f cdv A outer s H E).nox (defBody st) t ∧ t { nx := fun _ H' => Q .non H', rt := Q } (start N vs) H) : Has P w K mg base CX0 (k + 1) x ps sp := by
  obtain ⟨f, fd, D⟩ := D
  exact ⟨f, fd, D.fn.ok S len (fun cdv A outer s H vs Q E hr h => hbody f cdv A outer s H vs Q E hr h), D.gl, D.fn.kp, D.bi⟩
theorem DefAt.okF {x : Str} {st : Stmt} {N ps : List Str} {k : Nat} {sp : Sp} {f : Addr} {fd : FuncData} (D : DefAt K mg x st ps f fd) (S : FnScope N ps (defScope st)) (len : ∀ vs H Q E, sp vs H Q E → vs.length = ps.length)
    (hbody : ∀ (f : Addr) (cdv : Value) (A : Around) (outer : List Env) (s : Shared) (H : Hp) (vs : List V) (Q : VK) (E : XK), Room k (A.deeper (envOfC x (defScope st) s.heap.objs.size f cdv)) → sp vs H Q E →
      ∃ t, PSs (cxOf CX0 P w K mg base N x (defScope st) f cdv A outer s H E).nox (defBody st) t ∧ t { nx := fun _ H' => Q .non H', rt := Q } (start N vs) H) : FnOk P w K mg base CX0 (k + 1) f fd ps sp :=
  D.fn.ok S len (fun cdv A outer s H vs Q E hr h => hbody f cdv A outer s H vs Q E hr h)
/-- what the top has written of a def -/
theorem df_mk {h : Heap} {x : Str} {st : Stmt} {ps : List Str} {f : Addr} {od an : Option Addr} {sl : Array (Option Value)} {oc kV dc pm cd ct : Value} (X : K.In h) (G : h.Ns mainGlobals mg)
    (a : PySem.W.nsIn K mainGlobals x = some (some (.ref f))) (l : K.lookup f = some ⟨oc, od, .func (PySem.W.fnOf x x (defArgs st) (defBody st) (defScope st) .none kV dc pm an cd ct), sl⟩) (c : PySem.W.codeIn K cd x = true) (k : PySem.W.keepIn K (.ref f) = true)
    (b : ∀ (kV doc pm : Value) (an : Option Addr) (cdv ct : Value) (us : List Value), us.length = ps.length → bindArgs (PySem.W.fnOf x x (defArgs st) (defBody st) (defScope st) .none kV doc pm an cdv ct) ⟨us, []⟩ = pure (ps.zip us)) : Df K mg x st ps :=
  ⟨f, _, fun_mk l c k, PySem.W.mg_of X G a, b _ _ _ _ _ _⟩
theorem df_go {C : Prop} {h : Heap} {x : Str} {st : Stmt} {ps : List Str} {f : Addr} {od an : Option Addr} {sl : Array (Option Value)} {oc kV dc pm cd ct : Value} (X : K.In h) (G : h.Ns mainGlobals mg)
    (a : PySem.W.nsIn K mainGlobals x = some (some (.ref f))) (l : K.lookup f = some ⟨oc, od, .func (PySem.W.fnOf x x (defArgs st) (defBody st) (defScope st) .none kV dc pm an cd ct), sl⟩) (c : PySem.W.codeIn K cd x = true) (k : PySem.W.keepIn K (.ref f) = true)
    (b : ∀ (kV doc pm : Value) (an : Option Addr) (cdv ct : Value) (us : List Value), us.length = ps.length → bindArgs (PySem.W.fnOf x x (defArgs st) (defBody st) (defScope st) .none kV doc pm an cdv ct) ⟨us, []⟩ = pure (ps.zip us)) (go : Df K mg x st ps → C) : C :=
  go (df_mk X G a l c k b)
theorem Has.mono {CX : CXT} {j k : Nat} {x : Str} {ps : List Str} {sp : Sp} (h : Has P w K mg base CX j x ps sp) (l : j ≤ k) : Has P w K mg base CX k x ps sp := by
  obtain ⟨f, fd, F, a, b, c⟩ := h
  exact ⟨f, fd, F.mono l, a, b, c⟩
end
theorem pe_h {X : Cx} {CX : CXT} {k : Nat} {x : Str} {ps : List Str} {sp : Sp} {E : XK} {p pos : Pos} {e : Expr} {es : List Expr} {t : TA} (h : Has X.prog X.w X.K X.mg X.base CX k x ps sp) (hr : Room k X.A) (hx : Passes CX X E) (ha : PA X (e :: es) t) (hg : Gl X x := by rfl)
    (hdb : (x == ("__debug__" : Str)) = false := by decide) (he : starEach (e :: es) X.env = (false, eval e X.env) :: starEach es X.env := by rfl) (hpl : (backTo pos (starEach es X.env)).any (·.1) = false := by rfl) :
    PE X (.Call (.Name x p) (e :: es) [] pos) (tCall sp [] E t) := by
  obtain ⟨f, fd, F, hm, hk, hb⟩ := h
  exact pe_call F hr hg hm hk hb .nil hx ha hdb he hpl

/-! ### readings, step by step -/
section
variable {nx bk ct : L2.St → Hp → Prop} {rt : VK} {σ : L2.St} {H : Hp} {t u : TS} {te ta tb : TE} {tc td : TT} {i : Nat} {Q : VK} {QB : Bool → Hp → Prop} {v x y z : V} {QA : List V → Hp → Prop}
theorem rd_seq (h : t ⟨u ⟨nx, rt, bk, ct⟩, rt, bk, ct⟩ σ H) : tSeq t u ⟨nx, rt, bk, ct⟩ σ H := h
theorem rd_next (h : nx σ H) : tNext ⟨nx, rt, bk, ct⟩ σ H := h
theorem rd_asgN (h : te σ H fun v H' => nx (σ.set i (some v)) H') : tAsg te (gName i) ⟨nx, rt, bk, ct⟩ σ H := h
theorem rd_asgT {K : PySem.W.Frag} {n : Nat} {g : TGs} (h : te σ H fun v H' => gTup K n g v σ H' nx) : tAsg te (gTup K n g) ⟨nx, rt, bk, ct⟩ σ H := h
theorem rd_ret (h : te σ H rt) : tRet te ⟨nx, rt, bk, ct⟩ σ H := h
theorem rd_retN (h : rt .non H) : tRetN ⟨nx, rt, bk, ct⟩ σ H := h
theorem rd_drop (h : te σ H fun _ H' => nx σ H') : tDrop te ⟨nx, rt, bk, ct⟩ σ H := h
theorem rd_ifs (h : tc σ H fun b H1 => if b = true then t ⟨nx, rt, bk, ct⟩ σ H1 else u ⟨nx, rt, bk, ct⟩ σ H1) : tIfS tc t u ⟨nx, rt, bk, ct⟩ σ H := h
theorem rd_aug {ti : TIp} (e : σ[i]? = some (some x)) (h : te σ H fun y H1 => ti x y H1 fun z H2 => nx (σ.set i (some z)) H2) : tAug i te ti ⟨nx, rt, bk, ct⟩ σ H := ⟨x, e, h⟩
theorem rd_ipI {f : Int → Int → Int} {a b : Int} (h : Q (.int (f a b)) H) : ipI f (.int a) (.int b) H Q := ⟨a, b, rfl, rfl, h⟩
theorem rd_par {j : Nat} {tA : TA} (h : tA σ H fun vs H1 => ∃ v w, vs = [v, w] ∧ nx ((σ.set i (some v)).set j (some w)) H1) : tPar i j tA ⟨nx, rt, bk, ct⟩ σ H := h
theorem rd_par2 {w : V} {R : V → V → Prop} (h : R v w) : ∃ a b, [v, w] = [a, b] ∧ R a b := ⟨v, w, rfl, h⟩
theorem rd_par3 {j l : Nat} {tA : TA} (h : tA σ H fun vs H1 => ∃ u v w, vs = [u, v, w] ∧ nx (((σ.set i (some u)).set j (some v)).set l (some w)) H1) : tPar3 i j l tA ⟨nx, rt, bk, ct⟩ σ H := h
theorem rd_par33 {w : V} {R : V → V → V → Prop} (h : R x v w) : ∃ a b c, [x, v, w] = [a, b, c] ∧ R a b c := ⟨x, v, w, rfl, h⟩
theorem rd_var (e : σ[i]? = some (some v)) (h : Q v H) : tVar i σ H Q := ⟨v, e, h⟩
theorem rd_c (h : Q v H) : tC v σ H Q := h
theorem rd_op {r : R2} (h : ta σ H fun x H1 => tb σ H1 fun y H2 => r x y H2 Q) : tOp r ta tb σ H Q := h
theorem rd_un {r : V → Hp → VK → Prop} (h : ta σ H fun x H1 => r x H1 Q) : tUn r ta σ H Q := h
theorem rd_rU {g : Int → V} {a : Int} (h : Q (g a) H) : rU g (.int a) H Q := ⟨a, rfl, h⟩
theorem rd_rI0 {g : Int → Int → V} {a b : Int} (h : Q (g a b) H) : rI0 g (.int a) (.int b) H Q := ⟨a, b, rfl, rfl, h⟩
theorem rd_rI {C : Int → Int → Prop} {g : Int → Int → V} {a b : Int} (c : C a b) (h : Q (g a b) H) : rI C g (.int a) (.int b) H Q := ⟨a, b, rfl, rfl, c, h⟩
theorem rd_rEq (c : scal x y = true) (h : Q (.bl (decide (x = y))) H) : rEq x y H Q := ⟨c, h⟩
theorem rd_rNe (c : scal x y = true) (h : Q (.bl (!decide (x = y))) H) : rNe x y H Q := ⟨c, h⟩
theorem rd_test (h : te σ H fun x H1 => ∃ k, x = .bl k ∧ QB k H1) : tTest te σ H QB := h
theorem rd_tB (h : te σ H fun x H1 => ∃ k, x = .bl k ∧ QB k H1) : tB te σ H QB := h
theorem rd_bl {b : Bool} {R : Bool → Prop} (h : R b) : ∃ k, V.bl b = .bl k ∧ R k := ⟨b, rfl, h⟩
theorem rd_and (h : tc σ H fun c H1 => if c = true then td σ H1 QB else QB false H1) : tAnd tc td σ H QB := h
theorem rd_or (h : tc σ H fun c H1 => if c = true then QB true H1 else td σ H1 QB) : tOr tc td σ H QB := h
theorem rd_not (h : tc σ H fun c H1 => QB (!c) H1) : tNot tc σ H QB := h
theorem rd_andV (h : ta σ H fun x H1 => ∃ c, x = .bl c ∧ if c = true then tb σ H1 Q else Q (.bl false) H1) : tAndV ta tb σ H Q := h
theorem rd_orV (h : ta σ H fun x H1 => ∃ c, x = .bl c ∧ if c = true then Q (.bl true) H1 else tb σ H1 Q) : tOrV ta tb σ H Q := h
theorem rd_notV (h : ta σ H fun x H1 => ∃ c, x = .bl c ∧ Q (.bl (!c)) H1) : tNotV ta σ H Q := h
theorem rd_ife (h : tc σ H fun c H1 => if c = true then ta σ H1 Q else tb σ H1 Q) : tIf tc ta tb σ H Q := h
theorem rd_nil (h : QA [] H) : tNil σ H QA := h
theorem rd_cons {tr : TA} (h : te σ H fun x H1 => tr σ H1 fun xs H2 => QA (x :: xs) H2) : tCons te tr σ H QA := h
theorem rd_call {sp : Sp} {dvs : List V} {E : XK} {tA : TA} (h : tA σ H fun vs H1 => sp (vs ++ dvs) H1 Q E) : tCall sp dvs E tA σ H Q := h
theorem rd_cb {r : List V → Hp → VK → Prop} {tA : TA} (h : tA σ H fun vs H1 => r vs H1 Q) : tCB r tA σ H Q := h
theorem rd_bm {K : PySem.W.Frag} {T : String} {r : V → List V → Hp → VK → Prop} {tA : TA} (h : te σ H fun x H1 => tyV K T x H1 ∧ tA σ H1 fun xs H2 => r x xs H2 Q) : tBM K T r te tA σ H Q := h
theorem rd_bm0 {K : PySem.W.Frag} {T : String} {r : V → List V → Hp → VK → Prop} (h : te σ H fun x H1 => tyV K T x H1 ∧ r x [] H1 Q) : tBM0 K T r te σ H Q := h
theorem rd_gN {R : L2.St → Hp → Prop} (h : R (σ.set i (some v)) H) : gName i v σ H R := h
theorem sz_of {n : Nat} (h : n ≤ 100000) : n ≤ sizeLine := Nat.le_trans h (by decide)
theorem sz_lt {n : Nat} (h : n < 100000) : n < sizeLine := Nat.lt_of_lt_of_le h (by decide)
/-- a new tuple, a new list: what stood stands -/
theorem same_new {H : Hp} {p : Addr} {o : HO} (h : H p = none) : Same H (upd H p o) := fun b x e => by
  rw [upd_ne (ne_of_none e h)]
  exact e
theorem rd_tup {tA : TA} (h : tA σ H fun xs H1 => xs.length ≤ sizeLine ∧ ∀ p, H1 p = none → Q (.ref p) (upd H1 p (.tup xs))) : tTup tA σ H Q := h
theorem rd_lst {tA : TA} (h : tA σ H fun xs H1 => xs.length ≤ sizeLine ∧ ∀ p, H1 p = none → Q (.ref p) (upd H1 p (.lst xs))) : tLst tA σ H Q := h
/-- items -/
theorem rd_ixL {K : PySem.W.Frag} {p : Addr} {xs : List V} {i : Int} (h : SqL K H p xs) (a : atI xs i = some v) (q : Q v H) : rIxL K (.ref p) (.int i) H Q := ⟨p, xs, i, v, rfl, rfl, h, a, q⟩
theorem rd_ixT {K : PySem.W.Frag} {p : Addr} {xs : List V} {i : Int} (h : SqT K H p xs) (a : atI xs i = some v) (q : Q v H) : rIxT K (.ref p) (.int i) H Q := ⟨p, xs, i, v, rfl, rfl, h, a, q⟩
theorem rd_gT {K : PySem.W.Frag} {n : Nat} {g : TGs} {R : L2.St → Hp → Prop} {p : Addr} {xs : List V} (h : SqT K H p xs) (l : xs.length = n) (q : g xs σ H R) : gTup K n g (.ref p) σ H R := ⟨p, xs, rfl, h, l, q⟩
theorem rd_gC {g : TG} {gs : TGs} {r : List V} {R : L2.St → Hp → Prop} (q : g v σ H fun σ' H' => gs r σ' H' R) : gCons g gs (v :: r) σ H R := ⟨v, r, rfl, q⟩
theorem rd_gNil {R : L2.St → Hp → Prop} (q : R σ H) : gNil [] σ H R := ⟨rfl, q⟩
theorem tyV_l {K : PySem.W.Frag} {H : Hp} {p : Addr} {xs : List V} (h : SqL K H p xs) : tyV K "list" (.ref p) H := .inl ⟨rfl, _, h⟩
theorem rd_app {p : Addr} {xs : List V} (h : H p = some (.lst xs)) (l : xs.length < sizeLine) (q : Q .non (upd H p (.lst (xs ++ [v])))) : rAppend (.ref p) [v] H Q := ⟨p, xs, v, rfl, rfl, h, l, q⟩
theorem sqL_of {K : PySem.W.Frag} {p : Addr} {xs : List V} (h : H p = some (.lst xs)) : SqL K H p xs := .inl (.inl h)
theorem sqT_of {K : PySem.W.Frag} {p : Addr} {xs : List V} (h : H p = some (.tup xs)) : SqT K H p xs := .inl (.inl h)
theorem sqT_mono {K : PySem.W.Frag} {H' : Hp} {p : Addr} {xs : List V} (e : Same H H') (h : SqT K H p xs) : SqT K H' p xs := by
  rcases h with (h | ⟨o, h⟩) | h
  · exact .inl (.inl (e _ _ h))
  · exact .inl (.inr ⟨o, e _ _ h⟩)
  · exact .inr h
/-- a list that was not there may change -/
theorem same_mut {H H' : Hp} {p : Addr} {o : HO} (e : Same H H') (h : H p = none) : Same H (upd H' p o) := fun a u ha => by
  rw [upd_ne (ne_of_none ha h)]
  exact e a u ha
theorem rd_len {K : PySem.W.Frag} {p : Addr} {xs : List V} (h : SqL K H p xs) (q : Q (.int xs.length) H) : ∃ a ys, [V.ref p] = [.ref a] ∧ (SqL K H a ys ∨ SqT K H a ys) ∧ Q (.int ys.length) H := ⟨p, xs, rfl, .inl h, q⟩
theorem atI_neg1 {xs : List V} {v : V} : atI (xs ++ [v]) (-1) = some v := atI_last _ _
end
section
variable {H : Hp} {Q : VK} {a b : Int} {X : Cx}
theorem V.int_dec (a b : Int) : decide (V.int a = V.int b) = decide (a = b) := by
  by_cases h : a = b
  · subst h
    rw [decide_eq_true rfl, decide_eq_true rfl]
  · rw [decide_eq_false h, decide_eq_false fun q => h (V.int.inj q)]
theorem rd_eqI (h : Q (.bl (decide (a = b))) H) : rEq (.int a) (.int b) H Q := ⟨rfl, by
  rw [← V.int_dec] at h
  exact h⟩
theorem rd_neI (h : Q (.bl (!decide (a = b))) H) : rNe (.int a) (.int b) H Q := ⟨rfl, by
  rw [← V.int_dec] at h
  exact h⟩
theorem rd_neB {a b : Bool} (h : Q (.bl (a != b)) H) : rNe (.bl a) (.bl b) H Q := ⟨rfl, by
  have e : (!decide (V.bl a = V.bl b)) = (a != b) := by cases a <;> cases b <;> rfl
  rw [e]
  exact h⟩
theorem szb {n : Nat} (h : Nat.ble n 100000 = true) : n ≤ sizeLine := Nat.le_trans (Nat.le_of_ble_eq_true h) (by decide)
theorem rd_sz {A : Prop} {n : Nat} (c : Nat.ble n 100000 = true) (h : A) : n ≤ sizeLine ∧ A := ⟨szb c, h⟩
def iabs (n : Int) : Int := if n < 0 then -n else n
def rAbs : List V → Hp → VK → Prop := fun xs H Q => ∃ i, xs = [.int i] ∧ Q (.int (iabs i)) H
theorem ca_abs : CallR X (.builtin "abs") rAbs := call_abs
theorem rd_abs (h : Q (.int (iabs a)) H) : rAbs [.int a] H Q := ⟨a, rfl, h⟩
def rLen (K : PySem.W.Frag) : List V → Hp → VK → Prop := fun xs H Q => ∃ p ys, xs = [.ref p] ∧ (SqL K H p ys ∨ SqT K H p ys) ∧ Q (.int ys.length) H
theorem ca_len : CallR X (.builtin "len") (rLen X.K) := call_len_seq
theorem rd_lenL {K : PySem.W.Frag} {p : Addr} {xs : List V} (h : SqL K H p xs) (q : Q (.int xs.length) H) : rLen K [.ref p] H Q := ⟨p, xs, rfl, .inl h, q⟩
theorem rd_lenT {K : PySem.W.Frag} {p : Addr} {xs : List V} (h : SqT K H p xs) (q : Q (.int xs.length) H) : rLen K [.ref p] H Q := ⟨p, xs, rfl, .inr h, q⟩
def rMin2 : List V → Hp → VK → Prop := fun xs H Q => ∃ i j, xs = [.int i, .int j] ∧ Q (.int (if j < i then j else i)) H
def rMax2 : List V → Hp → VK → Prop := fun xs H Q => ∃ i j, xs = [.int i, .int j] ∧ Q (.int (if j > i then j else i)) H
theorem ca_min (hc : X.calm = true) : CallR X (.builtin "min") rMin2 := call_min2 hc
theorem ca_max (hc : X.calm = true) : CallR X (.builtin "max") rMax2 := call_max2 hc
theorem rd_min (h : Q (.int (if b < a then b else a)) H) : rMin2 [.int a, .int b] H Q := ⟨a, b, rfl, h⟩
theorem rd_max (h : Q (.int (if b > a then b else a)) H) : rMax2 [.int a, .int b] H Q := ⟨a, b, rfl, h⟩
def rListOf (K : PySem.W.Frag) : List V → Hp → VK → Prop := fun xs H Q => ∃ p ys, xs = [.ref p] ∧ (SqL K H p ys ∨ SqT K H p ys) ∧ ∀ l, H l = none → Q (.ref l) (upd H l (.lst ys))
theorem ca_list : CallR X (.type "list") (rListOf X.K) := call_list_of
theorem rd_listL {K : PySem.W.Frag} {p : Addr} {xs : List V} (h : SqL K H p xs) (q : ∀ l, H l = none → Q (.ref l) (upd H l (.lst xs))) : rListOf K [.ref p] H Q := ⟨p, xs, rfl, .inl h, q⟩
def rStrI : List V → Hp → VK → Prop := fun xs H Q => ∃ i, xs = [.int i] ∧ i.natAbs.log2 < 1920 ∧ Q (.str (toString i)) H
theorem ca_str : CallR X (.type "str") rStrI := call_str_int
end
section
variable {A B : Prop} {c : Bool}
theorem rd_ifT (hc : c = true) (h : A) : if c = true then A else B := by
  rw [if_pos hc]
  exact h
theorem rd_ifF (hc : c = false) (h : B) : if c = true then A else B := by
  rw [hc, if_neg Bool.false_ne_true]
  exact h
theorem rd_if2 (h1 : c = true → A) (h2 : c = false → B) : if c = true then A else B := by
  cases c
  · exact rd_ifF rfl (h2 rfl)
  · exact rd_ifT rfl (h1 rfl)
theorem rd_ifP {p : Prop} [Decidable p] (h1 : p → A) (h2 : ¬ p → B) : if decide p = true then A else B := rd_if2 (fun h => h1 (of_decide_eq_true h)) (fun h => h2 (of_decide_eq_false h))
theorem rd_ifN {p : Prop} [Decidable p] (h1 : ¬ p → A) (h2 : p → B) : if (!decide p) = true then A else B := by
  by_cases h : p
  · exact rd_ifF (by rw [decide_eq_true h]; rfl) (h2 h)
  · exact rd_ifT (by rw [decide_eq_false h]; rfl) (h1 h)
end
theorem cxOf_K {CX : CXT} {P : Program} {w : World} {K : PySem.W.Frag} {mg : Str → Option Value} {base : Heap} {N : List Str} {q : Str} {sc : Scope} {f : Addr} {cd : Value} {A : Around} {o : List Env} {s : Shared} {H : Hp} {E : XK} :
    (cxOf CX P w K mg base N q sc f cd A o s H E).nox.K = K := rfl
/-! ### loops -/
def ForW (J : It) (g : TG) (tb : TS) (D : Ends) (σ : L2.St) (H : Hp) : Prop := ∃ W : Nat → Nat → L2.St → Hp → Prop, (∃ m, W 0 m σ H) ∧ ∀ i m σ H, W i m σ H →
  (J.stop i H ∧ D.nx σ H) ∨ (J.go i H ∧ ∃ N : L2.St → Hp → Prop, (∀ σ' H', N σ' H' → ∃ m', m' < m ∧ W (i + 1) m' σ' H') ∧ ∀ x H', J.yld i H x H' → g x σ H' fun σ2 H2 => tb { D with nx := N, ct := N, bk := D.nx } σ2 H2)
def iR1 : List V → Hp → (It → Hp → Prop) → Prop := fun vs H1 R => ∃ j : Int, vs = [.int j] ∧ -(2 ^ 62) ≤ j ∧ j < 2 ^ 62 ∧ R (Itr 0 j.toNat) H1
def iR2 : List V → Hp → (It → Hp → Prop) → Prop := fun vs H1 R => ∃ i j : Int, vs = [.int i, .int j] ∧ (-(2 ^ 62) ≤ i ∧ i < 2 ^ 62 ∧ -(2 ^ 62) ≤ j ∧ j < 2 ^ 62) ∧ R (Itr i (j - i).toNat) H1
def iL1 (K : PySem.W.Frag) : V → Hp → (It → Hp → Prop) → Prop := fun x H1 R => ∃ a, x = .ref a ∧ (∃ xs, SqL K H1 a xs) ∧ R (Itl K a) H1
def iT1 (K : PySem.W.Frag) : V → Hp → (It → Hp → Prop) → Prop := fun x H1 R => ∃ a, x = .ref a ∧ (∃ xs, SqT K H1 a xs) ∧ R (Itt K a) H1
def iE1 (K : PySem.W.Frag) : List V → Hp → (It → Hp → Prop) → Prop := fun vs H1 R => ∃ a xs, vs = [.ref a] ∧ SqL K H1 a xs ∧ R (Ite K a) H1
def iV1 (K : PySem.W.Frag) : List V → Hp → (It → Hp → Prop) → Prop := fun vs H1 R => ∃ (a : Addr) (xs : List V), vs = [.ref a] ∧ SqL K H1 a xs ∧ R (Itv K a xs.length) H1
section
variable {nx bk ct : L2.St → Hp → Prop} {rt : VK} {σ : L2.St} {H : Hp} {tb : TS} {te : TE} {tA : TA} {j l n : Nat} {K : PySem.W.Frag} {a : Addr} {xs : List V} {R : It → Hp → Prop} {wi : TI} {g : TG}
theorem rd_for (h : wi σ H fun J H1 => ForW J g tb ⟨nx, rt, bk, ct⟩ σ H1) : tFor wi g tb ⟨nx, rt, bk, ct⟩ σ H := h
theorem rd_iR1 (h : tA σ H fun vs H1 => iR1 vs H1 R) : iRng1 tA σ H R := h
theorem rd_iR2 (h : tA σ H fun vs H1 => iR2 vs H1 R) : iRng2 tA σ H R := h
theorem rd_iL (h : te σ H fun x H1 => iL1 K x H1 R) : iList K te σ H R := h
theorem rd_iT (h : te σ H fun x H1 => iT1 K x H1 R) : iTup K te σ H R := h
theorem rd_iE (h : tA σ H fun vs H1 => iE1 K vs H1 R) : iEnum K tA σ H R := h
theorem rd_iV (h : tA σ H fun vs H1 => iV1 K vs H1 R) : iRev K tA σ H R := h
theorem rd_r1 (c : n ≤ 1000000) (h : R (Itr 0 n) H) : iR1 [.int (n : Int)] H R := ⟨n, rfl, by omega, by omega, by rw [Int.toNat_natCast]; exact h⟩
theorem rd_r1i {i : Int} (c : 0 ≤ i ∧ i ≤ 1000000) (h : R (Itr 0 i.toNat) H) : iR1 [.int i] H R := ⟨i, rfl, by omega, by omega, h⟩
theorem rd_l1 (c : SqL K H a xs) (h : R (Itl K a) H) : iL1 K (.ref a) H R := ⟨a, rfl, ⟨xs, c⟩, h⟩
theorem rd_t1 (c : SqT K H a xs) (h : R (Itt K a) H) : iT1 K (.ref a) H R := ⟨a, rfl, ⟨xs, c⟩, h⟩
theorem rd_e1 (c : SqL K H a xs) (h : R (Ite K a) H) : iE1 K [.ref a] H R := ⟨a, xs, rfl, c, h⟩
theorem rd_v1 (c : SqL K H a xs) (h : R (Itv K a xs.length) H) : iV1 K [.ref a] H R := ⟨a, xs, rfl, c, h⟩
/-- for x in range(n) -/
theorem for_r (Pv : Nat → L2.St → Hp → Prop) (h0 : Pv 0 σ H) (hs : ∀ i σ H, i < n → Pv i σ H → tb ⟨Pv (i + 1), rt, nx, Pv (i + 1)⟩ (σ.set j (some (.int (i : Nat)))) H) (hd : ∀ σ H, Pv n σ H → nx σ H) :
    ForW (Itr 0 n) (gName j) tb ⟨nx, rt, bk, ct⟩ σ H :=
  for_range (D := ⟨nx, rt, bk, ct⟩) Pv h0 (fun i σ H hi p => by
    show tb ⟨Pv (i + 1), rt, nx, Pv (i + 1)⟩ (σ.set j (some (.int (0 + (i : Int))))) H
    rw [Int.zero_add]
    exact hs i σ H hi p) hd
/-- for x in xs -/
theorem for_l (Pv : Nat → L2.St → Hp → Prop) (h0 : Pv 0 σ H) (hl : ∀ i σ H, i ≤ xs.length → Pv i σ H → SqL K H a xs) (hs : ∀ i x σ H, xs[i]? = some x → Pv i σ H → tb ⟨Pv (i + 1), rt, nx, Pv (i + 1)⟩ (σ.set j (some x)) H) (hd : ∀ σ H, Pv xs.length σ H → nx σ H) :
    ForW (Itl K a) (gName j) tb ⟨nx, rt, bk, ct⟩ σ H :=
  for_list (D := ⟨nx, rt, bk, ct⟩) Pv h0 hl hs hd
/-- for x in xs, any target -/
theorem for_lg (Pv : Nat → L2.St → Hp → Prop) (h0 : Pv 0 σ H) (hl : ∀ i σ H, i ≤ xs.length → Pv i σ H → SqL K H a xs) (hs : ∀ i x σ H, xs[i]? = some x → Pv i σ H → g x σ H fun σ2 H2 => tb ⟨Pv (i + 1), rt, nx, Pv (i + 1)⟩ σ2 H2) (hd : ∀ σ H, Pv xs.length σ H → nx σ H) :
    ForW (Itl K a) g tb ⟨nx, rt, bk, ct⟩ σ H :=
  for_list (D := ⟨nx, rt, bk, ct⟩) Pv h0 hl hs hd
/-- for x in a tuple -/
theorem for_t (Pv : Nat → L2.St → Hp → Prop) (h0 : Pv 0 σ H) (hl : ∀ i σ H, i ≤ xs.length → Pv i σ H → SqT K H a xs) (hs : ∀ i x σ H, xs[i]? = some x → Pv i σ H → g x σ H fun σ2 H2 => tb ⟨Pv (i + 1), rt, nx, Pv (i + 1)⟩ σ2 H2) (hd : ∀ σ H, Pv xs.length σ H → nx σ H) :
    ForW (Itt K a) g tb ⟨nx, rt, bk, ct⟩ σ H :=
  for_tup (D := ⟨nx, rt, bk, ct⟩) Pv h0 hl hs hd
/-- for x, y in enumerate(xs) -/
theorem for_e {m : Nat} (Pv : Nat → L2.St → Hp → Prop) (h0 : Pv 0 σ H) (hl : ∀ i σ H, i ≤ xs.length → Pv i σ H → SqL K H a xs)
    (hs : ∀ i x σ H H', xs[i]? = some x → Pv i σ H → Same H H' → tb ⟨Pv (i + 1), rt, nx, Pv (i + 1)⟩ ((σ.set j (some (.int (i : Nat)))).set l (some x)) H') (hd : ∀ σ H, Pv xs.length σ H → nx σ H) (hm : m = 2 := by rfl) :
    ForW (Ite K a) (gTup K m (gCons (gName j) (gCons (gName l) gNil))) tb ⟨nx, rt, bk, ct⟩ σ H := by
  subst hm
  refine ⟨fun i m σ H => m = xs.length - i ∧ i ≤ xs.length ∧ Pv i σ H, ⟨xs.length, by simp, Nat.zero_le _, h0⟩, ?_⟩
  rintro i m σ H ⟨rfl, hi, p⟩
  have q := hl i σ H hi p
  by_cases hlt : i < xs.length
  · refine .inr ⟨⟨xs, xs[i], q, by simp [hlt]⟩, Pv (i + 1), fun σ' H' p' => ⟨xs.length - (i + 1), by omega, rfl, hlt, p'⟩, fun x H' y => ?_⟩
    obtain ⟨T, x', rfl, nT, rfl, y⟩ := y
    exact ⟨T, _, rfl, sqT_of upd_same, rfl, _, _, rfl, _, _, rfl, rfl, hs i x' σ H _ (y xs q) p (same_new nT)⟩
  · have e : i = xs.length := by omega
    subst e
    exact .inl ⟨⟨xs, q, Nat.le_refl _⟩, hd σ H p⟩
/-- for x in reversed(xs) -/
theorem for_v (Pv : Nat → L2.St → Hp → Prop) (h0 : Pv 0 σ H) (hl : ∀ i σ H, i ≤ xs.length → Pv i σ H → SqL K H a xs)
    (hs : ∀ i x σ H, i < xs.length → xs[xs.length - 1 - i]? = some x → Pv i σ H → tb ⟨Pv (i + 1), rt, nx, Pv (i + 1)⟩ (σ.set j (some x)) H) (hd : ∀ σ H, Pv xs.length σ H → nx σ H) :
    ForW (Itv K a xs.length) (gName j) tb ⟨nx, rt, bk, ct⟩ σ H := by
  refine ⟨fun i m σ H => m = xs.length - i ∧ i ≤ xs.length ∧ Pv i σ H, ⟨xs.length, by simp, Nat.zero_le _, h0⟩, ?_⟩
  rintro i m σ H ⟨rfl, hi, p⟩
  have q := hl i σ H hi p
  by_cases hlt : i < xs.length
  · have hlt2 : xs.length - 1 - i < xs.length := by omega
    refine .inr ⟨⟨hlt, xs, xs[xs.length - 1 - i], q, by simp [hlt2]⟩, Pv (i + 1), fun σ' H' p' => ⟨xs.length - (i + 1), by omega, rfl, hlt, p'⟩, fun x H' y => ?_⟩
    obtain ⟨rfl, y⟩ := y
    exact hs i x σ _ hlt (y xs q) p
  · have e : i = xs.length := by omega
    subst e
    exact .inl ⟨Nat.le_refl _, hd σ H p⟩
/-- for x in reversed(range(n)) -/
theorem for_rv (Pv : Nat → L2.St → Hp → Prop) (h0 : Pv 0 σ H) (hs : ∀ i σ H, i < n → Pv i σ H → tb ⟨Pv (i + 1), rt, nx, Pv (i + 1)⟩ (σ.set j (some (.int ((n - 1 - i : Nat) : Int)))) H) (hd : ∀ σ H, Pv n σ H → nx σ H) {lo : Int} (e : lo = (n : Int) - 1) :
    ForW (Itc lo (-1) n) (gName j) tb ⟨nx, rt, bk, ct⟩ σ H :=
  for_rangeC (D := ⟨nx, rt, bk, ct⟩) Pv h0 (fun i σ H hi p => by
    show tb ⟨Pv (i + 1), rt, nx, Pv (i + 1)⟩ (σ.set j (some (.int (lo + (i : Nat) * (-1))))) H
    have z : lo + (i : Nat) * (-1) = ((n - 1 - i : Nat) : Int) := by omega
    rw [z]
    exact hs i σ H hi p) hd
end
theorem tup_keep {H : Hp} {p l : Addr} {x ys : List V} {o : HO} (hp : H p = some (.tup x)) (hl : H l = some (.lst ys)) : upd H l o p = some (.tup x) := by
  rw [upd_ne (ne_of hp hl (by intro z; cases z))]
  exact hp
theorem paired_last {α β : Type} {F : α → β → Prop} {b : β} : ∀ {l₂ : List β} {l₁ : List α}, Paired F l₁ (l₂ ++ [b]) → ∃ us v, l₁ = us ++ [v] ∧ Paired F us l₂ ∧ F v b
  | [], _, .cons h .nil => ⟨[], _, rfl, .nil, h⟩
  | _ :: l₂, _, .cons h t => by
    obtain ⟨us, v, e, h1, h2⟩ := paired_last (l₂ := l₂) t
    subst e
    exact ⟨_ :: us, v, rfl, .cons h h1, h2⟩
theorem paired_get2 {α β : Type} {F : α → β → Prop} : ∀ {l₁ : List α} {l₂ : List β}, Paired F l₁ l₂ → ∀ {i : Nat} {b : β}, l₂[i]? = some b → ∃ a, l₁[i]? = some a ∧ F a b
  | _, _, .nil, i, b, h => by simp at h
  | _, _, .cons r t, 0, b, h => by
    cases h
    exact ⟨_, rfl, r⟩
  | _, _, .cons r t, i + 1, b, h => paired_get2 t (i := i) h
theorem paired_get1 {α β : Type} {F : α → β → Prop} : ∀ {l₁ : List α} {l₂ : List β}, Paired F l₁ l₂ → ∀ {i : Nat} {a : α}, l₁[i]? = some a → ∃ b, l₂[i]? = some b ∧ F a b
  | _, _, .nil, i, b, h => by simp at h
  | _, _, .cons r t, 0, b, h => by
    cases h
    exact ⟨_, rfl, r⟩
  | _, _, .cons r t, i + 1, b, h => paired_get1 t (i := i) h

/-! ### data compared -/
mutual
theorem Dp.mono {K : PySem.W.Frag} {H H' : Hp} (e : Same H H') : ∀ (d : PyData) (v : V), Dp K H v d → Dp K H' v d
  | .none, _, h => by
    cases h
    exact .non
  | .bool _, _, h => by
    cases h
    exact .bl _
  | .int _, _, h => by
    cases h
    exact .int _
  | .str _, _, h => by
    cases h
    exact .str _
  | .list ds, _, h => by
    cases h with
    | lst hs ha => exact .lst (e.seq hs) (Dp.monoAll e ds _ ha)
  | .tuple ds, _, h => by
    cases h with
    | tup hs ha => exact .tup (sqT_mono e hs) (Dp.monoAll e ds _ ha)
  | .dict _, _, h => by cases h
theorem Dp.monoAll {K : PySem.W.Frag} {H H' : Hp} (e : Same H H') : ∀ (ds : List PyData) (vs : List V), DpAll K H vs ds → DpAll K H' vs ds
  | [], _, h => by
    cases h
    exact .nil
  | d :: ds, _, h => by
    cases h with
    | cons h1 h2 => exact .cons (Dp.mono e d _ h1) (Dp.monoAll e ds _ h2)
end
/-! numbers, texts, lists and tuples of such -/
mutual
def plain : PyData → Bool
  | .int _ => true
  | .str _ => true
  | .list xs => plainAll xs
  | .tuple xs => plainAll xs
  | _ => false
def plainAll : List PyData → Bool
  | [] => true
  | x :: xs => plain x && plainAll xs
end
mutual
theorem eqv_plain : ∀ d e : PyData, plain d = true → plain e = true → (PyData.eqv d e = true ↔ d = e)
  | .int i, .int j, _, _ => by simp [PyData.eqv]
  | .str i, .str j, _, _ => by simp [PyData.eqv]
  | .list xs, .list ys, h1, h2 => by
    have := eqvAll_plain xs ys (by simpa [plain] using h1) (by simpa [plain] using h2)
    simp [PyData.eqv, this]
  | .tuple xs, .tuple ys, h1, h2 => by
    have := eqvAll_plain xs ys (by simpa [plain] using h1) (by simpa [plain] using h2)
    simp [PyData.eqv, this]
  | .int _, .str _, _, _ => by simp [PyData.eqv]
  | .int _, .list _, _, _ => by simp [PyData.eqv]
  | .int _, .tuple _, _, _ => by simp [PyData.eqv]
  | .str _, .int _, _, _ => by simp [PyData.eqv]
  | .str _, .list _, _, _ => by simp [PyData.eqv]
  | .str _, .tuple _, _, _ => by simp [PyData.eqv]
  | .list _, .int _, _, _ => by simp [PyData.eqv]
  | .list _, .str _, _, _ => by simp [PyData.eqv]
  | .list _, .tuple _, _, _ => by simp [PyData.eqv]
  | .tuple _, .int _, _, _ => by simp [PyData.eqv]
  | .tuple _, .str _, _, _ => by simp [PyData.eqv]
  | .tuple _, .list _, _, _ => by simp [PyData.eqv]
  | .none, _, h, _ => by simp [plain] at h
  | .bool _, _, h, _ => by simp [plain] at h
  | .dict _, _, h, _ => by simp [plain] at h
  | .int _, .none, _, h => by simp [plain] at h
  | .int _, .bool _, _, h => by simp [plain] at h
  | .int _, .dict _, _, h => by simp [plain] at h
  | .str _, .none, _, h => by simp [plain] at h
  | .str _, .bool _, _, h => by simp [plain] at h
  | .str _, .dict _, _, h => by simp [plain] at h
  | .list _, .none, _, h => by simp [plain] at h
  | .list _, .bool _, _, h => by simp [plain] at h
  | .list _, .dict _, _, h => by simp [plain] at h
  | .tuple _, .none, _, h => by simp [plain] at h
  | .tuple _, .bool _, _, h => by simp [plain] at h
  | .tuple _, .dict _, _, h => by simp [plain] at h
theorem eqvAll_plain : ∀ xs ys : List PyData, plainAll xs = true → plainAll ys = true → (PyData.eqvAll xs ys = true ↔ xs = ys)
  | [], [], _, _ => by simp [PyData.eqvAll]
  | x :: xs, y :: ys, h1, h2 => by
    simp only [plainAll, Bool.and_eq_true] at h1 h2
    have a := eqv_plain x y h1.1 h2.1
    have b := eqvAll_plain xs ys h1.2 h2.2
    simp [PyData.eqvAll, a, b]
  | [], _ :: _, _, _ => by simp [PyData.eqvAll]
  | _ :: _, [], _, _ => by simp [PyData.eqvAll]
end
theorem eqv_dec {d e : PyData} {p : Prop} [Decidable p] (h1 : plain d = true) (h2 : plain e = true) (h : d = e ↔ p) : PyData.eqv d e = decide p := by
  have k := (eqv_plain d e h1 h2).trans h
  by_cases q : p
  · rw [decide_eq_true q]
    exact k.mpr q
  · rw [decide_eq_false q]
    cases z : PyData.eqv d e with
    | false => rfl
    | true => exact absurd (k.mp z) q
/-- what of it the rules ask -/
structure Good (d : PyData) : Prop where
  pl : plain d = true
  sh : SeqAt.shaped d = true
def dInts (ns : List Int) : PyData := .list (ns.map .int)
def dPair (c : Int × Int) : PyData := .tuple [.int c.1, .int c.2]
def dPairs (cs : List (Int × Int)) : PyData := .list (cs.map dPair)
theorem plainAll_of : ∀ {ds : List PyData}, (∀ d ∈ ds, plain d = true) → plainAll ds = true
  | [], _ => rfl
  | d :: ds, h => by
    show (plain d && plainAll ds) = true
    rw [h d List.mem_cons_self, plainAll_of fun x hx => h x (List.mem_cons_of_mem _ hx)]
    rfl
theorem canAll_of : ∀ {ds : List PyData}, (∀ d ∈ ds, d.canLay0 = true) → PyData.canLayAll0 ds = true
  | [], _ => by simp [PyData.canLayAll0]
  | d :: ds, h => by
    simp only [PyData.canLayAll0, Bool.and_eq_true]
    exact ⟨h d List.mem_cons_self, canAll_of fun x hx => h x (List.mem_cons_of_mem _ hx)⟩
theorem depthAll_of {n : Nat} : ∀ {ds : List PyData}, (∀ d ∈ ds, d.depth ≤ n) → PyData.depthAll ds ≤ n
  | [], _ => by simp [PyData.depthAll]
  | d :: ds, h => by
    have h1 := h d List.mem_cons_self
    have h2 := depthAll_of (ds := ds) fun x hx => h x (List.mem_cons_of_mem _ hx)
    simp only [PyData.depthAll]
    omega
/-- data of depth n at most -/
structure GoodN (n : Nat) (d : PyData) : Prop where
  pl : plain d = true
  cl : d.canLay0 = true
  dp : d.depth ≤ n
theorem GoodN.good {n : Nat} {d : PyData} (h : GoodN n d) (hn : n ≤ 64 := by decide) : Good d := ⟨h.pl, by
  unfold SeqAt.shaped
  rw [h.cl, decide_eq_true (Nat.le_trans h.dp hn)]
  rfl⟩
theorem GoodN.int (n : Nat) (i : Int) : GoodN n (.int i) := ⟨rfl, by simp [PyData.canLay0], by simp [PyData.depth]⟩
theorem GoodN.list {n : Nat} {ds : List PyData} (h : ∀ d ∈ ds, GoodN n d) : GoodN (n + 1) (.list ds) :=
  ⟨by simpa [plain] using plainAll_of fun d hd => (h d hd).pl, by simpa [PyData.canLay0] using canAll_of fun d hd => (h d hd).cl, by simpa [PyData.depth] using depthAll_of fun d hd => (h d hd).dp⟩
theorem GoodN.tuple {n : Nat} {ds : List PyData} (h : ∀ d ∈ ds, GoodN n d) : GoodN (n + 1) (.tuple ds) :=
  ⟨by simpa [plain] using plainAll_of fun d hd => (h d hd).pl, by simpa [PyData.canLay0] using canAll_of fun d hd => (h d hd).cl, by simpa [PyData.depth] using depthAll_of fun d hd => (h d hd).dp⟩
theorem good_ints (n : Nat) (ns : List Int) : GoodN (n + 1) (dInts ns) := .list fun d hd => by
  obtain ⟨i, _, rfl⟩ := List.mem_map.mp hd
  exact .int n i
theorem good_pair (n : Nat) (c : Int × Int) : GoodN (n + 1) (dPair c) := .tuple fun d hd => by
  rcases List.mem_cons.mp hd with rfl | hd
  · exact .int n _
  · rcases List.mem_cons.mp hd with rfl | hd
    · exact .int n _
    · cases hd
theorem good_pairs (n : Nat) (cs : List (Int × Int)) : GoodN (n + 2) (dPairs cs) := .list fun d hd => by
  obtain ⟨i, _, rfl⟩ := List.mem_map.mp hd
  exact good_pair n i
theorem dInts_inj {ns ms : List Int} : dInts ns = dInts ms ↔ ns = ms := by
  constructor
  · intro h
    have h := PyData.list.inj h
    exact List.map_inj_right (fun _ _ z => PyData.int.inj z) |>.mp h
  · rintro rfl
    rfl
theorem dPair_inj {c d : Int × Int} : dPair c = dPair d ↔ c = d := by
  constructor
  · intro h
    have h := PyData.tuple.inj h
    simp only [List.cons.injEq, PyData.int.injEq, and_true] at h
    exact Prod.ext h.1 h.2
  · rintro rfl
    rfl
theorem dPairs_inj {ns ms : List (Int × Int)} : dPairs ns = dPairs ms ↔ ns = ms := by
  constructor
  · intro h
    have h := PyData.list.inj h
    exact List.map_inj_right (fun _ _ z => dPair_inj.mp z) |>.mp h
  · rintro rfl
    rfl
theorem dpAll_ints {K : PySem.W.Frag} {H : Hp} : ∀ ns : List Int, DpAll K H (ns.map V.int) (ns.map PyData.int)
  | [] => .nil
  | n :: ns => .cons (.int n) (dpAll_ints ns)
theorem dp_ints {K : PySem.W.Frag} {H : Hp} {a : Addr} {ns : List Int} (h : SqL K H a (ns.map V.int)) : Dp K H (.ref a) (dInts ns) := .lst h (dpAll_ints ns)
section
variable {K : PySem.W.Frag} {H : Hp} {Q : VK} {x y : V} {d e : PyData} {p : Prop} [Decidable p]
theorem rd_eqD (hx : Dp K H x d) (hy : Dp K H y e) (gd : Good d) (ge : Good e) (hp : d = e ↔ p) (q : Q (.bl (decide p)) H) : rEqD K x y H Q := ⟨d, e, hx, hy, gd.sh, ge.sh, by
  rw [eqv_dec gd.pl ge.pl hp]
  exact q⟩
theorem rd_neD (hx : Dp K H x d) (hy : Dp K H y e) (gd : Good d) (ge : Good e) (hp : d = e ↔ p) (q : Q (.bl (!decide p)) H) : rNeD K x y H Q := ⟨d, e, hx, hy, gd.sh, ge.sh, by
  rw [eqv_dec gd.pl ge.pl hp]
  exact q⟩
end

def rRev (K : PySem.W.Frag) : V → Hp → VK → Prop := fun x H Q => ∃ a xs, x = .ref a ∧ SqL K H a xs ∧ ∀ p, H p = none → Q (.ref p) (upd H p (.lst xs.reverse))
section
variable {K : PySem.W.Frag} {σ : L2.St} {H : Hp} {Q : VK} {te : TE} {a : Addr} {xs : List V} {lo hi : Option Int} {i : Int} {tl th t1 : TO} {QO : Option Int → Hp → Prop} {l b : Addr} {ys : List V}
theorem rd_rev (h : te σ H fun x H1 => rRev K x H1 Q) : tRevL K te σ H Q := h
theorem rd_rev1 (h : SqL K H a xs) (q : ∀ p, H p = none → Q (.ref p) (upd H p (.lst xs.reverse))) : rRev K (.ref a) H Q := ⟨a, xs, rfl, h, q⟩
theorem rd_sl {r : V → Option Int → Option Int → Hp → VK → Prop} (h : te σ H fun x H1 => tl σ H1 fun l H2 => th σ H2 fun u H3 => r x l u H3 Q) : tSl r te tl th σ H Q := h
theorem rd_noP (h : QO none H) : tNoPart σ H QO := h
theorem rd_part (h : te σ H fun x H1 => ∃ i, x = .int i ∧ QO (some i) H1) : tPart te σ H QO := h
theorem rd_int1 {R : Int → Prop} (h : R i) : ∃ j, V.int i = .int j ∧ R j := ⟨i, rfl, h⟩
theorem rd_slL (h : SqL K H a xs) (q : ∀ p, H p = none → Q (.ref p) (upd H p (.lst (cutV xs lo hi)))) : rSlL K (.ref a) lo hi H Q := ⟨a, xs, rfl, h, q⟩
theorem rd_cat (h1 : H l = some (.lst xs)) (h2 : H b = some (.lst ys)) (z : xs.length + ys.length ≤ 100000) (q : ∀ p, H p = none → Q (.ref p) (upd H p (.lst (xs ++ ys)))) : rCat (.ref l) (.ref b) H Q := ⟨l, b, xs, ys, rfl, rfl, h1, h2, sz_of z, q⟩
theorem flat_rep {α : Type} (v : α) : ∀ n : Nat, (List.replicate n [v]).flatten = List.replicate n v
  | 0 => rfl
  | n + 1 => by
    rw [List.replicate_succ, List.flatten_cons, flat_rep v n, List.replicate_succ] <;> rfl
theorem rd_rep1 {v : V} {n : Nat} (h1 : H l = some (.lst [v])) (z : n ≤ 100000) (q : ∀ p, H p = none → Q (.ref p) (upd H p (.lst (List.replicate n v)))) : rRep (.ref l) (.int (n : Int)) H Q :=
  ⟨l, n, [v], rfl, rfl, h1, by omega, by omega, sz_of (by rw [Int.toNat_natCast]; show 1 * n ≤ 100000; omega), by
    rw [Int.toNat_natCast, flat_rep]
    exact q⟩
end

/-! ### kinds -/
/-- the built-in type of a value, where it is one of the plain ones -/
def tyF : V → Option String
  | .non => some "NoneType"
  | .bl _ => some "bool"
  | .int _ => some "int"
  | .str _ => some "str"
  | _ => none
section
variable {K : PySem.W.Frag} {H : Hp} {Q : VK} {x : V} {a c : String} {b : Bool} {i : Int}
theorem rd_isi (ty : TyX K H x (.type a)) (e : kitB a c = some b) (q : Q (.bl b) H) : rIsi K [x, .ty c] H Q := ⟨x, .ty c, _, _, b, rfl, .ty c, ty, kit_ty e, q⟩
theorem ty_int : TyX K H (.int i) (.type "int") := .base (.int i)
theorem rd_isiI (q : Q (.bl true) H) : rIsi K [.int i, .ty "int"] H Q := rd_isi ty_int (by decide +kernel) q
theorem rd_isiB (q : Q (.bl false) H) : rIsi K [.int i, .ty "bool"] H Q := rd_isi ty_int (by decide +kernel) q
theorem rd_isiS {s : Str} (q : Q (.bl true) H) : rIsi K [.str s, .ty "str"] H Q := rd_isi (.base (.str s)) (by decide +kernel) q
/-- a list that is read has the type list -/
theorem ty_list {p : Addr} {xs : List V} (h : SqL K H p xs) : TyX K H (.ref p) (.type "list") := by
  rcases h with (h | ⟨o, h⟩) | ⟨o, its, n, h1, h2, _⟩
  · exact .base (.lst h)
  · exact .base (.frz h)
  · exact .kList h1 h2
theorem ty_tup {p : Addr} {xs : List V} (h : SqT K H p xs) : TyX K H (.ref p) (.type "tuple") := by
  rcases h with (h | ⟨o, h⟩) | ⟨o, its, n, h1, h2, _⟩
  · exact .base (.tup h)
  · exact .fTuple h
  · exact .kTuple h1 h2
theorem rd_isiL {p : Addr} {xs : List V} (h : SqL K H p xs) (q : Q (.bl true) H) : rIsi K [.ref p, .ty "list"] H Q := rd_isi (ty_list h) (by decide +kernel) q
theorem rd_isiT {p : Addr} {xs : List V} (h : SqT K H p xs) (q : Q (.bl true) H) : rIsi K [.ref p, .ty "tuple"] H Q := rd_isi (ty_tup h) (by decide +kernel) q
end
section
variable {nx bk ct : L2.St → Hp → Prop} {rt : VK} {σ : L2.St} {H : Hp} {Q : VK} {te ta tb tc : TE} {r r' : R2} {x : V}
theorem rd_chain (h : ta σ H fun x H1 => tb σ H1 fun y H2 => r x y H2 fun z H3 => ∃ k, z = .bl k ∧ if k = true then tc σ H3 fun w H4 => r' y w H4 Q else Q (.bl false) H3) : tChain r r' ta tb tc σ H Q := h
/-- in, not in -/
theorem rd_in {K : PySem.W.Frag} {neg : Bool} {p : Addr} {xs : List V} (h : SqL K H p xs) (hx : flatV x = true) (ha : xs.all flatV = true) (q : Q (.bl (if neg then !inV x xs else inV x xs)) H) : rIn K neg x (.ref p) H Q := ⟨p, xs, rfl, .inl h, hx, ha, q⟩
/-- all -/
theorem rd_all {K : PySem.W.Frag} {p : Addr} {bs : List Bool} (h : SqL K H p (bs.map V.bl)) (q : Q (.bl (bs.all id)) H) : rAll K [.ref p] H Q := ⟨p, bs, rfl, h, q⟩
theorem rd_any {K : PySem.W.Frag} {p : Addr} {bs : List Bool} (h : SqL K H p (bs.map V.bl)) (q : Q (.bl (bs.any id)) H) : rAny K [.ref p] H Q := ⟨p, bs, rfl, h, q⟩
end
/-! ### comprehensions -/
def LcW (J : It) (D : Addr) (g : TG) (tt : TT) (te : TE) (vs : List Nat) (σ : L2.St) (Q : VK) (H1 : Hp) : Prop := ∃ W : Nat → Nat → Hp → Prop, (∃ m, W 0 m (upd H1 D (.lst []))) ∧ ∀ i m H, W i m H →
  (J.stop i H ∧ Q (.ref D) H) ∨ (J.go i H ∧ ∃ Nx : Hp → Prop, (∀ H', Nx H' → ∃ m', m' < m ∧ W (i + 1) m' H') ∧ ∀ x H', J.yld i H x H' → g x (wipe σ vs) H' fun σ2 H2 => wipe σ2 vs = wipe σ vs ∧ tt σ2 H2 fun b H3 =>
    if b = true then te σ2 H3 fun y H4 => ∃ acc, H4 D = some (.lst acc) ∧ acc.length < sizeLine ∧ Nx (upd H4 D (.lst (acc ++ [y]))) else Nx H3)
section
variable {σ : L2.St} {H : Hp} {Q : VK} {te : TE} {wi : TI} {g : TG} {tt : TT} {vs : List Nat} {K : PySem.W.Frag} {a D : Addr} {xs : List V}
theorem rd_lc (h : wi σ H fun J H1 => ∀ D, H1 D = none → LcW J D g tt te vs σ Q H1) : tLc wi g tt te vs σ H Q := h
/-- [e for x in xs], no test -/
theorem lc_l {j : Nat} (Pv : Nat → Hp → Prop) (h0 : Pv 0 (upd H D (.lst []))) (hl : ∀ i H, i ≤ xs.length → Pv i H → SqL K H a xs)
    (hs : ∀ i x H, xs[i]? = some x → Pv i H → wipe ((wipe σ vs).set j (some x)) vs = wipe σ vs ∧ te ((wipe σ vs).set j (some x)) H fun y H4 => ∃ acc, H4 D = some (.lst acc) ∧ acc.length < sizeLine ∧ Pv (i + 1) (upd H4 D (.lst (acc ++ [y]))))
    (hd : ∀ H, Pv xs.length H → Q (.ref D) H) : LcW (Itl K a) D (gName j) tYes te vs σ Q H :=
  lc_list (D := D) Pv h0 hl (fun i x H hi p => ⟨(hs i x H hi p).1, rd_ifT (B := Pv (i + 1) H) (c := true) rfl (hs i x H hi p).2⟩) hd
/-- any target -/
theorem lc_lg (Pv : Nat → Hp → Prop) (h0 : Pv 0 (upd H D (.lst []))) (hl : ∀ i H, i ≤ xs.length → Pv i H → SqL K H a xs)
    (hs : ∀ i x H, xs[i]? = some x → Pv i H → g x (wipe σ vs) H fun σ2 H2 => wipe σ2 vs = wipe σ vs ∧ te σ2 H2 fun y H4 => ∃ acc, H4 D = some (.lst acc) ∧ acc.length < sizeLine ∧ Pv (i + 1) (upd H4 D (.lst (acc ++ [y]))))
    (hg : ∀ (x : V) (σ : L2.St) (H : Hp) (R R' : L2.St → Hp → Prop), (∀ σ H, R σ H → R' σ H) → g x σ H R → g x σ H R')
    (hd : ∀ H, Pv xs.length H → Q (.ref D) H) : LcW (Itl K a) D g tYes te vs σ Q H :=
  lc_list (D := D) Pv h0 hl (fun i x H hi p => hg _ _ _ _ _ (fun σ2 H2 k => ⟨k.1, rd_ifT (B := Pv (i + 1) H2) (c := true) rfl k.2⟩) (hs i x H hi p)) hd
end

theorem rd_cut {nx bk ct : L2.St → Hp → Prop} {rt : VK} {σ : L2.St} {H : Hp} {t u : TS} (Mid : L2.St → Hp → Prop) (h : t ⟨Mid, rt, bk, ct⟩ σ H) (k : ∀ σ' H', Mid σ' H' → u ⟨nx, rt, bk, ct⟩ σ' H') : Evl.tCut t u ⟨nx, rt, bk, ct⟩ σ H := ⟨Mid, h, k⟩
theorem ite_bl {b : Bool} {A : Prop} (h : b = true → A) (h2 : b = false → A) : A := by
  cases b
  · exact h2 rfl
  · exact h rfl

theorem cut_to {α : Type} (f : α → V) (xs : List α) {i : Int} (n : Nat) (h : i = (n : Int)) : cutV (xs.map f) none (some i) = (xs.take n).map f := by
  subst h
  unfold cutV
  rw [HT.sIx_none, HT.sIx_nat, List.drop_zero, Nat.sub_zero, List.map_take]
  by_cases q : n ≤ (xs.map f).length
  · rw [Nat.min_eq_left q]
  · rw [Nat.min_eq_right (by omega), List.take_length, List.take_of_length_le (by omega)]
theorem cut_from {α : Type} (f : α → V) (xs : List α) {i : Int} (n : Nat) (h : i = (n : Int)) : cutV (xs.map f) (some i) none = (xs.drop n).map f := by
  subst h
  unfold cutV
  rw [HT.sIx_none, HT.sIx_nat, List.map_drop]
  by_cases q : n ≤ (xs.map f).length
  · rw [Nat.min_eq_left q]
    exact List.take_of_length_le (by rw [List.length_drop]; exact Nat.le_refl _)
  · rw [Nat.min_eq_right (by omega), List.drop_length, List.take_nil, List.drop_of_length_le (by omega)]
theorem inV_ints (x : Int) (xs : List Int) : inV (.int x) (xs.map V.int) = decide (x ∈ xs) := by
  unfold inV
  rw [List.any_map]
  by_cases h : x ∈ xs
  · rw [decide_eq_true h]
    exact List.any_eq_true.mpr ⟨x, h, by show eqV (.int x) (.int x) = true; simp [eqV]⟩
  · rw [decide_eq_false h]
    refine List.any_eq_false.mpr fun y hy q => h ?_
    have q : eqV (.int y) (.int x) = true := q
    have : y = x := by simpa [eqV] using q
    exact this ▸ hy
theorem flat_ints (xs : List Int) : (xs.map V.int).all flatV = true := List.all_eq_true.mpr fun v hv => by
  obtain ⟨i, _, rfl⟩ := List.mem_map.mp hv
  rfl
theorem rd_inI {K : PySem.W.Frag} {H : Hp} {Q : VK} {p : Addr} {x : Int} {xs : List Int} (h : SqL K H p (xs.map V.int)) (q : Q (.bl (decide (x ∈ xs))) H) : rIn K false (.int x) (.ref p) H Q := rd_in h rfl (flat_ints xs) (by
  rw [inV_ints]
  exact q)
theorem rd_niI {K : PySem.W.Frag} {H : Hp} {Q : VK} {p : Addr} {x : Int} {xs : List Int} (h : SqL K H p (xs.map V.int)) (q : Q (.bl (!decide (x ∈ xs))) H) : rIn K true (.int x) (.ref p) H Q := rd_in h rfl (flat_ints xs) (by
  rw [inV_ints]
  exact q)

theorem ne_dec {p q : Prop} [Decidable p] [Decidable q] (h : p ↔ q) : (decide p != decide q) = false := by
  by_cases hp : p
  · rw [decide_eq_true hp, decide_eq_true (h.mp hp)]
    rfl
  · rw [decide_eq_false hp, decide_eq_false fun z => hp (h.mpr z)]
    rfl
theorem good_nilT (n : Nat) : GoodN (n + 1) (.tuple []) := .tuple fun d hd => by cases hd
theorem good_nilL (n : Nat) : GoodN (n + 1) (.list []) := .list fun d hd => by cases hd

theorem sqL_upd {K : PySem.W.Frag} {H : Hp} {s b : Addr} {xs : List V} {o : HO} (h : SqL K H s xs) (n : s ≠ b) : SqL K (upd H b o) s xs := by
  rcases h with (h | ⟨o2, h⟩) | h
  · exact .inl (.inl (by rw [upd_ne n]; exact h))
  · exact .inl (.inr ⟨o2, by rw [upd_ne n]; exact h⟩)
  · exact .inr h
theorem sqT_upd {K : PySem.W.Frag} {H : Hp} {t b : Addr} {xs ys : List V} {o : HO} (h : SqT K H t xs) (hb : H b = some (.lst ys)) : SqT K (upd H b o) t xs := by
  rcases h with (h | ⟨o2, h⟩) | h
  · exact .inl (.inl (tup_keep h hb))
  · refine .inl (.inr ⟨o2, ?_⟩)
    rw [upd_ne (ne_of h hb (by intro z; cases z))]
    exact h
  · exact .inr h

/-- [e for x in a tuple], no test -/
theorem lc_t {σ : L2.St} {H : Hp} {Q : VK} {te : TE} {vs : List Nat} {K : PySem.W.Frag} {a D : Addr} {xs : List V} {j : Nat} (Pv : Nat → Hp → Prop) (h0 : Pv 0 (upd H D (.lst []))) (hl : ∀ i H, i ≤ xs.length → Pv i H → SqT K H a xs)
    (hs : ∀ i x H, xs[i]? = some x → Pv i H → wipe ((wipe σ vs).set j (some x)) vs = wipe σ vs ∧ te ((wipe σ vs).set j (some x)) H fun y H4 => ∃ acc, H4 D = some (.lst acc) ∧ acc.length < sizeLine ∧ Pv (i + 1) (upd H4 D (.lst (acc ++ [y]))))
    (hd : ∀ H, Pv xs.length H → Q (.ref D) H) : LcW (Itt K a) D (gName j) tYes te vs σ Q H :=
  lc_tup (D := D) Pv h0 hl (fun i x H hi p => ⟨(hs i x H hi p).1, rd_ifT (B := Pv (i + 1) H) (c := true) rfl (hs i x H hi p).2⟩) hd

/-- [e for x in xs] where each e is True -/
theorem lc_true {σ : L2.St} {H : Hp} {Q : VK} {te : TE} {vs : List Nat} {K : PySem.W.Frag} {a D : Addr} {xs : List V} {j : Nat} (hs : SqL K H a xs) (nd : H D = none) (hz : xs.length ≤ 90000) (hw : ∀ x, wipe ((wipe σ vs).set j (some x)) vs = wipe σ vs)
    (ht : ∀ x ∈ xs, ∀ (H' : Hp) (Q' : VK), Same H H' → (∀ H'', Same H' H'' → Q' (.bl true) H'') → te ((wipe σ vs).set j (some x)) H' Q')
    (hd : ∀ H', Same H H' → H' D = some (.lst ((List.replicate xs.length true).map V.bl)) → Q (.ref D) H') : LcW (Itl K a) D (gName j) tYes te vs σ Q H := by
  refine lc_l (xs := xs) (fun i H' => Same H H' ∧ H' D = some (.lst ((List.replicate i true).map V.bl))) ⟨same_new nd, upd_same⟩ (fun i H' _ h => h.1.seq hs) ?_ (fun H' h => hd H' h.1 h.2)
  rintro i x H' hx ⟨sH, hl⟩
  have hi := (List.getElem?_eq_some_iff.mp hx).1
  refine ⟨hw x, ht x (List.mem_of_getElem? hx) H' _ sH fun H'' e => ⟨_, e _ _ hl, sz_lt ?_, same_mut (sH.trans e) nd, ?_⟩⟩
  · rw [List.length_map, List.length_replicate]
    omega
  · rw [upd_same, List.replicate_succ', List.map_append]
    rfl
theorem lcT_true {σ : L2.St} {H : Hp} {Q : VK} {te : TE} {vs : List Nat} {K : PySem.W.Frag} {a D : Addr} {xs : List V} {j : Nat} (hs : SqT K H a xs) (nd : H D = none) (hz : xs.length ≤ 90000) (hw : ∀ x, wipe ((wipe σ vs).set j (some x)) vs = wipe σ vs)
    (ht : ∀ x ∈ xs, ∀ (H' : Hp) (Q' : VK), Same H H' → (∀ H'', Same H' H'' → Q' (.bl true) H'') → te ((wipe σ vs).set j (some x)) H' Q')
    (hd : ∀ H', Same H H' → H' D = some (.lst ((List.replicate xs.length true).map V.bl)) → Q (.ref D) H') : LcW (Itt K a) D (gName j) tYes te vs σ Q H := by
  refine lc_t (xs := xs) (fun i H' => Same H H' ∧ H' D = some (.lst ((List.replicate i true).map V.bl))) ⟨same_new nd, upd_same⟩ (fun i H' _ h => sqT_mono h.1 hs) ?_ (fun H' h => hd H' h.1 h.2)
  rintro i x H' hx ⟨sH, hl⟩
  have hi := (List.getElem?_eq_some_iff.mp hx).1
  refine ⟨hw x, ht x (List.mem_of_getElem? hx) H' _ sH fun H'' e => ⟨_, e _ _ hl, sz_lt ?_, same_mut (sH.trans e) nd, ?_⟩⟩
  · rw [List.length_map, List.length_replicate]
    omega
  · rw [upd_same, List.replicate_succ', List.map_append]
    rfl
theorem rd_allT {K : PySem.W.Frag} {H : Hp} {Q : VK} {p : Addr} {n : Nat} (h : H p = some (.lst ((List.replicate n true).map V.bl))) (q : Q (.bl true) H) : rAll K [.ref p] H Q := rd_all (sqL_of h) (by
  have e : (List.replicate n true).all id = true := List.all_eq_true.mpr fun x hx => List.eq_of_mem_replicate hx
  rw [e]
  exact q)
theorem cut_fromV (xs : List V) {i : Int} (n : Nat) (h : i = (n : Int)) : cutV xs (some i) none = xs.drop n := by
  have := cut_from (fun v : V => v) xs n h
  rw [List.map_id', List.map_id'] at this
  exact this
theorem cut_toV (xs : List V) {i : Int} (n : Nat) (h : i = (n : Int)) : cutV xs none (some i) = xs.take n := by
  have := cut_to (fun v : V => v) xs n h
  rw [List.map_id', List.map_id'] at this
  exact this
theorem paired_drop {α β : Type} {F : α → β → Prop} : ∀ {l₁ : List α} {l₂ : List β} (n : Nat), Paired F l₁ l₂ → Paired F (l₁.drop n) (l₂.drop n)
  | _, _, 0, h => h
  | _, _, _ + 1, .nil => .nil
  | _, _, n + 1, .cons _ t => paired_drop n t
/-- an item of a list of numbers -/
theorem at_int {ns : List Int} {i : Nat} {z : Int} (h : ns[i]? = some z) : atI (ns.map V.int) (i : Int) = some (.int z) := atI_nat (by rw [List.getElem?_map, h]; rfl)
theorem get_int {ns : List Int} {i : Nat} {x : V} (h : (ns.map V.int)[i]? = some x) : ∃ z, ns[i]? = some z ∧ x = .int z := by
  rw [List.getElem?_map] at h
  cases e : ns[i]? with
  | none =>
    rw [e] at h
    cases h
  | some z =>
    rw [e] at h
    exact ⟨z, rfl, (Option.some.inj h).symm⟩

def iRR1 : Int → Int → Hp → (It → Hp → Prop) → Prop := fun a b H1 R => -(2 ^ 62) ≤ a ∧ a < 2 ^ 62 ∧ -(2 ^ 62) ≤ b ∧ b < 2 ^ 62 ∧ R (Itc (a + (((b - a).toNat : Nat) : Int) - 1) (-1) (b - a).toNat) H1
section
variable {σ : L2.St} {H : Hp} {te : TE} {R : It → Hp → Prop} {n : Nat}
theorem rd_iRR {tr : L2.St → Hp → (Int → Int → Hp → Prop) → Prop} (h : tr σ H fun a b H1 => iRR1 a b H1 R) : iRevR tr σ H R := h
theorem rd_tRg1 {QR : Int → Int → Hp → Prop} (h : te σ H fun x H1 => ∃ i, x = .int i ∧ QR 0 i H1) : tRg1 te σ H QR := h
theorem rd_rr1 (c : n ≤ 1000000) (h : R (Itc ((n : Int) - 1) (-1) n) H) : iRR1 0 (n : Int) H R := by
  refine ⟨by omega, by omega, by omega, by omega, ?_⟩
  have e : ((n : Int) - 0).toNat = n := by omega
  rw [e, Int.zero_add]
  exact h
end

/-! ### while -/
def WhW (c : TT) (tb : TS) (D : Ends) (σ : L2.St) (H : Hp) : Prop := ∃ W : Nat → L2.St → Hp → Prop, (∃ m, W m σ H) ∧ ∀ m σ H, W m σ H →
  c σ H fun b H1 => if b = true then ∃ N : L2.St → Hp → Prop, (∀ σ' H', N σ' H' → ∃ m', m' < m ∧ W m' σ' H') ∧ tb { D with nx := N, ct := N, bk := D.nx } σ H1 else D.nx σ H1
theorem rd_while {nx bk ct : L2.St → Hp → Prop} {rt : VK} {σ : L2.St} {H : Hp} {c : TT} {tb : TS} (h : WhW c tb ⟨nx, rt, bk, ct⟩ σ H) : tWhile c tb ⟨nx, rt, bk, ct⟩ σ H := h
theorem while_w {nx bk ct : L2.St → Hp → Prop} {rt : VK} {σ : L2.St} {H : Hp} {c : TT} {tb : TS} (W : Nat → L2.St → Hp → Prop) (m0 : Nat) (h0 : W m0 σ H)
    (hs : ∀ m σ H, W m σ H → c σ H fun b H1 => if b = true then ∃ N : L2.St → Hp → Prop, (∀ σ' H', N σ' H' → ∃ m', m' < m ∧ W m' σ' H') ∧ tb ⟨N, rt, nx, N⟩ σ H1 else nx σ H1) : WhW c tb ⟨nx, rt, bk, ct⟩ σ H := ⟨W, ⟨m0, h0⟩, hs⟩

/-- [e for x in xs] where each e is False -/
theorem lc_false {σ : L2.St} {H : Hp} {Q : VK} {te : TE} {vs : List Nat} {K : PySem.W.Frag} {a D : Addr} {xs : List V} {j : Nat} (hs : SqL K H a xs) (nd : H D = none) (hz : xs.length ≤ 90000) (hw : ∀ x, wipe ((wipe σ vs).set j (some x)) vs = wipe σ vs)
    (ht : ∀ x ∈ xs, ∀ (H' : Hp) (Q' : VK), Same H H' → (∀ H'', Same H' H'' → Q' (.bl false) H'') → te ((wipe σ vs).set j (some x)) H' Q')
    (hd : ∀ H', Same H H' → H' D = some (.lst ((List.replicate xs.length false).map V.bl)) → Q (.ref D) H') : LcW (Itl K a) D (gName j) tYes te vs σ Q H := by
  refine lc_l (xs := xs) (fun i H' => Same H H' ∧ H' D = some (.lst ((List.replicate i false).map V.bl))) ⟨same_new nd, upd_same⟩ (fun i H' _ h => h.1.seq hs) ?_ (fun H' h => hd H' h.1 h.2)
  rintro i x H' hx ⟨sH, hl⟩
  have hi := (List.getElem?_eq_some_iff.mp hx).1
  refine ⟨hw x, ht x (List.mem_of_getElem? hx) H' _ sH fun H'' e => ⟨_, e _ _ hl, sz_lt ?_, same_mut (sH.trans e) nd, ?_⟩⟩
  · rw [List.length_map, List.length_replicate]
    omega
  · rw [upd_same, List.replicate_succ', List.map_append]
    rfl
theorem rd_anyF {K : PySem.W.Frag} {H : Hp} {Q : VK} {p : Addr} {n : Nat} (h : H p = some (.lst ((List.replicate n false).map V.bl))) (q : Q (.bl false) H) : rAny K [.ref p] H Q := rd_any (sqL_of h) (by
  have e : (List.replicate n false).any id = false := List.any_eq_false.mpr fun x hx => by rw [List.eq_of_mem_replicate hx]; decide
  rw [e]
  exact q)
/-- [e for x, y in a list of pairs] -/
theorem lc_2 {σ : L2.St} {H : Hp} {Q : VK} {te : TE} {vs : List Nat} {K : PySem.W.Frag} {a D : Addr} {xs : List V} {j l m : Nat} (Pv : Nat → Hp → Prop) (h0 : Pv 0 (upd H D (.lst []))) (hl : ∀ i H, i ≤ xs.length → Pv i H → SqL K H a xs)
    (hs : ∀ i x H, xs[i]? = some x → Pv i H → ∃ t y z, x = .ref t ∧ SqT K H t [y, z] ∧ wipe (((wipe σ vs).set j (some y)).set l (some z)) vs = wipe σ vs ∧ te (((wipe σ vs).set j (some y)).set l (some z)) H fun y H4 => ∃ acc, H4 D = some (.lst acc) ∧ acc.length < sizeLine ∧ Pv (i + 1) (upd H4 D (.lst (acc ++ [y]))))
    (hd : ∀ H, Pv xs.length H → Q (.ref D) H) (hm : m = 2 := by rfl) : LcW (Itl K a) D (gTup K m (gCons (gName j) (gCons (gName l) gNil))) tYes te vs σ Q H := by
  subst hm
  refine lc_list (D := D) Pv h0 hl (fun i x H hi p => ?_) hd
  obtain ⟨t, y, z, rfl, ht, hw, he⟩ := hs i x H hi p
  exact ⟨t, _, rfl, ht, rfl, y, [z], rfl, z, [], rfl, rfl, hw, rd_ifT (B := Pv (i + 1) H) (c := true) rfl he⟩
theorem cut_mid {α : Type} (f : α → V) (xs : List α) {i j : Int} (n m : Nat) (h : i = (n : Int)) (h2 : j = (m : Int)) (hm : m ≤ xs.length) (hn : n ≤ m) : cutV (xs.map f) (some i) (some j) = ((xs.drop n).take (m - n)).map f := by
  subst h h2
  unfold cutV
  rw [HT.sIx_nat, HT.sIx_nat, List.length_map, Nat.min_eq_left hm, Nat.min_eq_left (by omega), List.map_take, List.map_drop]

theorem pg_2 {X : Cx} {i j k : Nat} {x y : Str} {px py pos : Pos} (hc : X.calm = true) (hN : X.N.Nodup) (hi : X.N[i]? = some x) (hj : X.N[j]? = some y) (lx : X.env.scope.names.lookup x = some .local) (ly : X.env.scope.names.lookup y = some .local) :
    PG X (.Tuple [.Name x px, .Name y py] k pos) (gTup X.K 2 (gCons (gName i) (gCons (gName j) gNil))) :=
  pg_tup hc (pgs_cons (pg_name hN hi (.inl lx) (.inr lx)) (pgs_cons (pg_name hN hj (.inl ly) (.inr ly)) pgs_nil))

theorem rd_sorted {K : PySem.W.Frag} {H : Hp} {Q : VK} {a : Addr} {ns : List Int} (h : SqL K H a (ns.map V.int)) (hl : ns.length < 64) (q : ∀ (ns' : List Int) (p : Addr), ns'.Perm ns → ns'.Pairwise (· ≤ ·) → H p = none → Q (.ref p) (upd H p (.lst (ns'.map V.int)))) : rSorted K [.ref a] H Q := ⟨a, ns, rfl, h, hl, q⟩
theorem lc_tt {σ : L2.St} {H : Hp} {Q : VK} {tt : TT} {te : TE} {vs : List Nat} {K : PySem.W.Frag} {a D : Addr} {xs : List V} {j : Nat} (Pv : Nat → Hp → Prop) (h0 : Pv 0 (upd H D (.lst []))) (hl : ∀ i H, i ≤ xs.length → Pv i H → SqT K H a xs)
    (hs : ∀ i x H, xs[i]? = some x → Pv i H → wipe ((wipe σ vs).set j (some x)) vs = wipe σ vs ∧ tt ((wipe σ vs).set j (some x)) H fun b H3 => if b = true then te ((wipe σ vs).set j (some x)) H3 fun y H4 => ∃ acc, H4 D = some (.lst acc) ∧ acc.length < sizeLine ∧ Pv (i + 1) (upd H4 D (.lst (acc ++ [y]))) else Pv (i + 1) H3)
    (hd : ∀ H, Pv xs.length H → Q (.ref D) H) : LcW (Itt K a) D (gName j) tt te vs σ Q H := lc_tup (D := D) Pv h0 hl hs hd
end Peg

namespace Peg

/-! ### the three rules -/
inductive Rule where
  | free | line | round
  deriving DecidableEq

def isNear (r : Rule) (a b : Int) : Bool := match r with
  | .line => decide (iabs (a - b) = 1)
  | .free => true
  | .round => decide (b = (a + 1) % 3)
/-- whether a move from a to another peg b is one of the rule's -/
def allowed (r : Rule) (a b : Int) : Bool := match r with
  | .line => decide (iabs (a - b) = 1)
  | .round => decide (b = (a + 1) % 3)
  | .free => !decide (a = b)
def P3 (p : Int) : Prop := p = 0 ∨ p = 1 ∨ p = 2
def AllP (s : List Int) : Prop := ∀ p ∈ s, P3 p

def tower (r : Rule) (c : Int × Int) (a b : Int) : Int := if a = b then 0 else if isNear r a b = true then c.1 else c.2
def steps (r : Rule) (a b : Int) : List (Int × Int) := if a = b then [] else if isNear r a b = true then [(a, b)] else [(a, 3 - a - b), (3 - a - b, b)]
def tw (r : Rule) : Nat → Int × Int
  | 0 => (0, 0)
  | n + 1 => match r with
    | .free => (2 * (tw r n).1 + 1, 2 * (tw r n).1 + 1)
    | .line => ((tw r n).2 + 1 + (tw r n).1, 3 * (tw r n).2 + 2)
    | .round => (2 * (tw r n).2 + 1, 2 * (tw r n).2 + 2 + (tw r n).1)
/-- the peg for which the lesser discs go first -/
def gn (r : Rule) (a g : Int) : Int := if a = g then g else if isNear r a g = true then 3 - a - g else g
def bf (r : Rule) (a g : Int) (c : Int × Int) : Int := if a = g then 0 else if isNear r a g = true then 1 + tower r c (3 - a - g) g else 2 + tower r c g a + tower r c a g
/-- how many moves are left: the greatest disc first -/
def L (r : Rule) : List Int → Int → Int
  | [], _ => 0
  | a :: s, g => bf r a g (tw r s.length) + L r s (gn r a g)
/-- where a disc goes first -/
def fst (r : Rule) (a g : Int) : Int := if isNear r a g = true then g else 3 - a - g
/-- the next move -/
def N (r : Rule) : List Int → Int → Option (Nat × Int)
  | [], _ => none
  | a :: s, g => match N r s (gn r a g) with
    | some m => some m
    | none => if a = g then none else some (s.length, fst r a g)

/-- a move: disc d to peg e -/
inductive Mv (r : Rule) : List Int → Nat → Int → List Int → Prop
  | here {a e : Int} {s : List Int} (h : allowed r a e = true) (ha : ∀ x ∈ s, x = 3 - a - e) (hp : P3 e) : Mv r (a :: s) s.length e (e :: s)
  | there {a e : Int} {s s' : List Int} {d : Nat} (h : Mv r s d e s') : Mv r (a :: s) d e (a :: s')

theorem Mv.len {r : Rule} {s s' : List Int} {d : Nat} {e : Int} (h : Mv r s d e s') : s'.length = s.length ∧ d < s.length := by
  induction h with
  | here _ _ _ => exact ⟨rfl, Nat.lt_succ_self _⟩
  | there _ ih => exact ⟨congrArg (· + 1) ih.1, Nat.lt_succ_of_lt ih.2⟩
theorem Mv.peg {r : Rule} {s s' : List Int} {d : Nat} {e : Int} (h : Mv r s d e s') : P3 e := by
  induction h with
  | here _ _ hp => exact hp
  | there _ ih => exact ih
theorem Mv.all {r : Rule} {s s' : List Int} {d : Nat} {e : Int} (h : Mv r s d e s') (hs : AllP s) : AllP s' := by
  induction h with
  | here _ _ hp => exact fun p hp' => (List.mem_cons.mp hp').elim (fun q => q ▸ hp) fun q => hs p (List.mem_cons_of_mem _ q)
  | there _ ih => exact fun p hp' => (List.mem_cons.mp hp').elim (fun q => q ▸ hs _ List.mem_cons_self) fun q => ih (fun x hx => hs x (List.mem_cons_of_mem _ hx)) p q

theorem P3.third {a e : Int} (ha : P3 a) (he : P3 e) (h : a ≠ e) : P3 (3 - a - e) := by
  unfold P3 at *; omega
theorem allowed_ne {r : Rule} {a e : Int} (ha : P3 a) (h : allowed r a e = true) : a ≠ e := by
  intro q; subst q
  cases r
  · simp [allowed] at h
  · simp [allowed, iabs] at h
  · rcases ha with rfl | rfl | rfl <;> revert h <;> decide

/-! ### what is known of whole towers -/
structure TwOk (r : Rule) (c : Int × Int) : Prop where
  nn : 0 ≤ c.1
  le : c.1 ≤ c.2
  le2 : c.2 ≤ 2 * c.1
  fr : r = .free → c.1 = c.2
  li : r = .line → c.2 = 2 * c.1
theorem tw_ok (r : Rule) : ∀ n, TwOk r (tw r n)
  | 0 => ⟨Int.le_refl 0, Int.le_refl 0, Int.le_refl 0, fun _ => rfl, fun _ => rfl⟩
  | n + 1 => by
    have ih := tw_ok r n
    obtain ⟨h1, h2, h3, h4, h5⟩ := ih
    cases r
    · have h4 := h4 rfl
      exact ⟨by simp only [tw]; omega, by simp only [tw]; omega, by simp only [tw]; omega, fun _ => rfl, fun q => nomatch q⟩
    · have h5 := h5 rfl
      exact ⟨by simp only [tw]; omega, by simp only [tw]; omega, by simp only [tw]; omega, (fun q => nomatch q), fun _ => by simp only [tw]; omega⟩
    · exact ⟨by simp only [tw]; omega, by simp only [tw]; omega, by simp only [tw]; omega, (fun q => nomatch q), fun q => nomatch q⟩

theorem gn_P3 {r : Rule} {a g : Int} (ha : P3 a) (hg : P3 g) : P3 (gn r a g) := by
  unfold gn
  split
  · exact hg
  · split
    · exact ha.third hg (by assumption)
    · exact hg
theorem fst_P3 {r : Rule} {a g : Int} (ha : P3 a) (hg : P3 g) (h : a ≠ g) : P3 (fst r a g) := by
  unfold fst
  split
  · exact hg
  · exact ha.third hg h
theorem fst_ne {r : Rule} {a g : Int} (h : a ≠ g) (ha : P3 a) (hg : P3 g) : fst r a g ≠ a := by
  unfold fst
  split
  · exact fun q => h q.symm
  · unfold P3 at *; omega
theorem fst_allowed {r : Rule} {a g : Int} (ha : P3 a) (hg : P3 g) (h : a ≠ g) : allowed r a (fst r a g) = true := by
  cases r <;> rcases ha with rfl | rfl | rfl <;> rcases hg with rfl | rfl | rfl <;> revert h <;> decide
/-- the peg on which the lesser ones wait, while the disc goes its first step -/
theorem fst_gn {r : Rule} {a g : Int} (ha : P3 a) (hg : P3 g) (h : a ≠ g) : gn r a g = 3 - a - fst r a g := by
  cases r <;> rcases ha with rfl | rfl | rfl <;> rcases hg with rfl | rfl | rfl <;> revert h <;> decide

/-- a whole tower -/
theorem L_rep (r : Rule) {c : Int} (hc : P3 c) : ∀ (n : Nat) {g : Int}, P3 g → L r (List.replicate n c) g = tower r (tw r n) c g
  | 0, g, _ => by
    show (0 : Int) = tower r (0, 0) c g
    unfold tower
    split
    · rfl
    · split <;> rfl
  | n + 1, g, hg => by
    have ih := L_rep r hc n (g := gn r c g) (gn_P3 hc hg)
    show bf r c g (tw r (List.replicate n c).length) + L r (List.replicate n c) (gn r c g) = _
    rw [ih, List.length_replicate]
    obtain ⟨h1, h2, h3, h4, h5⟩ := tw_ok r n
    show _ = tower r (tw r (n + 1)) c g
    generalize hx : (tw r n).1 = x at *
    generalize hy : (tw r n).2 = y at *
    have hp : tw r n = (x, y) := by rw [← hx, ← hy]
    cases r <;> rcases hc with rfl | rfl | rfl <;> rcases hg with rfl | rfl | rfl <;> simp only [tw, hp] <;>
      simp (config := { decide := true }) [bf, gn, tower, isNear, iabs] <;> omega

/-! ### left -/
theorem tower_nn {r : Rule} {c : Int × Int} (h : TwOk r c) (a b : Int) : 0 ≤ tower r c a b := by
  have h1 := h.nn
  have h2 := h.le
  unfold tower
  split
  · exact Int.le_refl _
  · split <;> omega
theorem bf_nn {r : Rule} {c : Int × Int} (h : TwOk r c) (a g : Int) : 0 ≤ bf r a g c := by
  have h1 := tower_nn h (3 - a - g) g
  have h2 := tower_nn h g a
  have h3 := tower_nn h a g
  unfold bf
  split
  · exact Int.le_refl _
  · split <;> omega
theorem bf_pos {r : Rule} {c : Int × Int} (h : TwOk r c) {a g : Int} (q : a ≠ g) : 0 < bf r a g c := by
  have h1 := tower_nn h (3 - a - g) g
  have h2 := tower_nn h g a
  have h3 := tower_nn h a g
  unfold bf
  rw [if_neg q]
  split <;> omega
theorem L_nn (r : Rule) : ∀ (s : List Int) (g : Int), 0 ≤ L r s g
  | [], _ => Int.le_refl _
  | a :: s, g => by
    have h1 := L_nn r s (gn r a g)
    have h2 := bf_nn (tw_ok r s.length) a g
    show 0 ≤ bf r a g (tw r s.length) + L r s (gn r a g)
    omega
theorem gn_self (r : Rule) (g : Int) : gn r g g = g := if_pos rfl
theorem bf_self (r : Rule) (g : Int) (c : Int × Int) : bf r g g c = 0 := if_pos rfl
theorem L_zero (r : Rule) : ∀ (s : List Int) (g : Int), L r s g = 0 ↔ ∀ p ∈ s, p = g
  | [], g => ⟨fun _ p h => (nomatch h), fun _ => rfl⟩
  | a :: s, g => by
    have h1 := L_nn r s (gn r a g)
    have h2 := bf_nn (tw_ok r s.length) a g
    constructor
    · intro h
      have h : bf r a g (tw r s.length) + L r s (gn r a g) = 0 := h
      have ea : a = g := by
        by_cases q : a = g
        · exact q
        · have := bf_pos (tw_ok r s.length) q
          omega
      subst ea
      rw [gn_self, bf_self] at h
      have ih := (L_zero r s a).mp (by omega)
      exact fun p hp => (List.mem_cons.mp hp).elim id (ih p)
    · intro h
      have ea : a = g := h a List.mem_cons_self
      subst ea
      show bf r a a (tw r s.length) + L r s (gn r a a) = 0
      rw [gn_self, bf_self, (L_zero r s a).mpr fun p hp => h p (List.mem_cons_of_mem _ hp)]
      rfl
theorem N_none (r : Rule) : ∀ (s : List Int) (g : Int), N r s g = none ↔ ∀ p ∈ s, p = g
  | [], g => ⟨fun _ p h => (nomatch h), fun _ => rfl⟩
  | a :: s, g => by
    constructor
    · intro h
      unfold N at h
      split at h
      · cases h
      · rename_i hn
        split at h
        · rename_i ea
          subst ea
          rw [gn_self] at hn
          exact fun p hp => (List.mem_cons.mp hp).elim id ((N_none r s a).mp hn p)
        · cases h
    · intro h
      have ea : a = g := h a List.mem_cons_self
      subst ea
      unfold N
      rw [gn_self, (N_none r s a).mpr fun p hp => h p (List.mem_cons_of_mem _ hp)]
      exact if_pos rfl
theorem N_lt (r : Rule) : ∀ (s : List Int) (g : Int) (d : Nat) (e : Int), N r s g = some (d, e) → d < s.length
  | [], g, d, e, h => nomatch h
  | a :: s, g, d, e, h => by
    unfold N at h
    split at h
    · rename_i m hm
      cases h
      exact Nat.lt_succ_of_lt (N_lt r s _ d e hm)
    · split at h
      · cases h
      · cases h
        exact Nat.lt_succ_self _
theorem rep_of {s : List Int} {c : Int} (h : ∀ x ∈ s, x = c) : s = List.replicate s.length c := List.eq_replicate_iff.mpr ⟨rfl, h⟩

/-- the next move is one that can be done -/
theorem N_mv (r : Rule) : ∀ (s : List Int) (g : Int), AllP s → P3 g → ∀ (d : Nat) (e : Int), N r s g = some (d, e) → ∃ s', Mv r s d e s'
  | [], g, _, _, d, e, h => nomatch h
  | a :: s, g, hs, hg, d, e, h => by
    have ha : P3 a := hs a List.mem_cons_self
    have hs' : AllP s := fun p hp => hs p (List.mem_cons_of_mem _ hp)
    unfold N at h
    split at h
    · rename_i m hm
      cases h
      obtain ⟨s', hv⟩ := N_mv r s (gn r a g) hs' (gn_P3 ha hg) d e hm
      exact ⟨_, .there hv⟩
    · rename_i hn
      split at h
      · cases h
      · rename_i ne
        cases h
        refine ⟨_, .here (fst_allowed ha hg ne) (fun x hx => ?_) (fst_P3 ha hg ne)⟩
        rw [← fst_gn ha hg ne]
        exact (N_none r s _).mp hn x hx

/-- THE STEP: behind a move no less than one fewer, by the rules that go both ways no more than one more; one fewer behind the next move alone -/
structure Step (r : Rule) (s : List Int) (g : Int) (d : Nat) (e : Int) (s' : List Int) : Prop where
  lo : -1 ≤ L r s' g - L r s g
  hi : r ≠ .round → L r s' g - L r s g ≤ 1
  one : L r s' g - L r s g = -1 ↔ N r s g = some (d, e)
theorem step_here (r : Rule) {a e c g : Int} (n : Nat) (ha : P3 a) (he : P3 e) (hg : P3 g) (h : allowed r a e = true) (hc : c = 3 - a - e) :
    Step r (a :: List.replicate n c) g n e (e :: List.replicate n c) := by
  have hne := allowed_ne ha h
  have hcp : P3 c := by
    rw [hc]
    exact ha.third he hne
  have e1 : L r (a :: List.replicate n c) g = bf r a g (tw r n) + tower r (tw r n) c (gn r a g) := by
    show bf r a g (tw r (List.replicate n c).length) + L r (List.replicate n c) (gn r a g) = _
    rw [L_rep r hcp n (gn_P3 ha hg), List.length_replicate]
  have e2 : L r (e :: List.replicate n c) g = bf r e g (tw r n) + tower r (tw r n) c (gn r e g) := by
    show bf r e g (tw r (List.replicate n c).length) + L r (List.replicate n c) (gn r e g) = _
    rw [L_rep r hcp n (gn_P3 he hg), List.length_replicate]
  -- the next move: the disc's own where the lesser ones stand as they shall
  have e3 : N r (a :: List.replicate n c) g = some (n, e) ↔ (a ≠ g ∧ (n = 0 ∨ c = gn r a g) ∧ e = fst r a g) := by
    by_cases q : n = 0 ∨ c = gn r a g
    · have hn : N r (List.replicate n c) (gn r a g) = none := (N_none r _ _).mpr fun p hp => by
        rcases q with q | q
        · subst q
          cases hp
        · rw [List.eq_of_mem_replicate hp, q]
      have e4 : N r (a :: List.replicate n c) g = if a = g then none else some (n, fst r a g) := by
        show (match N r (List.replicate n c) (gn r a g) with | some m => some m | none => if a = g then none else some ((List.replicate n c).length, fst r a g)) = _
        rw [hn, List.length_replicate]
      rw [e4]
      split
      · rename_i z
        exact ⟨(fun w => nomatch w), fun w => absurd z w.1⟩
      · rename_i z
        constructor
        · intro w
          cases w
          exact ⟨z, q, rfl⟩
        · rintro ⟨_, _, rfl⟩
          rfl
    · constructor
      · intro w
        exfalso
        have w : (match N r (List.replicate n c) (gn r a g) with | some m => some m | none => if a = g then none else some ((List.replicate n c).length, fst r a g)) = some (n, e) := w
        split at w
        · rename_i m hm
          cases w
          have := N_lt r _ _ _ _ hm
          rw [List.length_replicate] at this
          omega
        · rename_i hn
          have hn := (N_none r _ _).mp hn
          apply q
          cases n with
          | zero => exact .inl rfl
          | succ n => exact .inr (hn c (by rw [List.replicate_succ]; exact List.mem_cons_self))
      · rintro ⟨_, w, _⟩
        exact absurd w q
  -- a tower is nothing just where it stands or has no discs
  have z0 : n = 0 → tw r n = (0, 0) := fun q => by rw [q]; rfl
  have z1 : n ≠ 0 → 0 < (tw r n).1 := fun q => by
    obtain ⟨m, rfl⟩ : ∃ m, n = m + 1 := ⟨n - 1, by omega⟩
    obtain ⟨h1, h2, h3, h4, h5⟩ := tw_ok r m
    cases r
    · show 0 < 2 * (tw .free m).1 + 1
      omega
    · show 0 < (tw .line m).2 + 1 + (tw .line m).1
      omega
    · show 0 < 2 * (tw .round m).2 + 1
      omega
  obtain ⟨h1, h2, h3, h4, h5⟩ := tw_ok r n
  refine ⟨?_, ?_, ?_⟩
  all_goals (first | rw [e3] | skip)
  all_goals rw [e1, e2]
  all_goals clear e1 e2 e3
  all_goals generalize hx : (tw r n).1 = x at *
  all_goals generalize hy : (tw r n).2 = y at *
  all_goals have hp : tw r n = (x, y) := by rw [← hx, ← hy]
  all_goals rw [hp]
  all_goals rw [hp] at z0
  all_goals subst hc
  all_goals clear hx hy hp hcp
  all_goals by_cases hn : n = 0
  all_goals first
    | (have zz := z0 hn; simp only [Prod.mk.injEq] at zz; obtain ⟨rfl, rfl⟩ := zz; clear z0 z1)
    | (have zz := z1 hn; clear z0 z1)
  all_goals cases r <;> rcases ha with rfl | rfl | rfl <;> rcases he with rfl | rfl | rfl <;> first
    | (exfalso; revert h; decide)
    | skip
  all_goals rcases hg with rfl | rfl | rfl
  all_goals simp (config := { decide := true }) [bf, gn, tower, isNear, iabs, fst, hn] at *
  all_goals omega
theorem step_of (r : Rule) : ∀ {s : List Int} {d : Nat} {e : Int} {s' : List Int}, Mv r s d e s' → ∀ {g : Int}, AllP s → P3 g → Step r s g d e s' := by
  intro s d e s' h
  induction h with
  | @here a e s h hc he =>
    intro g hs hg
    have es := rep_of hc
    have k := step_here r s.length (hs a List.mem_cons_self) he hg h rfl
    rw [← es] at k
    exact k
  | @there a e s s' d h ih =>
    intro g hs hg
    have ha : P3 a := hs a List.mem_cons_self
    obtain ⟨i1, i2, i3⟩ := ih (g := gn r a g) (fun p hp => hs p (List.mem_cons_of_mem _ hp)) (gn_P3 ha hg)
    have hl := h.len
    have e1 : L r (a :: s') g - L r (a :: s) g = L r s' (gn r a g) - L r s (gn r a g) := by
      show (bf r a g (tw r s'.length) + L r s' (gn r a g)) - (bf r a g (tw r s.length) + L r s (gn r a g)) = _
      rw [hl.1]
      omega
    refine ⟨by rw [e1]; exact i1, fun q => by rw [e1]; exact i2 q, ?_⟩
    rw [e1, i3]
    show _ ↔ (match N r s (gn r a g) with | some m => some m | none => if a = g then none else some (s.length, fst r a g)) = some (d, e)
    cases hn : N r s (gn r a g) with
    | some m => exact Iff.rfl
    | none =>
      constructor
      · intro w
        cases w
      · intro w
        exfalso
        simp only at w
        split at w
        · cases w
        · cases w
          omega

/-! ### the goals of all discs, and left as their sum -/
def goalsL (r : Rule) : List Int → Int → List Int
  | [], _ => []
  | a :: s, g => g :: goalsL r s (gn r a g)
theorem goalsL_len (r : Rule) : ∀ (l : List Int) (g : Int), (goalsL r l g).length = l.length
  | [], _ => rfl
  | _ :: l, g => congrArg (· + 1) (goalsL_len r l _)
def goalAt (r : Rule) (l : List Int) (g : Int) (i : Nat) : Int := (l.take i).foldl (fun g a => gn r a g) g
theorem goalsL_get (r : Rule) : ∀ (l : List Int) (g : Int) (i : Nat), i < l.length → (goalsL r l g)[i]? = some (goalAt r l g i)
  | [], _, _, h => absurd h (Nat.not_lt_zero _)
  | _ :: _, _, 0, _ => rfl
  | a :: l, g, i + 1, h => by
    show (goalsL r l (gn r a g))[i]? = _
    rw [goalsL_get r l (gn r a g) i (Nat.lt_of_succ_lt_succ h)]
    rfl
theorem goalAt_succ (r : Rule) (l : List Int) (g : Int) (i : Nat) {a : Int} (h : l[i]? = some a) : goalAt r l g (i + 1) = gn r a (goalAt r l g i) := by
  unfold goalAt
  rw [List.take_add_one, h, List.foldl_append]
  rfl
theorem goalsL_take (r : Rule) (l : List Int) (g : Int) {i : Nat} (h : i < l.length) : (goalsL r l g).take (i + 1) = (goalsL r l g).take i ++ [goalAt r l g i] := by
  rw [List.take_add_one, goalsL_get r l g i h]
  rfl
theorem goalsL_P3 (r : Rule) : ∀ (l : List Int) (g : Int), AllP l → P3 g → AllP (goalsL r l g)
  | [], _, _, _ => fun _ h => nomatch h
  | a :: l, g, hl, hg => fun p hp => (List.mem_cons.mp hp).elim (fun q => q ▸ hg) fun q =>
    goalsL_P3 r l _ (fun x hx => hl x (List.mem_cons_of_mem _ hx)) (gn_P3 (hl a List.mem_cons_self) hg) p q
def M (r : Rule) : List (Int × Int) → Int
  | [] => 0
  | (a, g) :: z => bf r a g (tw r z.length) + M r z
theorem L_M (r : Rule) : ∀ (l : List Int) (g : Int), L r l g = M r (l.zip (goalsL r l g))
  | [], _ => rfl
  | a :: l, g => by
    show bf r a g (tw r l.length) + L r l (gn r a g) = bf r a g (tw r (l.zip (goalsL r l (gn r a g))).length) + M r (l.zip (goalsL r l (gn r a g)))
    rw [L_M r l (gn r a g), List.length_zip, goalsL_len, Nat.min_self]
/-- the least i discs' part -/
def Lpart (r : Rule) (l : List Int) (g : Int) (i : Nat) : Int := M r ((l.zip (goalsL r l g)).drop (l.length - i))
theorem Lpart_zero (r : Rule) (l : List Int) (g : Int) : Lpart r l g 0 = 0 := by
  unfold Lpart
  rw [List.drop_of_length_le (by rw [List.length_zip, goalsL_len, Nat.min_self]; exact Nat.le_refl _)]
  rfl
theorem Lpart_all (r : Rule) (l : List Int) (g : Int) : Lpart r l g l.length = L r l g := by
  unfold Lpart
  rw [Nat.sub_self, List.drop_zero, L_M]
theorem Lpart_succ (r : Rule) (l : List Int) (g : Int) {i : Nat} {a p : Int} (h : i < l.length) (ha : l[l.length - 1 - i]? = some a) (hp : (goalsL r l g)[l.length - 1 - i]? = some p) :
    Lpart r l g (i + 1) = Lpart r l g i + bf r a p (tw r i) := by
  unfold Lpart
  have hz : (l.zip (goalsL r l g)).length = l.length := by rw [List.length_zip, goalsL_len, Nat.min_self]
  have h1 : l.length - (i + 1) < (l.zip (goalsL r l g)).length := by rw [hz]; omega
  rw [List.drop_eq_getElem_cons h1]
  have e1 : l.length - (i + 1) + 1 = l.length - i := by omega
  have e2 : (l.zip (goalsL r l g))[l.length - (i + 1)] = (a, p) := by
    have e3 : l.length - (i + 1) = l.length - 1 - i := by omega
    apply Option.some.inj
    rw [← List.getElem?_eq_getElem h1, e3, List.getElem?_zip_eq_some]
    exact ⟨ha, hp⟩
  rw [e1, e2]
  show bf r a p (tw r ((l.zip (goalsL r l g)).drop (l.length - i)).length) + M r ((l.zip (goalsL r l g)).drop (l.length - i)) = _
  rw [List.length_drop, hz, show l.length - (l.length - i) = i by omega]
  omega
/-- the least discs alone -/
theorem Lpart_drop (r : Rule) : ∀ (l : List Int) (g : Int) (k : Nat), k ≤ l.length → Lpart r l g (l.length - k) = L r (l.drop k) (goalAt r l g k)
  | l, g, 0, _ => by
    rw [Nat.sub_zero, Lpart_all]
    rfl
  | [], g, k + 1, h => absurd h (Nat.not_succ_le_zero _)
  | a :: l, g, k + 1, h => by
    have ih := Lpart_drop r l (gn r a g) k (Nat.le_of_succ_le_succ h)
    have e : Lpart r (a :: l) g ((a :: l).length - (k + 1)) = Lpart r l (gn r a g) (l.length - k) := by
      unfold Lpart
      have e1 : (a :: l).length - ((a :: l).length - (k + 1)) = k + 1 := by
        have : k + 1 ≤ (a :: l).length := h
        omega
      have e2 : l.length - (l.length - k) = k := by
        have : k + 1 ≤ l.length + 1 := h
        omega
      rw [e1, e2]
      rfl
    rw [e, ih]
    rfl
/-- a disc's moves, step by step -/
def bstep (r : Rule) (c : Int × Int) (s : Int × Int) (x : Int × Int) : Int × Int := ((if s.1 > 0 then s.1 + tower r c s.2 (3 - x.1 - x.2) else s.1) + 1, 3 - x.1 - x.2)
theorem tower_self (r : Rule) (c : Int × Int) (a : Int) : tower r c a a = 0 := if_pos rfl
theorem bf_fold (r : Rule) (c : Int × Int) (a g : Int) : ((steps r a g).foldl (bstep r c) (0, g)).1 + tower r c ((steps r a g).foldl (bstep r c) (0, g)).2 g = bf r a g c := by
  unfold steps bf
  split
  · show (0 : Int) + tower r c g g = 0
    rw [tower_self]
    rfl
  · split
    · show ((if (0 : Int) > 0 then (0 : Int) + tower r c g (3 - a - g) else 0) + 1) + tower r c (3 - a - g) g = _
      rw [if_neg (by decide)]
      omega
    · show ((if ((if (0 : Int) > 0 then (0 : Int) + tower r c g (3 - a - (3 - a - g)) else 0) + 1) > 0 then ((if (0 : Int) > 0 then (0 : Int) + tower r c g (3 - a - (3 - a - g)) else 0) + 1) + tower r c (3 - a - (3 - a - g)) (3 - (3 - a - g) - g) else ((if (0 : Int) > 0 then (0 : Int) + tower r c g (3 - a - (3 - a - g)) else 0) + 1)) + 1) + tower r c (3 - (3 - a - g) - g) g = _
      have z0 : ¬ ((0 : Int) > 0) := by decide
      have z1 : ((0 : Int) + 1 > 0) := by decide
      rw [if_neg z0, if_pos z1, show 3 - a - (3 - a - g) = g by omega, show 3 - (3 - a - g) - g = a by omega]
      omega
theorem steps_nil {r : Rule} {a g : Int} : steps r a g = [] ↔ a = g := by
  unfold steps
  split
  · exact ⟨fun _ => by assumption, fun _ => rfl⟩
  · constructor
    · intro h
      split at h <;> cases h
    · intro h
      exact absurd h (by assumption)
theorem steps_fst {r : Rule} {a g : Int} (h : a ≠ g) : ∃ l, steps r a g = (a, fst r a g) :: l := by
  unfold steps fst
  rw [if_neg h]
  split
  · exact ⟨[], rfl⟩
  · exact ⟨_, rfl⟩
theorem gn_fst {r : Rule} {a g : Int} (h : a ≠ g) : gn r a g = 3 - a - fst r a g := by
  unfold gn fst
  rw [if_neg h]
  split
  · rfl
  · omega
theorem gn_eq {r : Rule} {a g : Int} (h : a = g) : gn r a g = g := if_pos h
theorem N_drop (r : Rule) : ∀ (l : List Int) (g : Int) (k : Nat) {m : Nat × Int}, N r (l.drop k) (goalAt r l g k) = some m → N r l g = some m
  | l, g, 0, m, h => h
  | [], g, k + 1, m, h => by
    simp at h
    cases h
  | a :: l, g, k + 1, m, h => by
    have ih := N_drop r l (gn r a g) k (m := m) h
    show (match N r l (gn r a g) with | some m => some m | none => _) = some m
    rw [ih]
end Peg

namespace Peg
open PySem PyProof.Rows L2
/-- what the module's names are -/
structure Blt (mg : Str → Option Value) : Prop where
  abs : mg "abs" = none
  len : mg "len" = none
  range : mg "range" = none
  enumerate : mg "enumerate" = none
  reversed : mg "reversed" = none
  isinstance : mg "isinstance" = none
  int : mg "int" = none
  bool : mg "bool" = none
  str : mg "str" = none
  list : mg "list" = none
  tuple : mg "tuple" = none
  all : mg "all" = none
  any : mg "any" = none
  max : mg "max" = none
  min : mg "min" = none
  sorted : mg "sorted" = none
def Rule.s : Rule → Str
  | .free => "free"
  | .line => "line"
  | .round => "round"
theorem Rule.s_inj : ∀ {r r' : Rule}, r.s = r'.s → r = r' := by
  intro r r' h
  cases r <;> cases r' <;> first | rfl | (exfalso; revert h; decide +kernel)
theorem Rule.s_eq (r r' : Rule) : decide (V.str r.s = V.str r'.s) = decide (r = r') := by
  by_cases h : r = r'
  · subst h
    rw [decide_eq_true rfl, decide_eq_true rfl]
  · rw [decide_eq_false h, decide_eq_false fun q => h (Rule.s_inj (V.str.inj q))]
section
variable {H : Hp} {Q : VK} {r : Rule}
theorem rd_eqF (h : Q (.bl (decide (r = .free))) H) : rEq (.str r.s) (.str (Str.ofString "free")) H Q := ⟨rfl, by
  have e := Rule.s_eq r .free
  rw [← e] at h
  exact h⟩
theorem rd_eqL (h : Q (.bl (decide (r = .line))) H) : rEq (.str r.s) (.str (Str.ofString "line")) H Q := ⟨rfl, by
  have e := Rule.s_eq r .line
  rw [← e] at h
  exact h⟩
theorem rd_eqR (h : Q (.bl (decide (r = .round))) H) : rEq (.str r.s) (.str (Str.ofString "round")) H Q := ⟨rfl, by
  have e := Rule.s_eq r .round
  rw [← e] at h
  exact h⟩
theorem rd_mulL {a b : Int} {g : Int → Int → V} (c : -(2 ^ 64) < a ∧ a < 2 ^ 64) (h : Q (g a b) H) : rI CMul g (.int a) (.int b) H Q := ⟨a, b, rfl, rfl, .inl c, h⟩
theorem rd_mulR {a b : Int} {g : Int → Int → V} (c : -(2 ^ 64) < b ∧ b < 2 ^ 64) (h : Q (g a b) H) : rI CMul g (.int a) (.int b) H Q := ⟨a, b, rfl, rfl, .inr c, h⟩
theorem rd_modP {a b : Int} {g : Int → Int → V} (c : 0 < b) (h : Q (g a b) H) : rI (fun _ j => 0 < j) g (.int a) (.int b) H Q := ⟨a, b, rfl, rfl, c, h⟩
theorem rd_divP {a b : Int} {g : Int → Int → V} (c : 0 < b ∧ b < 1073741824) (h : Q (g a b) H) : rI CDiv g (.int a) (.int b) H Q := ⟨a, b, rfl, rfl, c, h⟩

/-! ### the promises -/
def sp_is_near : Sp := fun vs H Q _ => ∃ (r : Rule) (a b : Int), vs = [.str r.s, .int a, .int b] ∧ Q (.bl (isNear r a b)) H
theorem rd_is_near {E : XK} {a b : Int} (h : Q (.bl (isNear r a b)) H) : sp_is_near ([.str r.s, .int a, .int b] ++ []) H Q E := ⟨r, a, b, rfl, h⟩
/-- a pair of numbers stands at p -/
def Pair (K : PySem.W.Frag) (H : Hp) (v : V) (c : Int × Int) : Prop := ∃ p, v = .ref p ∧ SqT K H p [.int c.1, .int c.2]
theorem Pair.mono {K : PySem.W.Frag} {H' : Hp} {v : V} {c : Int × Int} (e : Same H H') (h : Pair K H v c) : Pair K H' v c := by
  obtain ⟨p, e1, h1⟩ := h
  exact ⟨p, e1, sqT_mono e h1⟩
def sp_tower (K : PySem.W.Frag) : Sp := fun vs H Q _ => ∃ (r : Rule) (v : V) (c : Int × Int) (a b : Int), vs = [.str r.s, v, .int a, .int b] ∧ Pair K H v c ∧ Q (.int (tower r c a b)) H
theorem rd_tower {K : PySem.W.Frag} {E : XK} {v : V} {c : Int × Int} {a b : Int} (p : Pair K H v c) (h : Q (.int (tower r c a b)) H) : sp_tower K ([.str r.s, v, .int a, .int b] ++ []) H Q E := ⟨r, v, c, a, b, rfl, p, h⟩
/-- a list of pairs stands at p -/
def Pairs (K : PySem.W.Frag) (H : Hp) (p : Addr) (cs : List (Int × Int)) : Prop := ∃ vs : List V, SqL K H p vs ∧ Paired (fun v c => Pair K H v c) vs cs
theorem Pairs.mono {K : PySem.W.Frag} {H' : Hp} {p : Addr} {cs : List (Int × Int)} (e : Same H H') (h : Pairs K H p cs) : Pairs K H' p cs := by
  obtain ⟨vs, h1, h2⟩ := h
  exact ⟨vs, e.seq h1, Paired.mapP h2 fun _ _ q => q.mono e⟩
def sp_steps_of (K : PySem.W.Frag) : Sp := fun vs H Q _ => ∃ (r : Rule) (a b : Int), vs = [.str r.s, .int a, .int b] ∧ ∀ p H', H p = none → Same H H' → Pairs K H' p (steps r a b) → Q (.ref p) H'
def sp_towers (K : PySem.W.Frag) : Sp := fun vs H Q _ => ∃ (r : Rule) (n : Nat), vs = [.str r.s, .int n] ∧ n ≤ 1000 ∧ ∀ p H', H p = none → Same H H' → Pairs K H' p ((List.range (n + 1)).map (tw r)) → Q (.ref p) H'
/-- pairs that are laid while a list grows -/
def Laid (H : Hp) (vs : List V) (cs : List (Int × Int)) : Prop := Paired (fun v c => ∃ p, v = .ref p ∧ H p = some (.tup [.int c.1, .int c.2])) vs cs
theorem Laid.app {H : Hp} {vs ys : List V} {cs : List (Int × Int)} {l t : Addr} {a b : Int} {o : HO} (h : Laid H vs cs) (hl : H l = some (.lst ys)) (nt : H t = none) : Laid (upd (upd H t (.tup [.int a, .int b])) l o) (vs ++ [.ref t]) (cs ++ [(a, b)]) := by
  have hl2 := same_new (o := .tup [.int a, .int b]) nt _ _ hl
  exact Paired.snoc (Paired.mapP h fun v c ⟨p, e, h⟩ => ⟨p, e, tup_keep (same_new nt _ _ h) hl2⟩) ⟨t, rfl, tup_keep upd_same hl2⟩
theorem Laid.pairs {K : PySem.W.Frag} {H : Hp} {vs : List V} {cs : List (Int × Int)} {l : Addr} (h : Laid H vs cs) (hl : H l = some (.lst vs)) : Pairs K H l cs := ⟨vs, sqL_of hl, Paired.mapP h fun _ _ ⟨p, e, h⟩ => ⟨p, e, sqT_of h⟩⟩
theorem Laid.len {H : Hp} {vs : List V} {cs : List (Int × Int)} (h : Laid H vs cs) : vs.length = cs.length := Paired.length h
theorem Pair.dp {K : PySem.W.Frag} {H : Hp} {v : V} {c : Int × Int} (h : Pair K H v c) : Dp K H v (dPair c) := by
  obtain ⟨p, rfl, h⟩ := h
  exact .tup h (.cons (.int _) (.cons (.int _) .nil))
theorem dpAll_pairs {K : PySem.W.Frag} {H : Hp} : ∀ {vs : List V} {cs : List (Int × Int)}, Paired (fun v c => Pair K H v c) vs cs → DpAll K H vs (cs.map dPair)
  | _, _, .nil => .nil
  | _, _, .cons h t => .cons h.dp (dpAll_pairs t)
theorem Pairs.dp {K : PySem.W.Frag} {H : Hp} {p : Addr} {cs : List (Int × Int)} (h : Pairs K H p cs) : Dp K H (.ref p) (dPairs cs) := by
  obtain ⟨vs, h1, h2⟩ := h
  exact .lst h1 (dpAll_pairs h2)
/-- steps != [] -/
theorem rd_nePairs {K : PySem.W.Frag} {H : Hp} {Q : VK} {p l : Addr} {cs : List (Int × Int)} (h : Pairs K H p cs) (nl : H l = none) (q : Q (.bl (!decide (cs = []))) (upd H l (.lst []))) : rNeD K (.ref p) (.ref l) (upd H l (.lst [])) Q :=
  rd_neD (d := dPairs cs) (e := dPairs []) (h.mono (same_new nl)).dp (.lst (sqL_of upd_same) .nil) (good_pairs 0 cs).good (good_pairs 0 []).good dPairs_inj q
theorem rd_eqPairs {K : PySem.W.Frag} {H : Hp} {Q : VK} {p l : Addr} {cs : List (Int × Int)} (h : Pairs K H p cs) (nl : H l = none) (q : Q (.bl (decide (cs = []))) (upd H l (.lst []))) : rEqD K (.ref p) (.ref l) (upd H l (.lst [])) Q :=
  rd_eqD (d := dPairs cs) (e := dPairs []) (h.mono (same_new nl)).dp (.lst (sqL_of upd_same) .nil) (good_pairs 0 cs).good (good_pairs 0 []).good dPairs_inj q
def sp_behind_first (K : PySem.W.Frag) : Sp := fun vs H Q _ => ∃ (r : Rule) (a g : Int) (v : V) (c : Int × Int), vs = [.str r.s, .int a, .int g, v] ∧ Pair K H v c ∧ ∀ H', Same H H' → Q (.int (bf r a g c)) H'
def sp_goals_of (K : PySem.W.Frag) : Sp := fun vs H Q _ => ∃ (r : Rule) (a : Addr) (s : List Int) (g : Int), vs = [.str r.s, .ref a, .int g] ∧ SqL K H a (s.map V.int) ∧ s.length ≤ 1000 ∧
  ∀ p H', H p = none → Same H H' → H' p = some (.lst (((goalsL r s.reverse g).reverse).map V.int)) → Q (.ref p) H'
def sp_left_of (K : PySem.W.Frag) : Sp := fun vs H Q _ => ∃ (r : Rule) (a tb : Addr) (s : List Int) (g : Int) (m : Nat), vs = [.str r.s, .ref a, .int g, .ref tb] ∧ SqL K H a (s.map V.int) ∧ s.length ≤ 1000 ∧ Pairs K H tb ((List.range (m + 1)).map (tw r)) ∧ s.length ≤ m + 1 ∧
  ∀ H', Same H H' → Q (.int (L r s.reverse g)) H'
/-! ### the checks, of what is right -/
def sp_is_whole : Sp := fun vs H Q _ => ∃ i : Int, vs = [.int i] ∧ Q (.bl true) H
def sp_is_peg : Sp := fun vs H Q _ => ∃ i : Int, vs = [.int i] ∧ Q (.bl (decide (0 ≤ i) && decide (i ≤ 2))) H
def sp_check_rule : Sp := fun vs H Q _ => ∃ r : Rule, vs = [.str r.s] ∧ Q .non H
def sp_check_state (K : PySem.W.Frag) : Sp := fun vs H Q _ => ∃ (a : Addr) (s : List Int), vs = [.ref a] ∧ SqL K H a (s.map V.int) ∧ s.length ≤ 1000 ∧ AllP s ∧ ∀ H', Same H H' → Q .non H'
def sp_check_peg : Sp := fun vs H Q _ => ∃ g : Int, vs = [.int g] ∧ P3 g ∧ Q .non H
def sp_left (K : PySem.W.Frag) : Sp := fun vs H Q _ => ∃ (r : Rule) (a : Addr) (s : List Int) (g : Int), vs = [.str r.s, .ref a, .int g] ∧ SqL K H a (s.map V.int) ∧ s.length ≤ 999 ∧ AllP s ∧ P3 g ∧ ∀ H', Same H H' → Q (.int (L r s.reverse g)) H'
/-- a move as it is told -/
def Told (H : Hp) (p : Addr) (m : Option (Nat × Int)) : Prop := match m with
  | some (d, e) => H p = some (.tup [.int (d : Int), .int e])
  | none => H p = some (.tup [])
def sp_next_move (K : PySem.W.Frag) : Sp := fun vs H Q _ => ∃ (r : Rule) (a : Addr) (s : List Int) (g : Int), vs = [.str r.s, .ref a, .int g] ∧ SqL K H a (s.map V.int) ∧ s.length ≤ 999 ∧ AllP s ∧ P3 g ∧
  ∀ p H', H p = none → Same H H' → Told H' p (N r s.reverse g) → Q (.ref p) H'
theorem P3.test {i : Int} (h : P3 i) : (decide (0 ≤ i) && decide (i ≤ 2)) = true := by
  rcases h with rfl | rfl | rfl <;> rfl
theorem inV_rules (r : Rule) : inV (.str r.s) [.str "free", .str "line", .str "round"] = true := by
  cases r <;> decide +kernel
end
end Peg

namespace Peg
/-! ### all moves that can be done, as the law's own look tells them (the least disc first) -/
def okM (r : Rule) (a e : Int) : Bool := match r with
  | .free => true
  | .line => decide (iabs (a - e) = 1)
  | .round => decide ((a + 1) % 3 = e)
/-- whether the disc i, at a, may go to e -/
def okB (r : Rule) (s : List Int) (i : Nat) (a e : Int) : Bool := !decide (a = e) && !decide (e ∈ s.take i) && okM r a e
def at_ (r : Rule) (s : List Int) (i : Nat) : List ((Nat × Int) × List Int) := match s[i]? with
  | none => []
  | some a => if a ∈ s.take i then [] else ([0, 1, 2].filter (okB r s i a)).map fun e => ((i, e), s.set i e)
def behindL (r : Rule) (s : List Int) : List ((Nat × Int) × List Int) := (List.range s.length).flatMap (at_ r s)
theorem okM_allowed {r : Rule} {a e : Int} (h : a ≠ e) : okM r a e = allowed r a e := by
  cases r
  · show true = !decide (a = e)
    rw [decide_eq_false h]
    rfl
  · rfl
  · show decide ((a + 1) % 3 = e) = decide (e = (a + 1) % 3)
    by_cases q : e = (a + 1) % 3
    · rw [decide_eq_true q, decide_eq_true q.symm]
    · rw [decide_eq_false q, decide_eq_false fun z => q z.symm]
theorem mem_at {r : Rule} {s : List Int} {i : Nat} {x : (Nat × Int) × List Int} : x ∈ at_ r s i ↔ ∃ a e, s[i]? = some a ∧ a ∉ s.take i ∧ P3 e ∧ okB r s i a e = true ∧ x = ((i, e), s.set i e) := by
  unfold at_
  cases hs : s[i]? with
  | none =>
    simp
  | some a =>
    by_cases ha : a ∈ s.take i
    · simp only [if_pos ha]
      constructor
      · intro h
        cases h
      · rintro ⟨a', e, h1, h2, _⟩
        cases h1
        exact absurd ha h2
    · simp only [if_neg ha]
      rw [List.mem_map]
      constructor
      · rintro ⟨e, he, rfl⟩
        obtain ⟨h1, h2⟩ := List.mem_filter.mp he
        refine ⟨a, e, rfl, ha, ?_, h2, rfl⟩
        simp only [List.mem_cons, List.not_mem_nil, or_false] at h1
        exact h1
      · rintro ⟨a', e, h1, h2, h3, h4, rfl⟩
        cases h1
        refine ⟨e, List.mem_filter.mpr ⟨?_, h4⟩, rfl⟩
        simp only [List.mem_cons, List.not_mem_nil, or_false]
        exact h3
theorem mem_behind {r : Rule} {s : List Int} {x : (Nat × Int) × List Int} : x ∈ behindL r s ↔ ∃ i a e, s[i]? = some a ∧ a ∉ s.take i ∧ P3 e ∧ okB r s i a e = true ∧ x = ((i, e), s.set i e) := by
  unfold behindL
  rw [List.mem_flatMap]
  constructor
  · rintro ⟨i, _, h⟩
    obtain ⟨a, e, h⟩ := mem_at.mp h
    exact ⟨i, a, e, h⟩
  · rintro ⟨i, a, e, h⟩
    refine ⟨i, ?_, mem_at.mpr ⟨a, e, h⟩⟩
    rw [List.mem_range]
    exact (List.getElem?_eq_some_iff.mp h.1).1
/-- the greatest disc first: the same move -/
theorem mv_of (r : Rule) : ∀ (hi : List Int) (a e : Int) (lo : List Int), allowed r a e = true → (∀ x ∈ lo, x = 3 - a - e) → P3 e → Mv r (hi ++ a :: lo) lo.length e (hi ++ e :: lo)
  | [], a, e, lo, h1, h2, h3 => .here h1 h2 h3
  | b :: hi, a, e, lo, h1, h2, h3 => .there (mv_of r hi a e lo h1 h2 h3)
theorem mv_split {r : Rule} {s s' : List Int} {d : Nat} {e : Int} (h : Mv r s d e s') : ∃ hi a lo, s = hi ++ a :: lo ∧ s' = hi ++ e :: lo ∧ lo.length = d ∧ allowed r a e = true ∧ (∀ x ∈ lo, x = 3 - a - e) ∧ P3 e := by
  induction h with
  | @here a e s h ha hp => exact ⟨[], a, s, rfl, rfl, rfl, h, ha, hp⟩
  | @there a e s s' d h ih =>
    obtain ⟨hi, b, lo, rfl, rfl, h1, h2, h3, h4⟩ := ih
    exact ⟨a :: hi, b, lo, rfl, rfl, h1, h2, h3, h4⟩
theorem split_at {s : List Int} {i : Nat} {a : Int} (h : s[i]? = some a) : s = s.take i ++ a :: s.drop (i + 1) ∧ (s.take i).length = i := by
  obtain ⟨hi, e⟩ := List.getElem?_eq_some_iff.mp h
  constructor
  · rw [← e, ← List.drop_eq_getElem_cons hi, List.take_append_drop]
  · rw [List.length_take]
    omega
theorem set_at {s : List Int} {i : Nat} {a e : Int} (h : s[i]? = some a) : s.set i e = s.take i ++ e :: s.drop (i + 1) := by
  obtain ⟨hi, _⟩ := List.getElem?_eq_some_iff.mp h
  rw [List.set_eq_take_append_cons_drop, if_pos hi]
theorem behind_mv {r : Rule} {s : List Int} (hs : AllP s) {d : Nat} {e : Int} {s' : List Int} (h : ((d, e), s') ∈ behindL r s) : Mv r s.reverse d e s'.reverse := by
  obtain ⟨i, a, e', h1, h2, h3, h4, h5⟩ := mem_behind.mp h
  simp only [Prod.mk.injEq] at h5
  obtain ⟨⟨rfl, rfl⟩, rfl⟩ := h5
  obtain ⟨k1, k2⟩ := split_at h1
  have k3 := set_at (e := e) h1
  simp only [okB, Bool.and_eq_true, Bool.not_eq_true', decide_eq_false_iff_not] at h4
  obtain ⟨⟨h4, h6⟩, h7⟩ := h4
  rw [okM_allowed h4] at h7
  have ea : s.reverse = (s.drop (d + 1)).reverse ++ a :: (s.take d).reverse := by
    conv => lhs; rw [k1]
    simp
  have eb : (s.set d e).reverse = (s.drop (d + 1)).reverse ++ e :: (s.take d).reverse := by
    rw [k3]
    simp
  have m := mv_of r (s.drop (d + 1)).reverse a e (s.take d).reverse h7 (fun x hx => ?_) h3
  · rw [List.length_reverse, k2] at m
    rw [ea, eb]
    exact m
  · have hx := List.mem_reverse.mp hx
    have p1 := hs a (List.mem_of_getElem? h1)
    have p2 := hs x (List.mem_of_mem_take hx)
    have n1 : x ≠ a := fun q => h2 (q ▸ hx)
    have n2 : x ≠ e := fun q => h6 (q ▸ hx)
    unfold P3 at *
    omega
theorem mv_behind {r : Rule} {s : List Int} (hs : AllP s) {d : Nat} {e : Int} {s' : List Int} (h : Mv r s.reverse d e s') : ((d, e), s'.reverse) ∈ behindL r s := by
  obtain ⟨hi, a, lo, h1, h2, h3, h4, h5, h6⟩ := mv_split h
  have e1 : s = lo.reverse ++ a :: hi.reverse := by
    have := congrArg List.reverse h1
    rw [List.reverse_reverse] at this
    rw [this]
    simp
  have e2 : s'.reverse = lo.reverse ++ e :: hi.reverse := by
    rw [h2]
    simp
  have pa : P3 a := hs a (by rw [e1]; simp)
  have ne := allowed_ne pa h4
  have g1 : s[d]? = some a := by
    rw [e1, List.getElem?_append_right (by rw [List.length_reverse]; omega), List.length_reverse, h3, Nat.sub_self]
    rfl
  have tk : s.take d = lo.reverse := by
    rw [e1, List.take_append_of_le_length (by rw [List.length_reverse]; omega), List.take_of_length_le (by rw [List.length_reverse]; omega)]
  refine mem_behind.mpr ⟨d, a, e, g1, ?_, h6, ?_, ?_⟩
  · rw [tk]
    intro q
    have := h5 a (List.mem_reverse.mp q)
    unfold P3 at *
    omega
  · simp only [okB, Bool.and_eq_true, Bool.not_eq_true', decide_eq_false_iff_not]
    refine ⟨⟨ne, ?_⟩, by rw [okM_allowed ne]; exact h4⟩
    rw [tk]
    intro q
    have := h5 e (List.mem_reverse.mp q)
    unfold P3 at *
    omega
  · rw [e2, set_at g1, tk]
    have : s.drop (d + 1) = hi.reverse := by
      rw [e1, List.drop_append, List.drop_of_length_le (by rw [List.length_reverse]; omega), List.length_reverse, h3, show d + 1 - d = 1 by omega]
      rfl
    rw [this]
theorem behind_len {r : Rule} {s : List Int} {x : (Nat × Int) × List Int} (h : x ∈ behindL r s) : x.2.length = s.length := by
  obtain ⟨i, a, e, _, _, _, _, rfl⟩ := mem_behind.mp h
  exact List.length_set
theorem behind_all {r : Rule} {s : List Int} (hs : AllP s) {x : (Nat × Int) × List Int} (h : x ∈ behindL r s) : AllP x.2 := by
  obtain ⟨i, a, e, _, _, h3, _, rfl⟩ := mem_behind.mp h
  intro p hp
  rcases List.mem_or_eq_of_mem_set hp with q | q
  · exact hs p q
  · exact q ▸ h3
theorem nodup_filter3 (f : Int → Bool) : (([0, 1, 2] : List Int).filter f).Nodup := List.Nodup.sublist List.filter_sublist (by decide)
theorem at_nodup (r : Rule) (s : List Int) (i : Nat) : ((at_ r s i).map (·.1)).Nodup := by
  unfold at_
  split
  · exact List.nodup_nil
  · split
    · exact List.nodup_nil
    · rw [List.map_map]
      exact List.Pairwise.map _ (fun a b (h : a ≠ b) q => h (by simpa using q)) (nodup_filter3 _)
theorem behind_nodup (r : Rule) (s : List Int) : ((behindL r s).map (·.1)).Nodup := by
  unfold behindL
  rw [List.map_flatMap]
  refine List.pairwise_flatMap.mpr ⟨fun i _ => at_nodup r s i, List.Pairwise.imp (fun {i j} (h : i < j) x hx y hy => ?_) List.pairwise_lt_range⟩
  obtain ⟨u, hu, rfl⟩ := List.mem_map.mp hx
  obtain ⟨v, hv, rfl⟩ := List.mem_map.mp hy
  obtain ⟨_, _, _, _, _, _, rfl⟩ := mem_at.mp hu
  obtain ⟨_, _, _, _, _, _, rfl⟩ := mem_at.mp hv
  intro q
  simp only [Prod.mk.injEq] at q
  omega
theorem filter_one {α β : Type} [DecidableEq β] (f : α → β) (m : β) : ∀ {l : List α}, (l.map f).Nodup → (l.filter fun x => decide (f x = m)).map f = if m ∈ l.map f then [m] else []
  | [], _ => by simp
  | x :: l, h => by
    have h' := List.nodup_cons.mp (show (f x :: l.map f).Nodup from h)
    have ih := filter_one f m h'.2
    by_cases q : f x = m
    · rw [List.filter_cons, if_pos (decide_eq_true q), List.map_cons, ih, if_neg (q ▸ h'.1), if_pos (by rw [List.map_cons, q]; exact List.mem_cons_self), q]
    · rw [List.filter_cons, if_neg (by simpa using q), ih]
      by_cases z : m ∈ l.map f
      · rw [if_pos z, if_pos (by rw [List.map_cons]; exact List.mem_cons_of_mem _ z)]
      · rw [if_neg z, if_neg]
        rw [List.map_cons]
        intro w
        rcases List.mem_cons.mp w with w | w
        · exact q w.symm
        · exact z w
/-- just one move leaves one fewer, the next one -/
theorem best_eq (r : Rule) {s : List Int} {g : Int} (hs : AllP s) (hg : P3 g) : ((behindL r s).filter fun x => decide (L r x.2.reverse g - L r s.reverse g = -1)).map (·.1) = match N r s.reverse g with | none => [] | some m => [m] := by
  have hs' : AllP s.reverse := fun p hp => hs p (List.mem_reverse.mp hp)
  have key : ∀ x ∈ behindL r s, (L r x.2.reverse g - L r s.reverse g = -1 ↔ N r s.reverse g = some x.1) := fun x hx => by
    have := (step_of r (behind_mv hs (show ((x.1.1, x.1.2), x.2) ∈ behindL r s from hx)) hs' hg).one
    exact this
  cases hN : N r s.reverse g with
  | none =>
    rw [List.filter_eq_nil_iff.mpr]
    · rfl
    · intro x hx
      have := key x hx
      rw [hN] at this
      simp only [decide_eq_true_eq]
      intro q
      cases this.mp q
  | some m =>
    have e : ((behindL r s).filter fun x => decide (L r x.2.reverse g - L r s.reverse g = -1)) = (behindL r s).filter fun x => decide (x.1 = m) := by
      apply List.filter_congr
      intro x hx
      have := key x hx
      rw [hN] at this
      by_cases q : x.1 = m
      · rw [decide_eq_true q, decide_eq_true (this.mpr (congrArg some q.symm))]
      · rw [decide_eq_false q, decide_eq_false fun z => q (Option.some.inj (this.mp z)).symm]
    rw [e, filter_one (fun x : (Nat × Int) × List Int => x.1) m (behind_nodup r s), if_pos]
    obtain ⟨d, p⟩ := m
    obtain ⟨s', hv⟩ := N_mv r s.reverse g hs' hg d p hN
    exact List.mem_map.mpr ⟨_, mv_behind hs hv, rfl⟩
/-- what the law asks of one move -/
theorem change_ok (r : Rule) {s : List Int} {g : Int} (hs : AllP s) (hg : P3 g) {x : (Nat × Int) × List Int} (hx : x ∈ behindL r s) : -1 ≤ L r x.2.reverse g - L r s.reverse g ∧ (r ≠ .round → L r x.2.reverse g - L r s.reverse g ≤ 1) := by
  have hs' : AllP s.reverse := fun p hp => hs p (List.mem_reverse.mp hp)
  have := step_of r (behind_mv hs (show ((x.1.1, x.1.2), x.2) ∈ behindL r s from hx)) hs' hg
  exact ⟨this.lo, this.hi⟩
/-! ### the pegs that are covered -/
def cov : List Int → List Int := List.foldl (fun c x => if x ∈ c then c else c ++ [x]) []
theorem cov_snoc (l : List Int) (x : Int) : cov (l ++ [x]) = if x ∈ cov l then cov l else cov l ++ [x] := by
  unfold cov
  rw [List.foldl_append]
  rfl
theorem covF_mem : ∀ (l c : List Int) (x : Int), x ∈ List.foldl (fun c x => if x ∈ c then c else c ++ [x]) c l ↔ x ∈ c ∨ x ∈ l
  | [], c, x => by simp
  | y :: l, c, x => by
    rw [List.foldl_cons, covF_mem l, List.mem_cons]
    split
    · rename_i h
      constructor
      · rintro (q | q)
        · exact .inl q
        · exact .inr (.inr q)
      · rintro (q | rfl | q)
        · exact .inl q
        · exact .inl h
        · exact .inr q
    · rw [List.mem_append, List.mem_singleton, or_assoc]
theorem cov_mem (l : List Int) (x : Int) : x ∈ cov l ↔ x ∈ l := by
  unfold cov
  rw [covF_mem]
  simp
theorem covF_len : ∀ (l c : List Int), (List.foldl (fun c x => if x ∈ c then c else c ++ [x]) c l).length ≤ c.length + l.length
  | [], c => Nat.le_refl _
  | y :: l, c => by
    rw [List.foldl_cons]
    refine Nat.le_trans (covF_len l _) ?_
    split
    · simp only [List.length_cons]
      omega
    · simp only [List.length_append, List.length_cons, List.length_nil]
      omega
theorem cov_len (l : List Int) : (cov l).length ≤ l.length := by
  have := covF_len l []
  unfold cov
  simpa using this
theorem at_len (r : Rule) (s : List Int) (i : Nat) : (at_ r s i).length ≤ 3 := by
  unfold at_
  split
  · exact Nat.zero_le _
  · split
    · exact Nat.zero_le _
    · rw [List.length_map]
      exact List.length_filter_le _ _
theorem flat_len (r : Rule) (s : List Int) (i : Nat) : ((List.range i).flatMap (at_ r s)).length ≤ 3 * i := by
  induction i with
  | zero => exact Nat.le_refl _
  | succ i ih =>
    rw [List.range_succ, List.flatMap_append, List.flatMap_singleton, List.length_append]
    have := at_len r s i
    omega
theorem key_inj {α β : Type} : ∀ {l : List (α × β)}, (l.map (·.1)).Nodup → ∀ {x y : α × β}, x ∈ l → y ∈ l → x.1 = y.1 → x = y
  | [], _, _, _, h, _, _ => nomatch h
  | a :: l, hn, x, y, hx, hy, e => by
    have h' := List.nodup_cons.mp (show (a.1 :: l.map (·.1)).Nodup from hn)
    have no : ∀ z ∈ l, z.1 ≠ a.1 := fun z hz q => h'.1 (q ▸ List.mem_map_of_mem (f := fun z : α × β => z.1) hz)
    rcases List.mem_cons.mp hx with q1 | q1
    · rcases List.mem_cons.mp hy with q2 | q2
      · rw [q1, q2]
      · exact absurd (e.symm.trans (congrArg (·.1) q1)) (no y q2)
    · rcases List.mem_cons.mp hy with q2 | q2
      · exact absurd (e.trans (congrArg (·.1) q2)) (no x q1)
      · exact key_inj h'.2 q1 q2 e
end Peg

namespace Peg
open PySem PyProof.Rows L2
/-! ### the law's own helpers -/
section
variable {H : Hp} {Q : VK} {r : Rule}
def sp_cell (K : PySem.W.Frag) : Sp := fun vs H Q _ => ∃ (a : Addr) (ns : List Int) (k : Nat), vs = [.ref a, .int (k : Int)] ∧ SqL K H a (ns.map V.int) ∧ ∀ x : Int, Q (.int x) H
def sp_draw : Sp := fun vs H Q _ => ∃ c k m : Int, vs = [.int c, .int k, .int m] ∧ 0 < m ∧ ∀ (d : Int) H', 0 ≤ d → d < m → Same H H' → Q (.int d) H'
def sp_state (K : PySem.W.Frag) : Sp := fun vs H Q _ => ∃ (a : Addr) (ns : List Int) (b : Int), vs = [.ref a, .int b] ∧ SqL K H a (ns.map V.int) ∧ ns.length ≤ 63 ∧
  ∀ (s : List Int) p H', AllP s → s.length ≤ 189 → H p = none → Same H H' → H' p = some (.lst (s.map V.int)) → Q (.ref p) H'
def sp_rule (K : PySem.W.Frag) : Sp := fun vs H Q _ => ∃ (a : Addr) (ns : List Int) (k : Nat), vs = [.ref a, .int (k : Int)] ∧ SqL K H a (ns.map V.int) ∧ ∀ (r : Rule) H', Same H H' → Q (.str r.s) H'
theorem rd_cell {K : PySem.W.Frag} {E : XK} {a : Addr} {ns : List Int} {k : Int} (hk : 0 ≤ k) (h : SqL K H a (ns.map V.int)) (q : ∀ x : Int, Q (.int x) H) : sp_cell K ([.ref a, .int k] ++ []) H Q E :=
  ⟨a, ns, k.toNat, by rw [Int.toNat_of_nonneg hk] <;> rfl, h, q⟩
theorem rd_draw {E : XK} {c k m : Int} (hm : 0 < m) (q : ∀ (d : Int) H', 0 ≤ d → d < m → Same H H' → Q (.int d) H') : sp_draw ([.int c, .int k, .int m] ++ []) H Q E := ⟨c, k, m, rfl, hm, q⟩
theorem rd_rule {K : PySem.W.Frag} {E : XK} {a : Addr} {ns : List Int} {k : Int} (hk : 0 ≤ k) (h : SqL K H a (ns.map V.int)) (q : ∀ (r : Rule) H', Same H H' → Q (.str r.s) H') : sp_rule K ([.ref a, .int k] ++ []) H Q E :=
  ⟨a, ns, k.toNat, by rw [Int.toNat_of_nonneg hk] <;> rfl, h, q⟩
theorem P3.of {d : Int} (h0 : 0 ≤ d) (h3 : d < 3) : P3 d := by
  unfold P3
  omega
/-- what the law's own look tells: a list of pairs of a move and the state behind it (a list that was not there at H0) -/
def Itm (K : PySem.W.Frag) (H0 H : Hp) (v : V) (x : (Nat × Int) × List Int) : Prop := ∃ t m s, v = .ref t ∧ SqT K H t [.ref m, .ref s] ∧ SqT K H m [.int (x.1.1 : Int), .int x.1.2] ∧ SqL K H s (x.2.map V.int) ∧ H0 s = none
def Beh (K : PySem.W.Frag) (H0 H : Hp) (p : Addr) (xs : List ((Nat × Int) × List Int)) : Prop := ∃ vs : List V, SqL K H p vs ∧ Paired (Itm K H0 H) vs xs
theorem Itm.mono {K : PySem.W.Frag} {H0 H' : Hp} {v : V} {x : (Nat × Int) × List Int} (e : Same H H') (h : Itm K H0 H v x) : Itm K H0 H' v x := by
  obtain ⟨t, m, s, h1, h2, h3, h4, h5⟩ := h
  exact ⟨t, m, s, h1, sqT_mono e h2, sqT_mono e h3, e.seq h4, h5⟩
/-- a list that was there changes -/
theorem Itm.upd {K : PySem.W.Frag} {H0 : Hp} {v : V} {x : (Nat × Int) × List Int} {b : Addr} {o u : HO} {ys : List V} (h : Itm K H0 H v x) (hb : H b = some (.lst ys)) (h0 : H0 b = some u) : Itm K H0 (upd H b o) v x := by
  obtain ⟨t, m, s, h1, h2, h3, h4, h5⟩ := h
  exact ⟨t, m, s, h1, sqT_upd h2 hb, sqT_upd h3 hb, sqL_upd h4 (ne_of_none h0 h5).symm, h5⟩
def sp_beh (K : PySem.W.Frag) : Sp := fun vs H Q _ => ∃ (r : Rule) (a : Addr) (s : List Int), vs = [.str r.s, .ref a] ∧ SqL K H a (s.map V.int) ∧ s.length ≤ 999 ∧ AllP s ∧
  ∀ p H', H p = none → Same H H' → Beh K H H' p (behindL r s) → Q (.ref p) H'
def sp_whole : Sp := fun vs H Q _ => ∃ i : Int, vs = [.int i] ∧ Q (.bl true) H
/-- while it grows: l the list itself, c the covered pegs -/
def Gro (H0 H : Hp) (l c : Addr) (vs : List V) (xs : List ((Nat × Int) × List Int)) : Prop := Paired (fun v x => ∃ t m s, v = .ref t ∧ H t = some (.tup [.ref m, .ref s]) ∧ H m = some (.tup [.int (x.1.1 : Int), .int x.1.2]) ∧ H s = some (.lst (x.2.map V.int)) ∧ s ≠ l ∧ s ≠ c ∧ H0 s = none) vs xs
theorem Gro.mono {H0 H' : Hp} {l c : Addr} {vs : List V} {xs : List ((Nat × Int) × List Int)} (e : Same H H') (h : Gro H0 H l c vs xs) : Gro H0 H' l c vs xs :=
  Paired.mapP h fun _ _ ⟨t, m, s, h1, h2, h3, h4, h5⟩ => ⟨t, m, s, h1, e _ _ h2, e _ _ h3, e _ _ h4, h5⟩
theorem Gro.upd {H0 : Hp} {l c d : Addr} {vs ys : List V} {o : HO} {xs : List ((Nat × Int) × List Int)} (h : Gro H0 H l c vs xs) (hd : d = l ∨ d = c) (hl : H d = some (.lst ys)) : Gro H0 (upd H d o) l c vs xs :=
  Paired.mapP h fun _ _ ⟨t, m, s, h1, h2, h3, h4, h5, h6⟩ => ⟨t, m, s, h1, tup_keep h2 hl, tup_keep h3 hl, (by
    rw [upd_ne]
    · exact h4
    · rcases hd with rfl | rfl
      · exact h5
      · exact h6.1), h5, h6⟩
theorem Gro.beh {H0 : Hp} {K : PySem.W.Frag} {l c : Addr} {vs : List V} {xs : List ((Nat × Int) × List Int)} (h : Gro H0 H l c vs xs) (hl : H l = some (.lst vs)) : Beh K H0 H l xs :=
  ⟨vs, sqL_of hl, Paired.mapP h fun _ _ ⟨t, m, s, h1, h2, h3, h4, _, _, h7⟩ => ⟨t, m, s, h1, sqT_of h2, sqT_of h3, sqL_of h4, h7⟩⟩
theorem Gro.len {H0 : Hp} {l c : Addr} {vs : List V} {xs : List ((Nat × Int) × List Int)} (h : Gro H0 H l c vs xs) : vs.length = xs.length := Paired.length h
/-! ### moves as data -/
def dMove (m : Nat × Int) : PyData := .tuple [.int (m.1 : Int), .int m.2]
def Mvp (K : PySem.W.Frag) (H : Hp) (v : V) (m : Nat × Int) : Prop := ∃ p, v = .ref p ∧ SqT K H p [.int (m.1 : Int), .int m.2]
theorem Mvp.mono {K : PySem.W.Frag} {H' : Hp} {v : V} {m : Nat × Int} (e : Same H H') (h : Mvp K H v m) : Mvp K H' v m := by
  obtain ⟨p, h1, h2⟩ := h
  exact ⟨p, h1, sqT_mono e h2⟩
theorem Mvp.upd {K : PySem.W.Frag} {v : V} {m : Nat × Int} {l : Addr} {ys : List V} {o : HO} (h : Mvp K H v m) (hl : H l = some (.lst ys)) : Mvp K (upd H l o) v m := by
  obtain ⟨p, h1, h2⟩ := h
  exact ⟨p, h1, sqT_upd h2 hl⟩
theorem dMove_inj {c d : Nat × Int} : dMove c = dMove d ↔ c = d := by
  constructor
  · intro h
    have h := PyData.tuple.inj h
    simp only [List.cons.injEq, PyData.int.injEq, and_true] at h
    exact Prod.ext (by omega) h.2
  · rintro rfl
    rfl
theorem dMoves_inj {ns ms : List (Nat × Int)} : PyData.list (ns.map dMove) = PyData.list (ms.map dMove) ↔ ns = ms := by
  constructor
  · intro h
    have h := PyData.list.inj h
    exact List.map_inj_right (fun _ _ z => dMove_inj.mp z) |>.mp h
  · rintro rfl
    rfl
theorem good_move (n : Nat) (c : Nat × Int) : GoodN (n + 1) (dMove c) := .tuple fun d hd => by
  rcases List.mem_cons.mp hd with rfl | hd
  · exact .int n _
  · rcases List.mem_cons.mp hd with rfl | hd
    · exact .int n _
    · cases hd
theorem good_moves (n : Nat) (cs : List (Nat × Int)) : GoodN (n + 2) (.list (cs.map dMove)) := .list fun d hd => by
  obtain ⟨i, _, rfl⟩ := List.mem_map.mp hd
  exact good_move n i
theorem Mvp.dp {K : PySem.W.Frag} {v : V} {c : Nat × Int} (h : Mvp K H v c) : Dp K H v (dMove c) := by
  obtain ⟨p, rfl, h⟩ := h
  exact .tup h (.cons (.int _) (.cons (.int _) .nil))
theorem dpAll_moves {K : PySem.W.Frag} : ∀ {vs : List V} {cs : List (Nat × Int)}, Paired (Mvp K H) vs cs → DpAll K H vs (cs.map dMove)
  | _, _, .nil => .nil
  | _, _, .cons h t => .cons h.dp (dpAll_moves t)
/-- a told move, as data -/
def dTold : Option (Nat × Int) → PyData
  | some m => dMove m
  | none => .tuple []
theorem Told.dp {K : PySem.W.Frag} {p : Addr} {m : Option (Nat × Int)} (h : Told H p m) : Dp K H (.ref p) (dTold m) := by
  cases m with
  | none => exact .tup (sqT_of h) .nil
  | some m => exact .tup (sqT_of h) (.cons (.int _) (.cons (.int _) .nil))
theorem Told.mono {H' : Hp} {p : Addr} {m : Option (Nat × Int)} (e : Same H H') (h : Told H p m) : Told H' p m := by
  cases m with
  | none => exact e _ _ h
  | some m => exact e _ _ h
theorem Told.tup {K : PySem.W.Frag} {p : Addr} {m : Option (Nat × Int)} (h : Told H p m) : ∃ is : List Int, SqT K H p (is.map V.int) ∧ is.length ≤ 2 := by
  cases m with
  | none => exact ⟨[], sqT_of h, by decide⟩
  | some m => exact ⟨[(m.1 : Int), m.2], sqT_of h, Nat.le_refl 2⟩
theorem good_told (m : Option (Nat × Int)) : GoodN 1 (dTold m) := by
  cases m with
  | none => exact .tuple fun d hd => nomatch hd
  | some m => exact good_move 0 m
theorem dTold_none {m : Option (Nat × Int)} : dTold m = .tuple [] ↔ m = none := by
  cases m with
  | none => exact ⟨fun _ => rfl, fun _ => rfl⟩
  | some m =>
    constructor
    · intro h
      have h := PyData.tuple.inj h
      cases h
    · intro h
      cases h
theorem rd_neFree (h : Q (.bl (!decide (r = .free))) H) : rNe (.str r.s) (.str (Str.ofString "free")) H Q := ⟨rfl, by
  have e := Rule.s_eq r .free
  rw [← e] at h
  exact h⟩
theorem rd_neRound (h : Q (.bl (!decide (r = .round))) H) : rNe (.str r.s) (.str (Str.ofString "round")) H Q := ⟨rfl, by
  have e := Rule.s_eq r .round
  rw [← e] at h
  exact h⟩
def sp_right (K : PySem.W.Frag) : Sp := fun vs H Q _ => ∃ (r : Rule) (a : Addr) (s : List Int) (g : Int), vs = [.str r.s, .ref a, .int g] ∧ SqL K H a (s.map V.int) ∧ s.length ≤ 500 ∧ AllP s ∧ P3 g ∧ ∀ H', Same H H' → Q (.bl true) H'
def sp_law (K : PySem.W.Frag) : Sp := fun vs H Q _ => ∃ (a : Addr) (ns : List Int), vs = [.ref a] ∧ SqL K H a (ns.map V.int) ∧ ns.length ≤ 63 ∧ ∀ H', Q (.bl true) H'
theorem rd_whole {E : XK} {i : Int} (h : Q (.bl true) H) : sp_whole ([.int i] ++ []) H Q E := ⟨i, rfl, h⟩
end
end Peg

namespace Peg
open PySem PyProof.Rows L2 HotX

/-! ### any, all where an exception is handled -/
section
variable {prog : Program} {w : World} {A : Around} {E : Value → Shared → Prop} {s : Shared}
theorem pyNext_list_end_hot {it l x1 : Addr} {i : Nat} {items : Array Value} {Q : Option Value → Shared → Prop} (hot : HotAt A x1 s.heap)
    (hit : s.heap.IsListIter it l i) (hl : s.heap.IsList l items) (hx : items[i]? = none) (nx : x1 ≠ it)
    (hQ : ∀ h', Heap.ExtBut it s.heap h' → Q none { s with heap := h' }) : wpAny (model prog w) A (pyNext (.ref it)) Q E s := by
  obtain ⟨o, ho, hc, hd⟩ := id hit
  obtain ⟨ol, hol, _, nl, hdl⟩ := hl
  obtain ⟨hh, o1, vs1, h1, d1, c1⟩ := hot
  unfold pyNext
  refine wpAny_bind (wpAny_attempt (wpAny_callSpecial?_slot (name := Str.ofString "__next__") hit.typeIs slot_listiter_next
    (wpAny_call_entry slot_listiter_next hit.typeIs entry_listiter_next ?_ (args_listiter_next _))))
  show wpAny _ _ (field (.ref it) 0 >>= _) _ _ s
  refine wpAny_bind (wpAny_field ho hd (x := .ref l) rfl ?_)
  show wpAny _ _ (if (Value.ref l == Value.none) = true then _ else _) _ _ s
  rw [if_neg (show ¬ ((Value.ref l == Value.none) = true) from Bool.false_ne_true)]
  show wpAny _ _ (field (.ref it) 1 >>= _) _ _ s
  refine wpAny_bind (wpAny_field ho hd (x := .int i 0) rfl ?_)
  show wpAny _ _ (seqItems? (.ref l) >>= _) _ _ s
  refine wpAny_bind (wpAny_seqItems hol hdl ?_)
  simp only [Int.toNat_natCast, hx]
  refine wpAny_bind (wpAny_rule (wpAny_bind (wpAny_setField ho hd (by simp) ?_)))
  show wpAny _ _ (newExc (.type "StopIteration") [] >>= _) _ _ _
  refine wpAny_bind ?_
  simp only [newExc, newTuple]
  refine wpAny_bind (wpAny_newObj_type ?_ (by size_fits))
  refine wpAny_bind (m := firstArgMember _ _) (wpAny_of_eq (a := Value.none) (by first | rfl | (simp only [firstArgMember]; rfl)) ?_)
  refine wpAny_newObj_type ?_ (by size_fits)
  have h1' := (Heap.SameBut.update s.heap it (Obj.mapFields (·.setIfInBounds 0 Value.none))).2 x1 nx
  refine raiseNew_hot ⟨hh, o1, vs1, Heap.get?_push_of_some _ (Heap.get?_push_of_some _ (h1'.trans h1)), d1, c1⟩ (Nat.ne_of_lt (Heap.lt_size (Heap.get?_push_of_some _ (h1'.trans h1)))) (Heap.get?_push_size _ rfl) rfl (by first | (simp; done) | (simp; omega) | (simp only [Array.size_append]; simp; omega)) ?_
  refine wpAny_bind (wpAny_isInstance (T := "StopIteration") (b := true) ⟨_, Heap.get?_update_self _ (Heap.get?_push_size _ rfl) rfl, rfl⟩ isSubtype_stop ?_)
  refine wpAny_pure (hQ _ ?_)
  intro b o hb e
  have e1 := (Heap.SameBut.update s.heap it (Obj.mapFields (·.setIfInBounds 0 Value.none))).extBut b o hb e
  rw [Heap.get?_update_other]
  · exact Heap.get?_push_of_some _ (Heap.get?_push_of_some _ e1)
  · exact Nat.ne_of_gt (Heap.lt_size (Heap.get?_push_of_some _ e1))
theorem walks_listHot {A : Around} {I ax x1 : Addr} {o1 : Obj} {vs1 : Array Value} (hh : A.handled = some (.ref x1)) (d1 : o1.data = .fields vs1) (c1 : vs1[2]? = some .none) (hne : ax ≠ I) (hx : x1 ≠ I) (items : Array Value) :
    Walks prog w A I [I, ax, x1] [I] items.size (fun i v => items[i]? = some v) (fun i h => h.IsListIter I ax i ∧ h.IsList ax items ∧ h.get? x1 = some o1) where
  sub := fun b hb => by simp at hb; simp [hb]
  frame := fun _ _ _ st hk => ⟨st.1.at fun o e => hk I (by simp) o e, st.2.1.at fun o e => hk ax (by simp) o e, hk x1 (by simp) _ st.2.2⟩
  item := fun i s Q E hi st hQ => by
    refine wpAny_pyNext_list_item st.1 st.2.1 (x := items[i]) (by simp [hi]) fun h' hit' hs' => ?_
    exact hQ _ h' s.toks (by simp [hi]) ⟨hit', st.2.1.extBut hs'.extBut hne, hs'.extBut _ _ hx st.2.2⟩ fun b o hb e => hs'.extBut b o (fun h => hb (by simp [h])) e
  done := fun s Q E st hQ => pyNext_list_end_hot (x1 := x1) ⟨hh, o1, vs1, st.2.2, d1, c1⟩ st.1 st.2.1 (by simp) hx fun h' he' => hQ h' s.toks fun b o hb e => he' b o (fun h => hb (by simp [h])) e
  self := fun _ _ _ _ st hQ => wpAny_pyIter_listiter st.1 hQ
end
theorem cr_anyH {X : Cx} (hc : L2H.HotC X) : CallR X (.builtin "any") (rAny X.K) := by
  intro pins s σ H vs us Q I r h
  obtain ⟨a, bs, rfl, hs, q⟩ := h
  obtain ⟨its, rv, hl, _⟩ := I.list hs
  obtain ⟨p, ⟨hh, v1, e1, c1⟩, hp⟩ := hc
  have P1 := (I.pin p (List.mem_append_left _ hp)).1
  rw [Vals.ref1 r]
  have hb := rv.bls
  refine call_any_walk (iter_any hl.isList fun s₂ e2 st hne => ?_)
  subst e2
  refine ⟨_, _, _, _, _, _, _, rfl, walks_listHot (A := X.A.in1) (I := _) (ax := a) hh e1 c1 hne (Nat.ne_of_lt (Heap.lt_size P1)) its.toArray, ⟨st.1, st.2, Heap.get?_push_of_some _ P1⟩, truth_bools hb, fun h' tk hk => ?_⟩
  refine ⟨.bl _, H, I.kept fun b o eo => hk b o (fun hmem => ?_) (Heap.get?_push_of_some _ eo), ?_, q⟩
  · rcases List.mem_cons.mp hmem with e1 | hmem
    · exact absurd (e1 ▸ Heap.lt_size eo) (Nat.lt_irrefl _)
    · cases hmem
  · show Value.bool _ = Value.bool _
    rw [← L2.any_range, hb, List.size_toArray, List.length_map]
/-- isinstance(e, c), e an exception that the context holds -/
theorem cr_isE {X : Cx} {a D : Addr} {oe : Obj} (hp : (a, oe) ∈ X.pn) (C : ExcC X.K D) (hz : Zc (.ref D) none oe) (hf : ∃ vs, oe.data = .fields vs) : CallR X (.builtin "isinstance") (rIsE X.K D a) := by
  intro pins s σ H xs us Q I r h
  obtain ⟨c, cv, b, rfl, hcv, e, q⟩ := h
  cases r with
  | cons rx rr =>
    cases rr with
    | cons rt rr =>
      cases rr
      cases rx
      have ec := hcv _ rt
      subst ec
      obtain ⟨hget, _⟩ := I.pin (a, oe) (List.mem_append_left _ hp)
      obtain ⟨vs, hv⟩ := hf
      have J : PySem.W.InstAt s.heap a oe D none := by
        obtain ⟨oc, od, oda, osl⟩ := oe
        obtain ⟨h1, h2⟩ := hz
        dsimp only at h1 h2 hv
        subst h1 h2 hv
        exact ⟨hget, rfl, rfl, trivial⟩
      exact PySem.W.kia_one (PySem.W.handS_kitx_exc C.hg C.hk C.hs C.hd C.ha C.hn C.ht C.hm) I.kIn J e (fun z => nomatch z) fun tk => ⟨.bl b, H, I.kept (t' := tk) fun _ _ z => z, rfl, q⟩

/-! ### defs that raise -/
/-- the class C of the name x, made with a text -/
structure Exc (K : PySem.W.Frag) (mg : Str → Option Value) (x : Str) (C : Addr) : Prop where
  g : mg x = some (.ref C)
  x : PySem.W.excIn K C [.type "ValueError", .type "Exception", .type "BaseException", .type "object"] "ValueError.__new__" = true
  k : PySem.W.keepIn K (.ref C) = true
  b : PySem.W.subIn K (.ref C) (.type "BaseException") = some true
  t : PySem.W.typeIn K (.ref C) = some (.type "type")
section
variable {P : Program} {w : World} {K : PySem.W.Frag} {mg : Str → Option Value} {base : Heap}
theorem Df.okX {x : Str} {st : Stmt} {N ps : List Str} {k : Nat} {sp : Sp} (D : Df K mg x st ps) (S : FnScope N ps (defScope st)) (len : ∀ vs H Q E, sp vs H Q E → vs.length = ps.length)
    (hbody : ∀ (f : Addr) (cdv : Value) (A : Around) (outer : List Env) (s : Shared) (H : Hp) (vs : List V) (Q : VK) (E : XK), Room k (A.deeper (envOfC x (defScope st) s.heap.objs.size f cdv)) → sp vs H Q E →
      ∃ t, PSs (cxOf (L2N.CX P w) P w K mg base N x (defScope st) f cdv A outer s H E) (defBody st) t ∧ t { nx := fun _ H' => Q .non H', rt := Q } (start N vs) H) : Has P w K mg base (L2N.CX P w) (k + 1) x ps sp := by
  obtain ⟨f, fd, D⟩ := D
  obtain ⟨⟨oc, od, kV, doc, pm, an, cdv, ct, osl, rfl, lk, hcd⟩, kp⟩ := id D.fn
  exact ⟨f, _, fn_of lk hcd S len fun A outer s H vs Q E hr hsp => hbody f cdv A outer s H vs Q E hr hsp, D.gl, kp, D.bi⟩
end
/-- a call whose raising is wished for at the caller's slots -/
theorem pe_hS {X : Cx} {CX : CXT} {k : Nat} {x : Str} {ps : List Str} {sp : Sp} {E : L2.St → XK} {p pos : Pos} {e : Expr} {es : List Expr} {t : TA} (h : Has X.prog X.w X.K X.mg X.base CX k x ps sp) (hr : Room k X.A) (hx : ∀ σ, PassesAt CX X σ (E σ)) (ha : PA X (e :: es) t) (hg : Gl X x := by rfl)
    (hdb : (x == ("__debug__" : Str)) = false := by decide) (he : starEach (e :: es) X.env = (false, eval e X.env) :: starEach es X.env := by rfl) (hpl : (backTo pos (starEach es X.env)).any (·.1) = false := by rfl) :
    PE X (.Call (.Name x p) (e :: es) [] pos) (tCallS sp E t) := by
  obtain ⟨f, fd, F, hm, hk, hb⟩ := h
  exact pe_callS F hr hg hm hk hb hx ha hdb he hpl
/-- a raising def's call, from a def that lets the same out -/
theorem passN {X : Cx} {W : WX} {E : XK} (tk : L2N.Takes X W) (hW : ∀ cls d σ H, E cls d H → W cls d σ H) : Passes (L2N.CX X.prog X.w) X E := L2N.passes_call tk hW
/-- a raising def's call where it raises nothing -/
theorem passNL {X : Cx} : Passes (L2N.CX X.prog X.w) X E0 := fun _ _ _ _ _ _ _ h => by
  obtain ⟨_, _, _, _, _, _, _, _, _, _, _, _, z⟩ := h
  exact z.elim
theorem takesN0 {X : Cx} : L2N.Takes X (fun _ _ _ _ => False) := fun _ _ x => by
  obtain ⟨_, _, _, _, _, _, _, _, _, _, _, _, _, _, _, _, z⟩ := x
  exact z.elim
/-- raise C('..') -/
theorem ps_raiseC {X : Cx} {W : WX} {C : Addr} {x m : Str} {j : Nat} {p p2 pos pos' : Pos} (hc : X.calm = true) (tk : L2N.Takes X W) (e : Exc X.K X.mg x C) (hg : Gl X x) (hdb : (x == ("__debug__" : Str)) = false := by decide) :
    PS X (.Raise (some (.Call (.Name x p) [.Constant (.str m) j p2] [] pos)) none pos') (fun _ σ H => W (.ref C) none σ H) :=
  L2N.ps_raise hc tk (L2N.pmk_own PySem.F.excBase_ValueError e.x e.g e.k (raises_own e.b e.t) hg hdb)
end Peg

namespace Peg
/-! ### walks of moves -/
def mI (x : (Nat × Int) × List Int) : Int × Int := ((x.1.1 : Int), x.1.2)
def movesL (r : Rule) (s : List Int) : List (Int × Int) := (behindL r s).map mI
def stepL (r : Rule) (s : List Int) (m : Int × Int) : Option (List Int) := if m ∈ movesL r s then some (s.set m.1.toNat m.2) else none
def walkL (r : Rule) : List Int → List (Int × Int) → Option (List Int)
  | s, [] => some s
  | s, m :: ms => match stepL r s m with
    | none => none
    | some s' => walkL r s' ms
theorem allowed_self {r : Rule} {a : Int} (h : P3 a) : allowed r a a = false := by
  rcases h with rfl | rfl | rfl <;> cases r <;> decide
theorem okB_eq {r : Rule} {s : List Int} {i : Nat} {a e : Int} (h : P3 a) : okB r s i a e = (!decide (e ∈ s.take i) && allowed r a e) := by
  unfold okB
  by_cases q : a = e
  · subst q
    rw [allowed_self h, decide_eq_true rfl, Bool.and_false]
    rfl
  · rw [decide_eq_false q, okM_allowed q]
    rfl
theorem mem_moves {r : Rule} {s : List Int} {m : Int × Int} : m ∈ movesL r s ↔ ∃ x, x ∈ behindL r s ∧ mI x = m := List.mem_map
/-- the state behind a move that can be done -/
theorem behind_set {r : Rule} {s : List Int} {x : (Nat × Int) × List Int} (h : x ∈ behindL r s) : x.2 = s.set x.1.1 x.1.2 ∧ x.1.1 < s.length := by
  obtain ⟨i, a, e, h1, _, _, _, rfl⟩ := mem_behind.mp h
  exact ⟨rfl, (List.getElem?_eq_some_iff.mp h1).1⟩
theorem stepL_of {r : Rule} {s : List Int} {x : (Nat × Int) × List Int} (h : x ∈ behindL r s) : stepL r s (mI x) = some x.2 := by
  unfold stepL
  rw [if_pos (mem_moves.mpr ⟨x, h, rfl⟩), (behind_set h).1]
  show some (s.set (Int.toNat ((x.1.1 : Nat) : Int)) _) = _
  rw [Int.toNat_natCast]
  rfl
theorem stepL_none {r : Rule} {s : List Int} {m : Int × Int} (h : ∀ x ∈ behindL r s, mI x ≠ m) : stepL r s m = none := by
  unfold stepL
  rw [if_neg fun q => by
    obtain ⟨x, hx, e⟩ := mem_moves.mp q
    exact h x hx e]
theorem stepL_some {r : Rule} {s s' : List Int} {m : Int × Int} (h : stepL r s m = some s') : ∃ x, x ∈ behindL r s ∧ mI x = m ∧ x.2 = s' := by
  unfold stepL at h
  by_cases q : m ∈ movesL r s
  · obtain ⟨x, hx, e⟩ := mem_moves.mp q
    refine ⟨x, hx, e, ?_⟩
    have := stepL_of hx
    rw [e] at this
    unfold stepL at this
    exact Option.some.inj (this.symm.trans h)
  · rw [if_neg q] at h
    cases h
theorem walk_snoc (r : Rule) (m : Int × Int) : ∀ (ms : List (Int × Int)) (s : List Int), walkL r s (ms ++ [m]) = (walkL r s ms).bind fun s' => stepL r s' m
  | [], s => by
    show (match stepL r s m with | none => none | some s' => walkL r s' []) = stepL r s m
    cases stepL r s m <;> rfl
  | n :: ms, s => by
    show (match stepL r s n with | none => none | some s' => walkL r s' (ms ++ [m])) = (match stepL r s n with | none => none | some s' => walkL r s' ms).bind _
    cases stepL r s n with
    | none => rfl
    | some s' => exact walk_snoc r m ms s'
theorem mI_inj {x y : (Nat × Int) × List Int} (h : mI x = mI y) : x.1 = y.1 := by
  have h1 := congrArg Prod.fst h
  have h2 := congrArg Prod.snd h
  exact Prod.ext (by have h1 : ((x.1.1 : Nat) : Int) = ((y.1.1 : Nat) : Int) := h1; omega) h2
/-- those of the moves that are m -/
theorem near_one {r : Rule} {s : List Int} {m : Int × Int} : (((behindL r s).filter fun x => decide (mI x = m)).map (·.2)) = match stepL r s m with | none => [] | some s' => [s'] := by
  cases h : stepL r s m with
  | none =>
    have : (behindL r s).filter (fun x => decide (mI x = m)) = [] := List.filter_eq_nil_iff.mpr fun x hx q => by
      have := stepL_of hx
      rw [of_decide_eq_true q, h] at this
      cases this
    rw [this]
    rfl
  | some s' =>
    obtain ⟨x, hx, e, rfl⟩ := stepL_some h
    have hn := behind_nodup r s
    have e1 : (behindL r s).filter (fun y => decide (mI y = m)) = (behindL r s).filter (fun y => decide (y.1 = x.1)) := by
      refine List.filter_congr fun y hy => ?_
      subst e
      exact decide_eq_decide.mpr ⟨mI_inj, fun q => by unfold mI; rw [q]⟩
    have e2 := filter_one (fun y : (Nat × Int) × List Int => y.1) x.1 hn
    rw [if_pos (List.mem_map.mpr ⟨x, hx, rfl⟩)] at e2
    rw [e1]
    cases hf : (behindL r s).filter (fun y => decide (y.1 = x.1)) with
    | nil =>
      rw [hf] at e2
      cases e2
    | cons y ys =>
      rw [hf] at e2
      cases ys with
      | cons z zs =>
        have := congrArg List.length e2
        simp at this
      | nil =>
        have hy := List.mem_filter.mp (hf ▸ List.mem_cons_self : y ∈ (behindL r s).filter (fun y => decide (y.1 = x.1)))
        have : y = x := key_inj hn hy.1 hx (of_decide_eq_true hy.2)
        rw [this]
        rfl
theorem stepL_len {r : Rule} {s s' : List Int} {m : Int × Int} (h : stepL r s m = some s') : s'.length = s.length := by
  obtain ⟨x, hx, _, rfl⟩ := stepL_some h
  exact behind_len hx
theorem stepL_all {r : Rule} {s s' : List Int} {m : Int × Int} (hs : AllP s) (h : stepL r s m = some s') : AllP s' := by
  obtain ⟨x, hx, _, rfl⟩ := stepL_some h
  exact behind_all hs hx
theorem stepL_bad {r : Rule} {s : List Int} {m : Int × Int} (h : ¬ P3 m.2) : stepL r s m = none := stepL_none fun x hx e => by
  obtain ⟨i, a, e', _, _, h3, _, rfl⟩ := mem_behind.mp hx
  rw [← e] at h
  exact h h3
/-- the topmost disc has a move -/
theorem behind_pos (r : Rule) {s : List Int} (hs : AllP s) (h : s ≠ []) : 0 < (behindL r s).length := by
  cases s with
  | nil => exact absurd rfl h
  | cons a s =>
    have pa : P3 a := hs a List.mem_cons_self
    have : ∃ e, P3 e ∧ allowed r a e = true := by
      rcases pa with rfl | rfl | rfl <;> cases r
      · exact ⟨1, by unfold P3; omega, by decide⟩
      · exact ⟨1, by unfold P3; omega, by decide⟩
      · exact ⟨1, by unfold P3; omega, by decide⟩
      · exact ⟨0, by unfold P3; omega, by decide⟩
      · exact ⟨0, by unfold P3; omega, by decide⟩
      · exact ⟨2, by unfold P3; omega, by decide⟩
      · exact ⟨1, by unfold P3; omega, by decide⟩
      · exact ⟨1, by unfold P3; omega, by decide⟩
      · exact ⟨0, by unfold P3; omega, by decide⟩
    obtain ⟨e, pe, ae⟩ := this
    have : ((0, e), (a :: s).set 0 e) ∈ behindL r (a :: s) := mem_behind.mpr ⟨0, a, e, rfl, by simp, pe, by
      rw [okB_eq pa, ae]
      rfl, rfl⟩
    exact List.length_pos_of_mem this
theorem moves_len (r : Rule) (s : List Int) : (movesL r s).length ≤ 3 * s.length := by
  unfold movesL behindL
  rw [List.length_map]
  exact flat_len r s s.length
end Peg

namespace Peg
open PySem PyProof.Rows L2 HotX
/-! ### a body that is walked only where C holds -/
def tWhen (C : Prop) (t : TS) : TS := fun D σ H => C ∧ t D σ H
theorem pss_when {X : Cx} {b : List Stmt} {t : TS} {C : Prop} (h : C → PSs X b t) : PSs X b (tWhen C t) :=
  ⟨fun pins s σ H D I q => (h q.1).run pins s σ H D I q.2⟩
/-- a value that is a list or a tuple is walked -/
def iOr (w1 w2 : TI) : TI := fun σ H R => w1 σ H R ∨ w2 σ H R
theorem pi_or {X : Cx} {tg e : Expr} {w1 w2 : TI} (h1 : PI X tg e w1) (h2 : PI X tg e w2) : PI X tg e (iOr w1 w2) :=
  ⟨fun pins s σ H R I h => h.elim (h1.run pins s σ H R I) (h2.run pins s σ H R I)⟩
/-- the suite's context bears the exception -/
theorem hot_suite {X : Cx} {a : Addr} {oe : Obj} {pn : List (Addr × Obj)} {cls : Value} {d : Option Addr} (hz : L2N.Zn cls d oe) (hf : ∃ vs, oe.data = .fields vs) : L2H.HotC (X.suite a ((a, oe) :: pn)) := by
  obtain ⟨vs, hv⟩ := hf
  exact ⟨(a, oe), ⟨rfl, vs, hv, hz.2.2 vs hv⟩, List.mem_cons_self⟩
/-- what an except clause of the class T makes of an error C (a class beneath T) -/
theorem rd_as {K : PySem.W.Frag} {cls c : Value} {i : Nat} {ts : Addr → Value → Option Addr → TS} {Wout : WX} {nx bk ct : L2.St → Hp → Prop} {rt : VK} {d : Option Addr} {σ : L2.St} {H : Hp} (e : PySem.W.exmOne K cls c = some true)
    (h : ∀ a, H a = none → ts a cls d ⟨fun σ' H' => nx (σ'.set i none) H', rt, fun σ' H' => bk (σ'.set i none) H', fun σ' H' => ct (σ'.set i none) H'⟩ (σ.set i (some (.ref a))) H) : wAs K c i ts Wout ⟨nx, rt, bk, ct⟩ cls d σ H :=
  ⟨true, e, fun _ a ha => h a ha, fun q => nomatch q⟩
theorem rd_isE {K : PySem.W.Frag} {H : Hp} {Q : VK} {D a C : Addr} {b : Bool} (e : PySem.W.kitOne K (.ref D) (.ref C) = some b) (q : Q (.bl b) H) : rIsE K D a [.ref a, .ref C] H Q := ⟨.ref C, .ref C, b, rfl, fun u r => r, e, q⟩
theorem rd_isET {K : PySem.W.Frag} {H : Hp} {Q : VK} {D a : Addr} {c : String} {b : Bool} (e : PySem.W.kitOne K (.ref D) (.type c) = some b) (q : Q (.bl b) H) : rIsE K D a [.ref a, .ty c] H Q := ⟨.ty c, .type c, b, rfl, fun u r => r, e, q⟩
/-- [e for x, y in a list of pairs if t] -/
theorem lc_2t {σ : L2.St} {H : Hp} {Q : VK} {tt : TT} {te : TE} {vs : List Nat} {K : PySem.W.Frag} {a D : Addr} {xs : List V} {j l m : Nat} (Pv : Nat → Hp → Prop) (h0 : Pv 0 (upd H D (.lst []))) (hl : ∀ i H, i ≤ xs.length → Pv i H → SqL K H a xs)
    (hs : ∀ i x H, xs[i]? = some x → Pv i H → ∃ t y z, x = .ref t ∧ SqT K H t [y, z] ∧ wipe (((wipe σ vs).set j (some y)).set l (some z)) vs = wipe σ vs ∧ tt (((wipe σ vs).set j (some y)).set l (some z)) H fun b H3 => if b = true then te (((wipe σ vs).set j (some y)).set l (some z)) H3 fun y H4 => ∃ acc, H4 D = some (.lst acc) ∧ acc.length < sizeLine ∧ Pv (i + 1) (upd H4 D (.lst (acc ++ [y]))) else Pv (i + 1) H3)
    (hd : ∀ H, Pv xs.length H → Q (.ref D) H) (hm : m = 2 := by rfl) : LcW (Itl K a) D (gTup K m (gCons (gName j) (gCons (gName l) gNil))) tt te vs σ Q H := by
  subst hm
  refine lc_list (D := D) Pv h0 hl (fun i x H hi p => ?_) hd
  obtain ⟨t, y, z, rfl, ht, hw, he⟩ := hs i x H hi p
  exact ⟨t, _, rfl, ht, rfl, y, [z], rfl, z, [], rfl, rfl, hw, he⟩
theorem zc_of {cls v : Value} {d : Option Addr} {oe : Obj} (hz : L2N.Zn cls d oe) (he : cls = v ∧ d = none) : Zc v none oe := by
  obtain ⟨rfl, rfl⟩ := he
  exact hz.zc
theorem un65 {k : Nat} {A : Around} (hr : Room k A) : A.units + 65 < cLine := by
  have := hr.un
  omega
/-- the error classes' names -/
structure Errs (mg : Str → Option Value) (cT cR cS cP cM cN cU cX : Addr) : Prop where
  TowerError : mg "TowerError" = some (.ref cT)
  BadRule : mg "BadRule" = some (.ref cR)
  BadState : mg "BadState" = some (.ref cS)
  BadPeg : mg "BadPeg" = some (.ref cP)
  BadMove : mg "BadMove" = some (.ref cM)
  BadNumber : mg "BadNumber" = some (.ref cN)
  Unlike : mg "Unlike" = some (.ref cU)
  BadText : mg "BadText" = some (.ref cX)
theorem cxOf_KX {CX : CXT} {P : Program} {w : World} {K : PySem.W.Frag} {mg : Str → Option Value} {base : Heap} {N : List Str} {q : Str} {sc : Scope} {f : Addr} {cd : Value} {A : Around} {o : List Env} {s : Shared} {H : Hp} {E : XK} :
    (cxOf CX P w K mg base N q sc f cd A o s H E).K = K := rfl
section
variable {nx bk ct : L2.St → Hp → Prop} {rt : VK} {σ : L2.St} {H : Hp} {te to ti : TE} {ts : TSet} {v : V}
theorem rd_asgS (h : te σ H fun v H' => gSub to ti ts v σ H' nx) : tAsg te (gSub to ti ts) ⟨nx, rt, bk, ct⟩ σ H := h
theorem rd_gS {R : L2.St → Hp → Prop} (h : to σ H fun x H1 => ti σ H1 fun y H2 => ts x y v H2 fun H3 => R σ H3) : gSub to ti ts v σ H R := h
theorem rd_setL {p : Addr} {xs : List V} {j : Nat} {R : Hp → Prop} (h : H p = some (.lst xs)) (l : j < xs.length) (q : R (upd H p (.lst (xs.set j v)))) : rSetL (.ref p) (.int (j : Int)) v H R := ⟨p, xs, _, j, rfl, rfl, h, by
  unfold ixN
  rw [if_pos (by omega), if_pos (by omega), Int.toNat_natCast], q⟩
end
theorem op_eqDK {X : Cx} {K : PySem.W.Frag} (hK : X.K = K) (hu : X.A.units + 64 < cLine) : OpR X (compareOp .Eq) (rEqD K) := by
  subst hK
  exact op_eqD hu
theorem op_neDK {X : Cx} {K : PySem.W.Frag} (hK : X.K = K) (hu : X.A.units + 64 < cLine) : OpR X (compareOp .NotEq) (rNeD K) := by
  subst hK
  exact op_neD hu
theorem call_isiK {X : Cx} {K : PySem.W.Frag} (hK : X.K = K) : CallR X (.builtin "isinstance") (rIsi K) := by
  subst hK
  exact call_isi
theorem cr_anyHK {X : Cx} {K : PySem.W.Frag} (hK : X.K = K) (hc : L2H.HotC X) : CallR X (.builtin "any") (rAny K) := by
  subst hK
  exact cr_anyH hc
theorem cr_isEK {X : Cx} {K : PySem.W.Frag} {a D : Addr} {oe : Obj} (hK : X.K = K) (hp : (a, oe) ∈ X.pn) (C : ExcC K D) (hz : Zc (.ref D) none oe) (hf : ∃ vs, oe.data = .fields vs) : CallR X (.builtin "isinstance") (rIsE K D a) := by
  subst hK
  exact cr_isE hp C hz hf
/-! ### moves among moves -/
theorem any_eqv {ds : List PyData} {d : PyData} (hd : plain d = true) (hs : plainAll ds = true) : (ds.any fun z => PyData.eqv z d) = true ↔ d ∈ ds := by
  induction ds with
  | nil => simp
  | cons x ds ih =>
    have h : (plain x && plainAll ds) = true := hs
    rw [Bool.and_eq_true] at h
    rw [List.any_cons, Bool.or_eq_true, ih h.2, eqv_plain x d h.1 hd, List.mem_cons]
    exact or_congr_left eq_comm
theorem rd_niP {K : PySem.W.Frag} {H : Hp} {Q : VK} {v : V} {p : Addr} {m : Int × Int} {ms : List (Int × Int)} (hv : Pair K H v m) (hp : Pairs K H p ms) (q : Q (.bl (!decide (m ∈ ms))) H) : rNotInD K v (.ref p) H Q := by
  refine ⟨_, _, hv.dp, hp.dp, (good_pair 0 m).good.sh, (good_pairs 0 ms).good.sh, ?_⟩
  have e := any_eqv (ds := ms.map dPair) (good_pair 0 m).pl (plainAll_of fun d hd => by
    obtain ⟨c, _, rfl⟩ := List.mem_map.mp hd
    exact (good_pair 0 c).pl)
  have e2 : dPair m ∈ ms.map dPair ↔ m ∈ ms := ⟨fun h => by
    obtain ⟨c, hc, e⟩ := List.mem_map.mp h
    rw [← dPair_inj.mp e]
    exact hc, fun h => List.mem_map.mpr ⟨m, h, rfl⟩⟩
  have e3 : ((ms.map dPair).any fun z => PyData.eqv z (dPair m)) = decide (m ∈ ms) := by
    by_cases z : m ∈ ms
    · rw [decide_eq_true z]
      exact e.mpr (e2.mpr z)
    · rw [decide_eq_false z]
      cases y : ((ms.map dPair).any fun z => PyData.eqv z (dPair m)) with
      | false => rfl
      | true => exact absurd (e2.mp (e.mp y)) z
  rw [e3]
  exact q
/-! ### promises -/
def sp_is_allowed : Sp := fun vs H Q _ => ∃ (r : Rule) (a b : Int), vs = [.str r.s, .int a, .int b] ∧ Q (.bl (allowed r a b)) H
theorem rd_is_allowed {H : Hp} {Q : VK} {r : Rule} {E : XK} {a b : Int} (h : Q (.bl (allowed r a b)) H) : sp_is_allowed ([.str r.s, .int a, .int b] ++ []) H Q E := ⟨r, a, b, rfl, h⟩
def sp_moves_of (K : PySem.W.Frag) : Sp := fun vs H Q _ => ∃ (r : Rule) (a : Addr) (s : List Int), vs = [.str r.s, .ref a] ∧ SqL K H a (s.map V.int) ∧ s.length ≤ 999 ∧ AllP s ∧
  ∀ p ws H', H p = none → Same H H' → H' p = some (.lst ws) → Laid H' ws (movesL r s) → Q (.ref p) H'
def sp_is_move (K : PySem.W.Frag) : Sp := fun vs H Q _ => ∃ (v : V) (m : Int × Int), vs = [v] ∧ Pair K H v m ∧ Q (.bl true) H
/-- the state behind a walk, else the error of the class C -/
def sp_done (K : PySem.W.Frag) (C : Addr) : Sp := fun vs H Q E => ∃ (r : Rule) (a b : Addr) (s : List Int) (ms : List (Int × Int)), vs = [.str r.s, .ref a, .ref b] ∧ SqL K H a (s.map V.int) ∧ s.length ≤ 999 ∧ AllP s ∧ Pairs K H b ms ∧
  (∀ s', walkL r s ms = some s' → ∀ p H', H p = none → Same H H' → H' p = some (.lst (s'.map V.int)) → Q (.ref p) H') ∧ (walkL r s ms = none → ∀ H', Same H H' → E (.ref C) none H')
/-- a walk's end as the law's helpers tell it: a state, or the empty tuple -/
def Res (K : PySem.W.Frag) (H : Hp) (p : Addr) : Option (List Int) → Prop
  | some s => SqL K H p (s.map V.int)
  | none => SqT K H p []
def sp_walked (K : PySem.W.Frag) : Sp := fun vs H Q _ => ∃ (r : Rule) (a b : Addr) (s : List Int) (ms : List (Int × Int)), vs = [.str r.s, .ref a, .ref b] ∧ SqL K H a (s.map V.int) ∧ s.length ≤ 999 ∧ AllP s ∧ Pairs K H b ms ∧
  ∀ p H', Same H H' → Res K H' p (walkL r s ms) → Q (.ref p) H'
def dRes : Option (List Int) → PyData
  | some s => dInts s
  | none => .tuple []
theorem Res.dp {K : PySem.W.Frag} {H : Hp} {p : Addr} : ∀ {o : Option (List Int)}, Res K H p o → Dp K H (.ref p) (dRes o)
  | some _, h => dp_ints h
  | none, h => .tup h .nil
theorem Res.mono {K : PySem.W.Frag} {H H' : Hp} {p : Addr} (e : Same H H') : ∀ {o : Option (List Int)}, Res K H p o → Res K H' p o
  | some _, h => e.seq h
  | none, h => sqT_mono e h
theorem good_res : ∀ o : Option (List Int), Good (dRes o)
  | some s => (good_ints 0 s).good
  | none => (good_nilT 0).good
theorem dRes_none {o : Option (List Int)} : dRes o = .tuple [] ↔ o = none := by
  cases o with
  | none => exact ⟨fun _ => rfl, fun _ => rfl⟩
  | some s =>
    constructor
    · intro h
      cases h
    · intro h
      cases h
theorem Laid.upd {H : Hp} {vs ys : List V} {cs : List (Int × Int)} {l : Addr} {o : HO} (h : Laid H vs cs) (hl : H l = some (.lst ys)) : Laid (upd H l o) vs cs := Paired.mapP h fun v c ⟨p, e, h⟩ => ⟨p, e, tup_keep h hl⟩
theorem Laid.mono {H H' : Hp} {vs : List V} {cs : List (Int × Int)} (e : Same H H') (h : Laid H vs cs) : Laid H' vs cs := Paired.mapP h fun v c ⟨p, e1, h⟩ => ⟨p, e1, e _ _ h⟩
/-- a cut of a list of moves is one -/
theorem paired_take {α β : Type} {F : α → β → Prop} : ∀ {l₁ : List α} {l₂ : List β} (n : Nat), Paired F l₁ l₂ → Paired F (l₁.take n) (l₂.take n)
  | _, _, 0, _ => .nil
  | _, _, _ + 1, .nil => .nil
  | _, _, n + 1, .cons h t => .cons h (paired_take n t)
theorem paired_app {α β : Type} {F : α → β → Prop} : ∀ {l₁ m₁ : List α} {l₂ m₂ : List β}, Paired F l₁ l₂ → Paired F m₁ m₂ → Paired F (l₁ ++ m₁) (l₂ ++ m₂)
  | _, _, _, _, .nil, h => h
  | _, _, _, _, .cons a t, h => .cons a (paired_app t h)
theorem paired_rev {α β : Type} {F : α → β → Prop} : ∀ {l₁ : List α} {l₂ : List β}, Paired F l₁ l₂ → Paired F l₁.reverse l₂.reverse
  | _, _, .nil => .nil
  | _, _, .cons a t => by
    rw [List.reverse_cons, List.reverse_cons]
    exact Paired.snoc (paired_rev t) a
theorem rd_callS {sp : Sp} {E : L2.St → XK} {t : TA} {σ : L2.St} {H : Hp} {Q : VK} (h : t σ H fun vs H1 => sp vs H1 Q (E σ)) : tCallS sp E t σ H Q := h
theorem kit_self {K : PySem.W.Frag} {D : Addr} : PySem.W.kitOne K (.ref D) (.ref D) = some true := by
  unfold PySem.W.kitOne
  rw [if_pos (beq_self_eq_true _)]
theorem kit_ref {K : PySem.W.Frag} {D C : Addr} {b : Bool} (hd : PySem.W.hasDictIn K C = true) (ht : PySem.W.typeIn K (.ref C) = some (.type "type")) (h : PySem.W.subIn K (.ref D) (.ref C) = some b) (ne : (D == C) = false) : PySem.W.kitOne K (.ref D) (.ref C) = some b := by
  obtain ⟨cd, hc, _⟩ := PySem.W.any_some hd
  have e2 : ((PySem.W.clsIn K C).isSome && PySem.W.typeIn K (.ref C) == some (.type "type")) = true := by rw [hc, ht] <;> rfl
  unfold PySem.W.kitOne
  rw [if_neg (fun z => by
    have z := Value.ref.inj (beq_iff_eq.mp z)
    subst z
    rw [beq_self_eq_true] at ne
    cases ne)]
  show (if ((PySem.W.clsIn K C).isSome && PySem.W.typeIn K (.ref C) == some (.type "type")) = true then PySem.W.subIn K (.ref D) (.ref C) else none) = some b
  rw [if_pos e2]
  exact h
theorem kit_typ {K : PySem.W.Frag} {D : Addr} {c : String} {b : Bool} (hm : PySem.W.kitMeta c = true) (h : PySem.W.subIn K (.ref D) (.type c) = some b) : PySem.W.kitOne K (.ref D) (.type c) = some b := by
  unfold PySem.W.kitOne
  rw [if_neg (show ¬ ((Value.ref D == Value.type c) = true) from fun z => by
    have z := beq_iff_eq.mp z
    cases z)]
  show (if PySem.W.kitMeta c = true then PySem.W.subIn K (.ref D) (.type c) else none) = some b
  rw [if_pos hm]
  exact h
/-- a list of states -/
def dStates (xs : List (List Int)) : PyData := .list (xs.map dInts)
theorem dpAll_states {K : PySem.W.Frag} {H : Hp} : ∀ {vs : List V} {xs : List (List Int)}, Paired (fun v x => ∃ p, v = .ref p ∧ SqL K H p (x.map V.int)) vs xs → DpAll K H vs (xs.map dInts)
  | _, _, .nil => .nil
  | _, _, .cons ⟨_, rfl, h⟩ t => .cons (dp_ints h) (dpAll_states t)
theorem good_states (xs : List (List Int)) : Good (dStates xs) := (GoodN.list (n := 1) fun d hd => by
  obtain ⟨i, _, rfl⟩ := List.mem_map.mp hd
  exact good_ints 0 i).good
theorem dStates_nil {xs : List (List Int)} : dStates xs = .list [] ↔ xs = [] := by
  constructor
  · intro h
    exact List.map_eq_nil_iff.mp (PyData.list.inj h)
  · rintro rfl
    rfl
end Peg

namespace Peg
open PySem PySem.Spec PyProof.Rows L2 HotX
/-! ### a def that is called where an exception of the class D is handled: its promise names the exception's place -/
structure FnZ (P : Program) (w : World) (K : PySem.W.Frag) (mg : Str → Option Value) (base : Heap) (CX : CXT) (D : Addr) (k : Nat) (f : Addr) (fd : FuncData) (ps : List Str) (sp : Addr → Sp) : Prop where
  len : ∀ a vs H Q E, sp a vs H Q E → vs.length = ps.length
  run : ∀ (p : Addr × Obj) (A : Around) (outer : List Env) (s : Shared) (H : Hp) (args : Args) (us : List Value) (vs : List V) (Q : VK) (E : XK), L2H.Hot1 A p → Zc (.ref D) none p.2 → L2H.PinOk outer H s p → L2H.RoomH k A → Env0 P w K mg base A outer s H →
    BindsTo s fd args (ps.zip us) → Vals vs us → sp p.1 vs H Q E → codeAny (model P w) A (.call (.ref f) args) (CR CX outer P w H s Q E) s
theorem fnZ_of {CX : CXT} {P : Program} {w : World} {K : PySem.W.Frag} {mg : Str → Option Value} {base : Heap} {k : Nat} {f D : Addr} {name qual : Str} {params : Arguments} {body : List Stmt} {scope : Scope} {dV kV doc pm cdv ct oc : Value} {an od : Option Addr}
    {osl : Array (Option Value)} {N ps : List Str} {sp : Addr → Sp} (lk : K.lookup f = some ⟨oc, od, .func (PySem.W.fnOf name qual params body scope dV kV doc pm an cdv ct), osl⟩) (hcd : PySem.W.codeIn K cdv qual = true) (S : FnScope N ps scope)
    (len : ∀ a vs H Q E, sp a vs H Q E → vs.length = ps.length)
    (hbody : ∀ (A : Around) (outer : List Env) (s : Shared) (H : Hp) (vs : List V) (Q : VK) (E : XK) (p : Addr × Obj), Zc (.ref D) none p.2 → (∃ vs, p.2.data = .fields vs) → L2H.RoomH k (A.deeper (envOfC qual scope s.heap.objs.size f cdv)) → sp p.1 vs H Q E →
      ∃ t, PSs (L2H.cxH CX P w K mg base N qual scope f cdv A outer s H E p) body t ∧ t { nx := fun _ H' => Q .non H', rt := Q } (L2.start N vs) H) :
    FnZ P w K mg base CX D (k + 1) f (PySem.W.fnOf name qual params body scope dV kV doc pm an cdv ct) ps sp := by
  constructor
  · exact len
  intro p A outer s H args us vs Q E hot hz hpin hr e0 hb r hsp
  have hl := len _ _ _ _ _ hsp
  have KX : K.In s.heap := e0.mod.kin.keeps (fun b o e => (e0.bs b o e).1)
  have lim : s.heap.NoLimit := e0.mod.nolimit.keeps (fun b o e => (e0.bs b o e).1)
  have hkind : ∀ y ∈ ps.zip us, scope.names.lookup y.1 = some .local ∨ (scope.names.lookup y.1 = some .cell ∧ ((cellsFrom (s.heap.objs.size + 1) scope.names []).lookup y.1).isSome = true) := by
    rintro ⟨n, v⟩ hy
    rcases S.par n (List.of_mem_zip hy).1 with q | q
    · exact Or.inl q
    · exact Or.inr ⟨q, PySem.W.cellsFrom_some _ _ _ (Or.inl q)⟩
  refine codeAny_call_function hr.depth (KX _ _ lk) rfl S.co S.gen rfl (PySem.W.codeRec_of KX hcd) (hb _ _ _ _ ?g)
  refine wpAny_newFunctionEnv_cells S.kind hkind ?h
  rintro env he s1 x
  subst he
  refine ⟨lim.keeps x.toInCall.keep, codeAny_func ?b⟩
  have hf : ∃ vs, p.2.data = .fields vs := let ⟨_, vs, h, _⟩ := hot; ⟨vs, h⟩
  obtain ⟨t, ht, hq⟩ := hbody A outer s H vs Q E p hz hf (hr.deeper _) hsp
  have I := L2H.inv_startH (CX := CX) (E := E) (w := w) (P := P) S hpin e0 hl r x
  refine wpAny_mono (ht.run [] s1 (L2.start N vs) H _ I hq) ?c (fun _ _ hs => hs)
  rintro fl s' hs
  cases fl with
  | ret u =>
    obtain ⟨v, σ', H', J, rv, q⟩ := hs
    exact ⟨v, H', J.os, J.bare, J.base, J.hok, rv, q⟩
  | next =>
    obtain ⟨σ', H', J, q⟩ := hs
    exact ⟨V.non, H', J.os, J.bare, J.base, J.hok, rfl, q⟩
  | brk => exact hs.elim fun _ h => h.elim fun _ h => h.2.elim
  | cont => exact hs.elim fun _ h => h.elim fun _ h => h.2.elim
def HasZ (P : Program) (w : World) (K : PySem.W.Frag) (mg : Str → Option Value) (base : Heap) (CX : CXT) (D : Addr) (k : Nat) (x : Str) (ps : List Str) (sp : Addr → Sp) : Prop :=
  ∃ f fd, FnZ P w K mg base CX D k f fd ps sp ∧ mg x = some (.ref f) ∧ PySem.W.keepIn K (.ref f) = true ∧ Binds K fd ps []
section
variable {P : Program} {w : World} {K : PySem.W.Frag} {mg : Str → Option Value} {base : Heap}
theorem Df.okZ {C : Addr} {x : Str} {st : Stmt} {N ps : List Str} {k : Nat} {sp : Addr → Sp} (D : Df K mg x st ps) (S : FnScope N ps (defScope st)) (len : ∀ a vs H Q E, sp a vs H Q E → vs.length = ps.length)
    (hbody : ∀ (f : Addr) (cdv : Value) (A : Around) (outer : List Env) (s : Shared) (H : Hp) (vs : List V) (Q : VK) (E : XK) (p : Addr × Obj), Zc (.ref C) none p.2 → (∃ vs, p.2.data = .fields vs) → L2H.RoomH k (A.deeper (envOfC x (defScope st) s.heap.objs.size f cdv)) → sp p.1 vs H Q E →
      ∃ t, PSs (L2H.cxH CX0 P w K mg base N x (defScope st) f cdv A outer s H E p) (defBody st) t ∧ t { nx := fun _ H' => Q .non H', rt := Q } (start N vs) H) : HasZ P w K mg base CX0 C (k + 1) x ps sp := by
  obtain ⟨f, fd, D⟩ := D
  obtain ⟨⟨oc, od, kV, doc, pm, an, cdv, ct, osl, rfl, lk, hcd⟩, kp⟩ := id D.fn
  exact ⟨f, _, fnZ_of lk hcd S len fun A outer s H vs Q E p hz hf hr hsp => hbody f cdv A outer s H vs Q E p hz hf hr hsp, D.gl, kp, D.bi⟩
end
theorem cxH_K {CX : CXT} {P : Program} {w : World} {K : PySem.W.Frag} {mg : Str → Option Value} {base : Heap} {N : List Str} {q : Str} {sc : Scope} {f : Addr} {cd : Value} {A : Around} {o : List Env} {s : Shared} {H : Hp} {E : XK} {p : Addr × Obj} :
    (L2H.cxH CX P w K mg base N q sc f cd A o s H E p).K = K := rfl
/-- the call of such a def, within the suite that handles the exception -/
theorem pe_hZ {X : Cx} {D a : Addr} {oe : Obj} {k : Nat} {x : Str} {ps : List Str} {sp : Addr → Sp} {q pos : Pos} {e : Expr} {es : List Expr} {t : TA} (h : HasZ X.prog X.w X.K X.mg X.base CX0 D k x ps sp) (hr : L2H.RoomH k X.A) (ha0 : X.A.handled = some (.ref a)) (hp : (a, oe) ∈ X.pn)
    (hz : L2N.Zn (.ref D) none oe) (hf : ∃ vs, oe.data = .fields vs) (ha : PA X (e :: es) t) (hg : Gl X x := by rfl) (hdb : (x == ("__debug__" : Str)) = false := by decide)
    (he : starEach (e :: es) X.env = (false, eval e X.env) :: starEach es X.env := by rfl) (hpl : (backTo pos (starEach es X.env)).any (·.1) = false := by rfl) :
    PE X (.Call (.Name x q) (e :: es) [] pos) (tCallS (sp a) (fun _ => E0) t) := by
  obtain ⟨f, fd, F, hm, hk, hb⟩ := h
  obtain ⟨vs0, hv0⟩ := hf
  have hot : L2H.Hot1 X.A (a, oe) := ⟨ha0, vs0, hv0, hz.2.2 vs0 hv0⟩
  constructor
  intro pins s σ H Q I h
  refine wpAny_Call_Name_kw (ld_glob I hg hm ?g hdb)
  refine PySem.W.callWith_K (h₀ := X.base) I.ok.mod.kin hk (thn (ha.run pos pins s σ H _ I h) ?g2) he hpl
  rintro us s1 ⟨vs, H1, I1, r, q⟩
  refine ⟨I1.kIn, ?_⟩
  have hl : us.length = ps.length := r.length.symm.trans (F.len _ _ _ _ _ q)
  have b := hb s1 us I1.kIn (by rw [List.append_nil]; exact hl)
  rw [List.append_nil] at b
  have P1 := I1.pin (a, oe) (List.mem_append_left _ hp)
  have hpin : L2H.PinOk X.stack H1 s1 (a, oe) := ⟨P1.1, P1.2.1, fun hm => (List.mem_cons.mp (I1.stkSub a hm)).elim P1.2.2.1 P1.2.2.2.1, P1.2.2.2.2⟩
  refine wpAny_call (codeAny_mono (F.run (a, oe) X.A X.stack s1 H1 ⟨us, []⟩ us vs Q E0 hot hz.zc hpin hr I1.env0 b r q) ?_)
  rintro rr s' hq
  cases rr with
  | error e => exact False.elim hq
  | ok fl =>
    cases fl with
    | ret u => exact I1.after hq
    | next => exact False.elim hq
    | brk => exact False.elim hq
    | cont => exact False.elim hq
/-! ### a call of a local name in a try -/
def tCallLS (i : Nat) (f : Addr) (sp : Sp) (E : L2.St → XK) (t : TA) : TE := fun σ H Q => σ[i]? = some (some (.ref f)) ∧ t σ H fun vs H1 => sp vs H1 Q (E σ)
theorem pe_callLS {X : Cx} {CX : CXT} {k i : Nat} {f : Addr} {fd : FuncData} {ps : List Str} {sp : Sp} {E : L2.St → XK} {x : Str} {p pos : Pos} {e : Expr} {es : List Expr} {t : TA} (F : FnOk X.prog X.w X.K X.mg X.base CX k f fd ps sp) (hr : Room k X.A)
    (hk : PySem.W.keepIn X.K (.ref f) = true) (hb : Binds X.K fd ps []) (hx : ∀ σ, PassesAt CX X σ (E σ)) (ha : PA X (e :: es) t) (hN : X.N[i]? = some x := by rfl)
    (hv : Vis X.env.scope x := by first | exact Or.inl rfl | exact Or.inr (Or.inl rfl) | exact Or.inr (Or.inr rfl)) (hdb : (x == ("__debug__" : Str)) = false := by decide) (hcd : (x == ("__classdict__" : Str)) = false := by decide)
    (he : starEach (e :: es) X.env = (false, eval e X.env) :: starEach es X.env := by rfl) (hpl : (backTo pos (starEach es X.env)).any (·.1) = false := by rfl) : PE X (.Call (.Name x p) (e :: es) [] pos) (tCallLS i f sp E t) := by
  constructor
  rintro pins s σ H Q I ⟨hs, ht⟩
  have g := (pe_var (pos := p) hN hv hdb hcd).run pins s σ H (fun v H1 => v = .ref f ∧ H1 = H) I ⟨.ref f, hs, rfl, rfl⟩
  refine wpAny_Call_Name_kw (thn g ?_)
  rintro u s1 ⟨v, H1, I1, r1, rfl, rfl⟩
  cases r1
  refine PySem.W.callWith_K (h₀ := X.base) I.ok.mod.kin hk (thn (ha.run pos pins s1 σ _ _ I1 ht) ?_) he hpl
  rintro us s2 ⟨vs, H2, I2, r, q⟩
  exact ⟨I2.kIn, run_fnS F hr hb (hx σ) I2 r q⟩
section
variable {σ : L2.St} {H : Hp} {Q : VK} {tA : TA} {te : L2.St → Hp → (Int → Int → Hp → Prop) → Prop} {te1 : TE} {R : It → Hp → Prop}
theorem rd_callLS {i : Nat} {f : Addr} {sp : Sp} {E : L2.St → XK} (e : σ[i]? = some (some (.ref f))) (h : tA σ H fun vs H1 => sp vs H1 Q (E σ)) : tCallLS i f sp E tA σ H Q := ⟨e, h⟩
/-! ### list(range(n)), range(a, b, c), {} -/
def lRg (a b : Int) (H1 : Hp) (Q : VK) : Prop := RgOk a b ∧ ∀ q, H1 q = none → Q (.ref q) (upd H1 q (.lst (rgV a b)))
theorem rd_lRg (h : te σ H fun a b H1 => lRg a b H1 Q) : tLstRg te σ H Q := h
theorem rd_lRg1 {n : Nat} (c : n ≤ 1000) (q : ∀ p, H p = none → Q (.ref p) (upd H p (.lst ((List.range n).map fun i => V.int (i : Nat))))) : lRg 0 (n : Int) H Q := by
  refine ⟨.of_le (by omega) (by omega) (by omega) (by omega), ?_⟩
  have e : rgV 0 (n : Int) = (List.range n).map fun i => V.int (i : Nat) := by
    unfold rgV
    rw [show ((n : Int) - 0).toNat = n by omega]
    refine List.map_congr_left fun i _ => ?_
    rw [Int.zero_add]
  rw [e]
  exact q
def iR3 : List V → Hp → (It → Hp → Prop) → Prop := fun vs H1 R => ∃ (i j c : Int) (n : Nat), vs = [.int i, .int j, .int c] ∧ RgC i j c n ∧ R (Itc i c n) H1
theorem rd_iR3 (h : tA σ H fun vs H1 => iR3 vs H1 R) : iRng3 tA σ H R := h
theorem rd_dnew (q : ∀ p, H p = none → Q (.ref p) (upd H p (.dK []))) : tDNewK σ H Q := q
end
end Peg

namespace Peg
open PySem PyProof.Rows L2
/-! ### values of any kind -/
/-- v has a built-in type that is no kind of c -/
def No (K : PySem.W.Frag) (H : Hp) (v : V) (c : String) : Prop := ∃ a, TyX K H v (.type a) ∧ kitB a c = some false
section
variable {K : PySem.W.Frag} {H H' : Hp} {v u : V} {p : Addr} {xs : List V} {c : String}
theorem ty_up {t : Value} (e : Same H H') (h : TyX K H v t) : TyX K H' v t := by
  cases h with
  | base b =>
    refine .base ?_
    cases b with
    | non => exact .non
    | bl x => exact .bl x
    | int i => exact .int i
    | str x => exact .str x
    | flt x => exact .flt x
    | lst h => exact .lst (e _ _ h)
    | frz h => exact .frz (e _ _ h)
    | tup h => exact .tup (e _ _ h)
    | dK h => exact .dK (e _ _ h)
    | dT h => exact .dT (e _ _ h)
    | ins h cl ha hn htk hm => exact .ins (e _ _ h) cl ha hn htk hm
  | byt b => exact .byt b
  | set h => exact .set (e _ _ h)
  | kList h c => exact .kList h c
  | kTuple h c => exact .kTuple h c
  | kDict h c => exact .kDict h c
  | fTuple h => exact .fTuple (e _ _ h)
  | fDict h => exact .fDict (e _ _ h)
theorem No.up (e : Same H H') (h : No K H v c) : No K H' v c := by
  obtain ⟨a, h1, h2⟩ := h
  exact ⟨a, ty_up e h1, h2⟩
theorem No.non (h : kitB "NoneType" c = some false := by decide +kernel) : No K H .non c := ⟨_, .base .non, h⟩
theorem No.bl {b : Bool} (h : kitB "bool" c = some false := by decide +kernel) : No K H (.bl b) c := ⟨_, .base (.bl b), h⟩
theorem No.int {i : Int} (h : kitB "int" c = some false := by decide +kernel) : No K H (.int i) c := ⟨_, .base (.int i), h⟩
theorem No.str {x : Str} (h : kitB "str" c = some false := by decide +kernel) : No K H (.str x) c := ⟨_, .base (.str x), h⟩
theorem No.lst (s : SqL K H p xs) (h : kitB "list" c = some false := by decide +kernel) : No K H (.ref p) c := ⟨_, ty_list s, h⟩
theorem No.tup (s : SqT K H p xs) (h : kitB "tuple" c = some false := by decide +kernel) : No K H (.ref p) c := ⟨_, ty_tup s, h⟩
theorem No.dic {kvs : List (Key × V)} (s : H p = some (.dK kvs)) (h : kitB "dict" c = some false := by decide +kernel) : No K H (.ref p) c := ⟨_, .base (.dK s), h⟩
theorem No.isi {Q : VK} (h : No K H v c) (q : Q (.bl false) H) : rIsi K [v, .ty c] H Q := by
  obtain ⟨a, h1, h2⟩ := h
  exact rd_isi h1 h2 q
theorem rd_isiBI {Q : VK} {b : Bool} (q : Q (.bl true) H) : rIsi K [.bl b, .ty "int"] H Q := rd_isi (.base (.bl b)) (by decide +kernel) q
theorem rd_isiBB {Q : VK} {b : Bool} (q : Q (.bl true) H) : rIsi K [.bl b, .ty "bool"] H Q := rd_isi (.base (.bl b)) (by decide +kernel) q
end
/-- a value as a whole number, where it is one -/
inductive Wh (K : PySem.W.Frag) (H : Hp) : V → Option Int → Prop
  | int (i : Int) : Wh K H (.int i) (some i)
  | bl (b : Bool) : Wh K H (.bl b) none
  | no {v : V} (h : No K H v "int") : Wh K H v none
theorem Wh.up {K : PySem.W.Frag} {H H' : Hp} {v : V} {o : Option Int} (e : Same H H') (h : Wh K H v o) : Wh K H' v o := by
  cases h with
  | int i => exact .int i
  | bl b => exact .bl b
  | no h => exact .no (h.up e)
def pegO : Option Int → Bool
  | some i => decide (0 ≤ i) && decide (i ≤ 2)
  | none => false
def RU : List V := [.str "free", .str "line", .str "round"]
inductive NoRule (K : PySem.W.Frag) (H : Hp) : V → Prop
  | ty {v : V} (h : No K H v "str") : NoRule K H v
  | tx {x : Str} (h : inV (.str x) [.str "free", .str "line", .str "round"] = false) : NoRule K H (.str x)
inductive BadS (K : PySem.W.Frag) (H : Hp) : V → Prop
  | ty {v : V} (h : No K H v "list") : BadS K H v
  | it {p : Addr} {xs : List V} {os : List (Option Int)} (h : SqL K H p xs) (z : xs.length ≤ 1000) (w : Paired (fun v o => Wh K H v o) xs os) (b : os.all pegO = false) : BadS K H (.ref p)
def BadP (K : PySem.W.Frag) (H : Hp) (v : V) : Prop := ∃ o, Wh K H v o ∧ pegO o = false
def both : Option Int → Option Int → Option (Int × Int)
  | some a, some b => some (a, b)
  | _, _ => none
inductive Mw (K : PySem.W.Frag) (H : Hp) : V → Option (Int × Int) → Prop
  | no {v : V} (h : No K H v "tuple") : Mw K H v none
  | len {p : Addr} {xs : List V} (h : SqT K H p xs) (n : xs.length ≠ 2) : Mw K H (.ref p) none
  | two {p : Addr} {x y : V} {a b : Option Int} (h : SqT K H p [x, y]) (hx : Wh K H x a) (hy : Wh K H y b) : Mw K H (.ref p) (both a b)
section
variable {K : PySem.W.Frag} {H H' : Hp} {v : V}
theorem NoRule.up (e : Same H H') (h : NoRule K H v) : NoRule K H' v := by
  cases h with
  | ty h => exact .ty (h.up e)
  | tx h => exact .tx h
theorem BadS.up (e : Same H H') (h : BadS K H v) : BadS K H' v := by
  cases h with
  | ty h => exact .ty (h.up e)
  | it h z w b => exact .it (e.seq h) z (Paired.mapP w fun _ _ q => q.up e) b
theorem BadP.up (e : Same H H') (h : BadP K H v) : BadP K H' v := by
  obtain ⟨o, h1, h2⟩ := h
  exact ⟨o, h1.up e, h2⟩
theorem Mw.up {o : Option (Int × Int)} (e : Same H H') (h : Mw K H v o) : Mw K H' v o := by
  cases h with
  | no h => exact .no (h.up e)
  | len h n => exact .len (sqT_mono e h) n
  | two h hx hy => exact .two (sqT_mono e h) (hx.up e) (hy.up e)
theorem Mw.pair {m : Int × Int} (h : Mw K H v (some m)) : Pair K H v m := by
  generalize e : some m = o at h
  cases h with
  | no h => cases e
  | len h n => cases e
  | two h hx hy =>
    cases hx with
    | int i =>
      cases hy with
      | int j =>
        cases e
        exact ⟨_, rfl, h⟩
      | bl b => cases e
      | no h => cases e
    | bl b => cases e
    | no h => cases e
theorem paired_at {α β : Type} {F : α → β → Prop} {G : α → β → Prop} {l₁ : List α} {l₂ : List β} (h : Paired F l₁ l₂) (f : ∀ a b, F a b → G a b) : Paired G l₁ l₂ := Paired.mapP h f
end
/-! ### the checks -/
section
variable (K : PySem.W.Frag) (C : Addr) (v : V) (H : Hp) (E : XK)
def chkR (k : Rule → Prop) : Prop := (NoRule K H v ∧ ∀ H', Same H H' → E (.ref C) none H') ∨ ∃ r : Rule, v = .str r.s ∧ k r
def chkS (k : Addr → List Int → Prop) : Prop := (BadS K H v ∧ ∀ H', Same H H' → E (.ref C) none H') ∨ ∃ (p : Addr) (s : List Int), v = .ref p ∧ SqL K H p (s.map V.int) ∧ s.length ≤ 999 ∧ AllP s ∧ k p s
def chkP (k : Int → Prop) : Prop := (BadP K H v ∧ ∀ H', Same H H' → E (.ref C) none H') ∨ ∃ g : Int, v = .int g ∧ P3 g ∧ k g
end
def sp_no : Sp := fun _ _ _ _ => False
def sp_wholeG (K : PySem.W.Frag) : Sp := fun vs H Q _ => ∃ v o, vs = [v] ∧ Wh K H v o ∧ Q (.bl o.isSome) H
def sp_pegG (K : PySem.W.Frag) : Sp := fun vs H Q _ => ∃ v o, vs = [v] ∧ Wh K H v o ∧ Q (.bl (pegO o)) H
def sp_moveG (K : PySem.W.Frag) : Sp := fun vs H Q _ => ∃ v o, vs = [v] ∧ Mw K H v o ∧ Q (.bl o.isSome) H
def sp_ckR (K : PySem.W.Frag) (C : Addr) : Sp := fun vs H Q E => ∃ v, vs = [v] ∧ chkR K C v H E fun _ => Q .non H
def sp_ckS (K : PySem.W.Frag) (C : Addr) : Sp := fun vs H Q E => ∃ v, vs = [v] ∧ chkS K C v H E fun _ _ => ∀ H', Same H H' → Q .non H'
def sp_ckP (K : PySem.W.Frag) (C : Addr) : Sp := fun vs H Q E => ∃ v, vs = [v] ∧ chkP K C v H E fun _ => Q .non H
/-- the error classes -/
inductive Ec | R | S | P | M | N | U
  deriving DecidableEq
def Ec.fl (c : Ec) : List Bool := [decide (c = .R), decide (c = .S), decide (c = .P), decide (c = .M), decide (c = .N), decide (c = .U), false, true]
structure ErrF (K : PySem.W.Frag) (ad : Ec → Addr) (cT cX : Addr) : Prop where
  tow : ∀ c, PySem.W.exmOne K (.ref (ad c)) (.ref cT) = some true
  ec : ∀ c, ExcC K (ad c)
  one : ∀ c d, PySem.W.kitOne K (.ref (ad c)) (.ref (ad d)) = some (decide (c = d))
  txt : ∀ c, PySem.W.kitOne K (.ref (ad c)) (.ref cX) = some false
  val : ∀ c, PySem.W.kitOne K (.ref (ad c)) (.type "ValueError") = some true
/-! ### the doors -/
section
variable (K : PySem.W.Frag) (ad : Ec → Addr)
def sp_movesX : Sp := fun vs H Q E => ∃ a b, vs = [a, b] ∧ chkR K (ad .R) a H E fun _ => chkS K (ad .S) b H E fun _ _ => False
def sp_numX : Sp := fun vs H Q E => ∃ a, vs = [a] ∧ BadS K H a ∧ ∀ H', Same H H' → E (.ref (ad .S)) none H'
def sp_leftX : Sp := fun vs H Q E => ∃ a b c, vs = [a, b, c] ∧ chkR K (ad .R) a H E fun r => chkS K (ad .S) b H E fun _ s => chkP K (ad .P) c H E fun g => ∀ H', Same H H' → Q (.int (L r s.reverse g)) H'
def sp_nextX : Sp := fun vs H Q E => ∃ a b c, vs = [a, b, c] ∧ chkR K (ad .R) a H E fun r => chkS K (ad .S) b H E fun _ s => chkP K (ad .P) c H E fun g => False
def sp_behindX : Sp := fun vs H Q E => ∃ a b c d, vs = [a, b, c, d] ∧ chkR K (ad .R) a H E fun r => chkS K (ad .S) b H E fun _ s => chkP K (ad .P) c H E fun g => ∃ o, Wh K H d o ∧ (∀ i, o = some i → 0 ≤ i → L r s.reverse g < i) ∧ ∀ H', Same H H' → E (.ref (ad .N)) none H'
def sp_stateX : Sp := fun vs H Q E => ∃ a b oa ob, vs = [a, b] ∧ Wh K H a oa ∧ Wh K H b ob ∧ (∀ n i, oa = some n → ob = some i → 0 ≤ n → 0 ≤ i → n ≤ 1000 ∧ 3 ^ n.toNat ≤ i) ∧ ∀ H', Same H H' → E (.ref (ad .N)) none H'
def sp_apartX : Sp := fun vs H Q E => ∃ a b c, vs = [a, b, c] ∧ chkR K (ad .R) a H E fun r => (r = .round ∧ ∀ H', Same H H' → E (.ref (ad .R)) none H') ∨ (r ≠ .round ∧ chkS K (ad .S) b H E fun _ s => chkS K (ad .S) c H E fun _ s' => s.length ≠ s'.length ∧ ∀ H', Same H H' → E (.ref (ad .U)) none H')
def walkO (r : Rule) : List Int → List (Option (Int × Int)) → Option (List Int)
  | s, [] => some s
  | _, none :: _ => none
  | s, some m :: t => match stepL r s m with
    | none => none
    | some s' => walkO r s' t
def sp_doneX : Sp := fun vs H Q E => ∃ a b c, vs = [a, b, c] ∧ chkR K (ad .R) a H E fun r => chkS K (ad .S) b H E fun _ s => (No K H c "list" ∧ ∀ H', Same H H' → E (.ref (ad .M)) none H') ∨
  ∃ (q : Addr) (ws : List V) (os : List (Option (Int × Int))), c = .ref q ∧ SqL K H q ws ∧ Paired (fun v o => Mw K H v o) ws os ∧ (∀ s', walkO r s os = some s' → ∀ p H', H p = none → Same H H' → H' p = some (.lst (s'.map V.int)) → Q (.ref p) H') ∧ (walkO r s os = none → ∀ H', Same H H' → E (.ref (ad .M)) none H')
end
/-! ### the law's asking -/
def sp_ask (T : Hp → V → V → Prop) (C : Addr) : Sp := fun vs H _ E => ∃ a b, vs = [a, b] ∧ T H a b ∧ ∀ H', Same H H' → E (.ref C) none H'
structure Ask (P : Program) (w : World) (K : PySem.W.Frag) (mg : Str → Option Value) (base : Heap) (f : Addr) (T : Hp → V → V → Prop) (C : Addr) : Prop where
  ex : ∃ (fd : FuncData) (ps : List Str), FnOk P w K mg base (L2N.CX P w) 8 f fd ps (sp_ask T C) ∧ PySem.W.keepIn K (.ref f) = true ∧ Binds K fd ps []
theorem ask_of {P : Program} {w : World} {K : PySem.W.Frag} {mg : Str → Option Value} {base : Heap} {T : Hp → V → V → Prop} {C : Addr} {x : Str} {ps : List Str} (h : Has P w K mg base (L2N.CX P w) 8 x ps (sp_ask T C)) : ∃ f, mg x = some (.ref f) ∧ Ask P w K mg base f T C := by
  obtain ⟨f, fd, F, hm, hk, hb⟩ := h
  exact ⟨f, hm, ⟨⟨fd, ps, F, hk, hb⟩⟩⟩
def sp_kinds (c : Ec) : Addr → Sp := fun a vs H Q _ => vs = [.ref a] ∧ ∀ p H', H p = none → Same H H' → H' p = some (.lst (c.fl.map V.bl)) → Q (.ref p) H'
section
variable (P : Program) (w : World) (K : PySem.W.Frag) (mg : Str → Option Value) (base : Heap) (ad : Ec → Addr)
def sp_toldX : Sp := fun vs H Q _ => ∃ (f : Addr) (T : Hp → V → V → Prop) (c : Ec) (a b : V), vs = [.ref f, a, b] ∧ Ask P w K mg base f T (ad c) ∧ T H a b ∧ ∀ p H', H p = none → Same H H' → H' p = some (.lst (c.fl.map V.bl)) → Q (.ref p) H'
def sp_allX : Sp := fun vs H Q _ => ∃ (f pd pt pu : Addr) (T : Hp → V → V → Prop) (c : Ec) (ds ts : List V), vs = [.ref f, .ref pd, .ref pt, .ref pu] ∧ Ask P w K mg base f T (ad c) ∧ SqL K H pd ds ∧ SqL K H pt ts ∧ SqL K H pu (c.fl.map V.bl) ∧ ts.length ≤ 1000 ∧
  (∀ H', Same H H' → ∀ d ∈ ds, ∀ t ∈ ts, T H' d t) ∧ ∀ H', Same H H' → Q (.bl true) H'
end
section
variable (K : PySem.W.Frag)
def TRule : Hp → V → V → Prop := fun H d v => ∃ k : Nat, d = .int k ∧ k < 6 ∧ (NoRule K H v ∨ (k = 5 ∧ v = .str "round"))
def TState : Hp → V → V → Prop := fun H d v => ∃ k : Nat, d = .int k ∧ k < 9 ∧ BadS K H v
def TPeg : Hp → V → V → Prop := fun H d v => ∃ k : Nat, d = .int k ∧ k < 3 ∧ BadP K H v
def TMoves : Hp → V → V → Prop := fun H _ v => No K H v "list" ∨ ∃ (q : Addr) (ws : List V) (os : List (Option (Int × Int))), v = .ref q ∧ SqL K H q ws ∧ Paired (fun v o => Mw K H v o) ws os ∧ walkO .free [0, 0] os = none
def TNumber : Hp → V → V → Prop := fun H d v => ∃ (t p : Addr) (r : Rule) (s : List Int) (g : Int) (o : Option Int), d = .ref t ∧ SqT K H t [.str r.s, .ref p, .int g] ∧ SqL K H p (s.map V.int) ∧ s.length ≤ 999 ∧ AllP s ∧ P3 g ∧ Wh K H v o ∧ ∀ i, o = some i → 0 ≤ i → L r s.reverse g < i
def TDiscs : Hp → V → V → Prop := fun H a b => ∃ oa ob, Wh K H a oa ∧ Wh K H b ob ∧ ∀ n i, oa = some n → ob = some i → 0 ≤ n → 0 ≤ i → n ≤ 1000 ∧ 3 ^ n.toNat ≤ i
def TTwo : Hp → V → V → Prop := fun H a b => ∃ (p q : Addr) (s s' : List Int), a = .ref p ∧ b = .ref q ∧ SqL K H p (s.map V.int) ∧ SqL K H q (s'.map V.int) ∧ s.length ≤ 999 ∧ s'.length ≤ 999 ∧ AllP s ∧ AllP s' ∧ s.length ≠ s'.length
def sp_numsX : Sp := fun vs H Q _ => ∃ (p pu : Addr) (us : List V) (s : List Int) (far : Int), vs = [.ref p, .ref pu, .int far] ∧ SqL K H p (s.map V.int) ∧ s.length ≤ 500 ∧ AllP s ∧ SqL K H pu us ∧ (∃ q, us[4]? = some (.ref q) ∧ SqL K H q (Ec.N.fl.map V.bl)) ∧ 0 ≤ far ∧ far < 1000000 ∧ ∀ H', Same H H' → Q (.bl true) H'
end
theorem div3 (x : Int) (n : Nat) : x / 3 ^ n / 3 = x / 3 ^ (n + 1) := by
  have t : (0 : Int) < 3 ^ n := Int.pow_pos (by decide)
  rw [Int.ediv_ediv, if_neg (by omega), Int.pow_succ, Int.sub_zero]
def val : List Int → Int
  | [] => 0
  | d :: ds => d * 3 ^ ds.length + val ds
theorem zn_of {cls v : Value} {d : Option Addr} {oe : Obj} (hz : L2N.Zn cls d oe) (he : cls = v ∧ d = none) : L2N.Zn v none oe := by
  obtain ⟨rfl, rfl⟩ := he
  exact hz
theorem pe_hZs {X : Cx} {D a : Addr} {oe : Obj} {pn : List (Addr × Obj)} {j k : Nat} {x : Str} {ps : List Str} {sp : Addr → Sp} {q pos : Pos} {e : Expr} {es : List Expr} {t : TA} (h : HasZ X.prog X.w X.K X.mg X.base CX0 D k x ps sp) (hr : Room j X.A) (hj : k ≤ j)
    (hz : L2N.Zn (.ref D) none oe) (hf : ∃ vs, oe.data = .fields vs) (ha : PA (X.suite a ((a, oe) :: pn)) (e :: es) t) (hg : Gl (X.suite a ((a, oe) :: pn)) x := by rfl) (hdb : (x == ("__debug__" : Str)) = false := by decide)
    (he : starEach (e :: es) (X.suite a ((a, oe) :: pn)).env = (false, eval e (X.suite a ((a, oe) :: pn)).env) :: starEach es (X.suite a ((a, oe) :: pn)).env := by rfl) (hpl : (backTo pos (starEach es (X.suite a ((a, oe) :: pn)).env)).any (·.1) = false := by rfl) :
    PE (X.suite a ((a, oe) :: pn)) (.Call (.Name x q) (e :: es) [] pos) (tCallS (sp a) (fun _ => E0) t) :=
  have hr := hr.mono hj
  pe_hZ (X := X.suite a ((a, oe) :: pn)) h ⟨hr.dp, hr.un⟩ rfl List.mem_cons_self hz hf ha hg hdb he hpl
/-- two lists of the same bools -/
theorem rd_bls {K : PySem.W.Frag} {H : Hp} {a b : Addr} {c : Ec} (h1 : SqL K H a (c.fl.map V.bl)) (h2 : SqL K H b (c.fl.map V.bl)) : ∃ d e, Dp K H (.ref a) d ∧ Dp K H (.ref b) e ∧ SeqAt.shaped d = true ∧ SeqAt.shaped e = true ∧ PyData.eqv d e = true := by
  have dp : ∀ bs : List Bool, DpAll K H (bs.map V.bl) (bs.map PyData.bool) := fun bs => by
    induction bs with
    | nil => exact .nil
    | cons x t ih => exact .cons (.bl x) ih
  refine ⟨.list (c.fl.map .bool), .list (c.fl.map .bool), .lst h1 (dp _), .lst h2 (dp _), ?_, ?_, ?_⟩
  · cases c <;> decide +kernel
  · cases c <;> decide +kernel
  · cases c <;> decide +kernel
theorem rd_eqB {K : PySem.W.Frag} {H : Hp} {Q : VK} {a b : Addr} {c : Ec} (h1 : SqL K H a (c.fl.map V.bl)) (h2 : SqL K H b (c.fl.map V.bl)) (q : Q (.bl true) H) : rEqD K (.ref a) (.ref b) H Q := by
  obtain ⟨d, e, x1, x2, x3, x4, x5⟩ := rd_bls h1 h2
  refine ⟨d, e, x1, x2, x3, x4, ?_⟩
  rw [x5]
  exact q
theorem rd_neBl {K : PySem.W.Frag} {H : Hp} {Q : VK} {a b : Addr} {c : Ec} (h1 : SqL K H a (c.fl.map V.bl)) (h2 : SqL K H b (c.fl.map V.bl)) (q : Q (.bl false) H) : rNeD K (.ref a) (.ref b) H Q := by
  obtain ⟨d, e, x1, x2, x3, x4, x5⟩ := rd_bls h1 h2
  refine ⟨d, e, x1, x2, x3, x4, ?_⟩
  rw [x5]
  exact q
end Peg

namespace Peg
open PySem PyProof.Rows L2
/-! ### values that are gathered for a list -/
def Up (T : Hp → V → Prop) : Prop := ∀ (H H' : Hp) (v : V), Same H H' → T H v → T H' v
def Col (T : Hp → V → Prop) (H : Hp) (xs : List V) : Prop := ∀ x ∈ xs, T H x
section
variable {T : Hp → V → Prop} {H H' : Hp} {xs : List V} {v : V}
theorem Col.nil : Col T H [] := fun _ h => nomatch h
theorem Col.up (u : Up T) (A : Col T H xs) (e : Same H H') : Col T H' xs := fun x hx => u _ _ _ e (A x hx)
theorem Col.add (u : Up T) (A : Col T H xs) (e : Same H H') (b : T H' v) : Col T H' (xs ++ [v]) := fun x hx => by
  rcases List.mem_append.mp hx with hx | hx
  · exact u _ _ _ e (A x hx)
  · rw [List.mem_singleton.mp hx]
    exact b
theorem Col.put (A : Col T H xs) (b : T H v) : Col T H (xs ++ [v]) := fun x hx => by
  rcases List.mem_append.mp hx with hx | hx
  · exact A x hx
  · rw [List.mem_singleton.mp hx]
    exact b
end
/-! ### a heap without one address -/
def off (l : Addr) (H : Hp) : Hp := fun a => if a = l then none else H a
section
variable {l p : Addr} {H H' : Hp} {o : HO}
theorem off_upd : off l (upd H l o) = off l H := by
  funext a
  unfold off
  by_cases h : a = l
  · rw [if_pos h, if_pos h]
  · rw [if_neg h, if_neg h, upd_ne h]
theorem off_le : Same (off l H) H := fun b x h => by
  unfold off at h
  by_cases e : b = l
  · rw [if_pos e] at h
    cases h
  · rw [if_neg e] at h
    exact h
theorem off_up (e : Same H H') : Same (off l H) (off l H') := fun b x h => by
  unfold off at h ⊢
  by_cases q : b = l
  · rw [if_pos q] at h
    cases h
  · rw [if_neg q] at h ⊢
    exact e _ _ h
theorem off_at (h : H p = some o) (n : p ≠ l) : off l H p = some o := by
  unfold off
  rw [if_neg n]
  exact h
theorem off_free (h : H l = none) : Same H (off l H) := fun b x e => by
  unfold off
  rw [if_neg (ne_of_none e h)]
  exact e
end
/-! ### range(0, m, 1 + m // 6) -/
theorem rgC_at (m : Nat) (hm : m ≤ 1000) : ∃ n, n ≤ m ∧ RgC 0 (m : Int) (1 + (m : Int) / 6) n := by
  have c1 : 0 ≤ (m : Int) / 6 := Int.ediv_nonneg (by omega) (by decide)
  have c2 : (m : Int) / 6 ≤ m := Int.ediv_le_self _ (by omega)
  generalize hc : 1 + (m : Int) / 6 = c at *
  have c0 : 0 < c := by omega
  have cb : c ≤ 1001 := by omega
  have hs : Builtin.Range.rangeSize 0 (m : Int) c = if (0 : Int) < m then (m - 0 - 1) / c + 1 else 0 := by
    unfold Builtin.Range.rangeSize
    rw [if_pos c0]
  have hb : 0 ≤ Builtin.Range.rangeSize 0 (m : Int) c ∧ Builtin.Range.rangeSize 0 (m : Int) c ≤ m := by
    rw [hs]
    by_cases h : (0 : Int) < m
    · rw [if_pos h]
      have h1 : 0 ≤ ((m : Int) - 0 - 1) / c := Int.ediv_nonneg (by omega) (by omega)
      have h2 : ((m : Int) - 0 - 1) / c ≤ (m : Int) - 0 - 1 := Int.ediv_le_self _ (by omega)
      omega
    · rw [if_neg h]
      omega
  refine ⟨(Builtin.Range.rangeSize 0 (m : Int) c).toNat, by omega, by omega, by omega, ?_, by omega⟩
  unfold Builtin.Range.small
  simp only [Builtin.Range.rangeFitsLong, Bool.and_eq_true, Bool.or_eq_true, decide_eq_true_eq, beq_iff_eq, if_pos c0]
  refine ⟨⟨⟨⟨?_, ?_⟩, ?_⟩, ?_⟩, ?_⟩
  · omega
  · omega
  · omega
  · omega
  · right
    first
    | (rw [if_pos c0]; simp; omega)
    | (simp [c0]; omega)
/-- for x in a range of any step -/
theorem for_rc {lo c : Int} {n j : Nat} {nx bk ct : L2.St → Hp → Prop} {rt : VK} {σ : L2.St} {H : Hp} {tb : TS} (Pv : Nat → L2.St → Hp → Prop) (h0 : Pv 0 σ H) (hs : ∀ i σ H, i < n → Pv i σ H → tb ⟨Pv (i + 1), rt, nx, Pv (i + 1)⟩ (σ.set j (some (.int (lo + (i : Nat) * c)))) H) (hd : ∀ σ H, Pv n σ H → nx σ H) :
    ForW (Itc lo c n) (gName j) tb ⟨nx, rt, bk, ct⟩ σ H :=
  for_rangeC (D := ⟨nx, rt, bk, ct⟩) Pv h0 (fun i σ H hi p => hs i σ H hi p) hd
theorem stepL_big {r : Rule} {s : List Int} {m : Int × Int} (h : (s.length : Int) ≤ m.1) : stepL r s m = none := by
  unfold stepL
  rw [if_neg]
  intro z
  obtain ⟨x, hx, e⟩ := mem_moves.mp z
  have h2 := (behind_set hx).2
  rw [← e] at h
  have h : (s.length : Int) ≤ ((x.1.1 : Nat) : Int) := h
  omega
theorem all01 : AllP [0, 1] := fun p hp => by
  simp only [List.mem_cons, List.not_mem_nil, or_false] at hp
  unfold P3
  omega
theorem all00 : AllP [0, 0] := fun p hp => by
  simp only [List.mem_cons, List.not_mem_nil, or_false] at hp
  unfold P3
  omega
theorem all0 : AllP [0] := fun p hp => by
  simp only [List.mem_cons, List.not_mem_nil, or_false] at hp
  unfold P3
  omega
/-! ### the wrong things -/
section
variable {K : PySem.W.Frag} {H : Hp} {p : Addr} {v : V} {o : Option Int} {xs : List V}
theorem up_S : Up (BadS K) := fun _ _ _ e h => h.up e
theorem up_P : Up (BadP K) := fun _ _ _ e h => h.up e
theorem up_R : Up (NoRule K) := fun _ _ _ e h => h.up e
def BadM (K : PySem.W.Frag) (H : Hp) (v : V) : Prop := TMoves K H .non v
theorem up_M : Up (BadM K) := fun _ _ _ e h => by
  rcases h with h | ⟨q, ws, os, rfl, h1, h2, h3⟩
  · exact .inl (h.up e)
  · exact .inr ⟨q, ws, os, rfl, e.seq h1, Paired.mapP h2 fun _ _ z => z.up e, h3⟩
/-- a list of one item that is no peg -/
theorem bad1 (h : H p = some (.lst [v])) (w : Wh K H v o) (b : pegO o = false) : BadS K H (.ref p) := .it (os := [o]) (sqL_of h) (show 1 ≤ 1000 by decide) (.cons w .nil) (by simp [b])
/-- a list of one move -/
theorem badM1 {m : Option (Int × Int)} (h : H p = some (.lst [v])) (w : Mw K H v m) (b : walkO .free [0, 0] [m] = none) : BadM K H (.ref p) := .inr ⟨p, [v], [m], rfl, sqL_of h, .cons w .nil, b⟩
theorem walk1 {m : Int × Int} (h : stepL .free [0, 0] m = none) : walkO .free [0, 0] [some m] = none := by
  show (match stepL .free [0, 0] m with | none => none | some s' => walkO .free s' []) = none
  rw [h]
theorem pegO_hi {i : Int} (h : 3 ≤ i) : pegO (some i) = false := by
  show (decide (0 ≤ i) && decide (i ≤ 2)) = false
  rw [decide_eq_false (show ¬ i ≤ 2 by omega), Bool.and_false]
theorem pegO_lo {i : Int} (h : i < 0) : pegO (some i) = false := by
  show (decide (0 ≤ i) && decide (i ≤ 2)) = false
  rw [decide_eq_false (show ¬ 0 ≤ i by omega), Bool.false_and]
/-- a state with a bad peg at one place -/
theorem badAt {s t : List Int} (h : H p = some (.lst ((s.map V.int ++ [v]) ++ t.map V.int))) (z : s.length + t.length ≤ 900) (w : Wh K H v o) (b : pegO o = false) : BadS K H (.ref p) := by
  have hm : ∀ s : List Int, Paired (fun v o => Wh K H v o) (s.map V.int) (s.map some) := fun s => by
    induction s with
    | nil => exact .nil
    | cons x t ih => exact .cons (.int x) ih
  refine .it (os := (s.map some ++ [o]) ++ t.map some) (sqL_of h) (by simp; omega) (paired_app (Paired.snoc (hm s) w) (hm t)) ?_
  rw [List.all_append, List.all_append]
  simp [b]
end
/-- the rows of due -/
def rowV (j : Nat) : List V := [.bl (decide ((j : Int) = 0)), .bl (decide ((j : Int) = 1)), .bl (decide ((j : Int) = 2)), .bl (decide ((j : Int) = 3)), .bl (decide ((j : Int) = 4)), .bl (decide ((j : Int) = 5)), .bl false, .bl true]
def Ec.ix : Ec → Nat
  | .R => 0
  | .S => 1
  | .P => 2
  | .M => 3
  | .N => 4
  | .U => 5
theorem row_fl (c : Ec) : rowV c.ix = c.fl.map V.bl := by cases c <;> rfl
theorem ix_lt (c : Ec) : c.ix < 6 := by cases c <;> decide
theorem s_len (r : Rule) : r.s.length ≤ 5 := by cases r <;> decide +kernel
end Peg
namespace Peg
open PySem PyProof.Rows L2
section
variable {H : Hp} {Q : VK} {xs : List V}
def newL (xs : List V) (H : Hp) (Q : VK) : Prop := ∀ p, H p = none → Q (.ref p) (upd H p (.lst xs))
def newT (xs : List V) (H : Hp) (Q : VK) : Prop := ∀ p, H p = none → Q (.ref p) (upd H p (.tup xs))
def newD (H : Hp) (Q : VK) : Prop := ∀ p, H p = none → Q (.ref p) (upd H p (.dK []))
theorem new_l (h : ∀ p H', H p = none → Same H H' → H' p = some (.lst xs) → Q (.ref p) H') : newL xs H Q := fun p n => h p _ n (same_new n) upd_same
theorem new_t (h : ∀ p H', H p = none → Same H H' → H' p = some (.tup xs) → Q (.ref p) H') : newT xs H Q := fun p n => h p _ n (same_new n) upd_same
theorem new_d (h : ∀ p H', H p = none → Same H H' → H' p = some (.dK []) → Q (.ref p) H') : newD H Q := fun p n => h p _ n (same_new n) upd_same
end
section
variable {σ : L2.St} {H : Hp} {Q : VK} {tA : TA} {K : PySem.W.Frag} {l b : Addr} {xs ys : List V} {lo hi : Option Int}
theorem rd_lstN (h : tA σ H fun xs H1 => xs.length ≤ sizeLine ∧ newL xs H1 Q) : tLst tA σ H Q := h
theorem rd_tupN (h : tA σ H fun xs H1 => xs.length ≤ sizeLine ∧ newT xs H1 Q) : tTup tA σ H Q := h
theorem rd_dnewN (q : newD H Q) : tDNewK σ H Q := q
theorem rd_catN (h1 : H l = some (.lst xs)) (h2 : H b = some (.lst ys)) (z : xs.length + ys.length ≤ 100000) (q : newL (xs ++ ys) H Q) : rCat (.ref l) (.ref b) H Q := rd_cat h1 h2 z q
theorem rd_slLN (h : SqL K H l xs) (q : newL (cutV xs lo hi) H Q) : rSlL K (.ref l) lo hi H Q := rd_slL h q
theorem rd_listLN (h : SqL K H l xs) (q : newL xs H Q) : rListOf K [.ref l] H Q := rd_listL h q
theorem rd_lRgN {n : Nat} (c : n ≤ 1000) (q : newL ((List.range n).map fun i => V.int (i : Nat)) H Q) : lRg 0 (n : Int) H Q := rd_lRg1 c q
end
end Peg

namespace Peg
open PySem PyProof.Rows L2
local macro_rules | `(tactic| walk_at "s") => `(tactic| with_reducible first
  | refine rd_seq ?_ | refine rd_asgN ?_ | refine rd_asgT ?_ | refine rd_ret ?_ | refine rd_drop ?_ | refine rd_ifs ?_ | refine rd_next ?_ | refine rd_par ?_ | refine rd_par2 ?_ | refine rd_par3 ?_ | refine rd_par33 ?_
  | refine rd_c ?_ | refine rd_op ?_ | refine rd_un ?_ | refine rd_rU ?_ | refine rd_rI0 ?_ | refine rd_test ?_ | refine rd_tB ?_ | refine rd_bl ?_ | refine rd_and ?_ | refine rd_or ?_ | refine rd_not ?_
  | refine rd_andV ?_ | refine rd_orV ?_ | refine rd_notV ?_ | refine rd_ife ?_ | refine rd_nil ?_ | refine rd_cons ?_ | refine rd_call ?_ | refine rd_cb ?_ | refine rd_bm ?_ | refine rd_bm0 ?_ | refine rd_gN ?_ | refine rd_tup ?_ | refine rd_lst ?_ | refine rd_ipI ?_
  | refine rd_rev ?_ | refine rd_sl ?_ | refine rd_noP ?_ | refine rd_part ?_ | refine rd_int1 ?_ | refine rd_chain ?_ | refine rd_isiI ?_ | refine rd_isiB ?_ | refine rd_isiS ?_ | refine rd_lc ?_ | refine rd_gC ?_ | refine rd_gNil ?_ | refine rd_for ?_ | refine rd_while ?_ | refine rd_iR1 ?_ | refine rd_iR2 ?_ | refine rd_iL ?_ | refine rd_iT ?_ | refine rd_iE ?_ | refine rd_iV ?_ | refine rd_iRR ?_ | refine rd_tRg1 ?_ | refine rd_eqF ?_ | refine rd_eqL ?_ | refine rd_eqR ?_ | refine rd_neRound ?_ | refine rd_whole ?_ | refine rd_eqI ?_ | refine rd_neI ?_ | refine rd_neB ?_ | refine rd_min ?_ | refine rd_max ?_
  | (refine rd_var (v := ?v) ?e ?_; case e => with_unfolding_all exact rfl)
  | (refine rd_aug (x := ?x) ?e ?_; case e => with_unfolding_all exact rfl)
  | (refine rd_rEq ?c ?_; case c => with_unfolding_all exact rfl)
  | (refine rd_rNe ?c ?_; case c => with_unfolding_all exact rfl)
  | (refine rd_mulL ?c ?_; case c => with_unfolding_all decide)
  | (refine rd_mulR ?c ?_; case c => with_unfolding_all decide)
  | (refine rd_modP ?c ?_; case c => with_unfolding_all decide)
  | (refine rd_divP ?c ?_; case c => with_unfolding_all decide)
  | (refine rd_ifT ?c ?_; case c => with_unfolding_all decide)
  | (refine rd_ifF ?c ?_; case c => with_unfolding_all decide)
  | (refine rd_sz ?c ?_; case c => with_unfolding_all exact rfl)
  | refine rd_abs ?_ | refine rd_is_near ?_)

def topS (i : Nat) : Stmt := PySem.Challenge.pw_pegtowers_k07_refused.main.body.getD i (.Pass ⟨0, 0, 0, 0⟩)
section
variable {P : Program} {w : World} {K : PySem.W.Frag} {mg : Str → Option Value} {base : Heap}
abbrev s_is_near : Stmt := topS 2
theorem sc_is_near : FnScope ["rule", "start", "end"] ["rule", "start", "end"] (defScope s_is_near) := ⟨rfl, rfl, rfl, by decide +kernel, rfl, by decide +kernel, by decide +kernel⟩

theorem ok_is_near (D : Df K mg "is_near" s_is_near ["rule", "start", "end"]) (B : Blt mg) : Has P w K mg base CX0 1 "is_near" ["rule", "start", "end"] sp_is_near := by
  refine D.ok sc_is_near (fun vs H Q E h => ?_) (fun f cdv A outer s H vs Q E hr h => ?_)
  · obtain ⟨r, a, b, rfl, _⟩ := h
    rfl
  · obtain ⟨r, a, b, rfl, q⟩ := h
    refine ⟨_, pss_cons (ps_if (pt_cmpR op_eq (pv 0) pe_str (nomark _)) (pss_one (ps_ret (pe_cmpR op_eq (pe_callB ca_abs (by rfl) B.abs (by decide +kernel) (pa_cons (pe_op op_sub (pv 1) (pv 2)) pa_nil)) pe_int (nomark _)))) pss_nil)
      (pss_one (ps_ret (pe_or (pe_cmpR op_eq (pv 0) pe_str (nomark _)) (pe_one (pe_cmpR op_eq (pv 2) (pe_op op_mod (pe_op op_add (pv 1) pe_int) pe_int) (nomark _)))))), ?_⟩
    cases r
    all_goals repeat walk_at "s"
    all_goals exact q
abbrev s_tower : Stmt := topS 3
theorem sc_tower : FnScope ["rule", "counts", "start", "end"] ["rule", "counts", "start", "end"] (defScope s_tower) := ⟨rfl, rfl, rfl, by decide +kernel, rfl, by decide +kernel, by decide +kernel⟩

theorem ok_tower (D : Df K mg "tower" s_tower ["rule", "counts", "start", "end"]) (h_is_near : Has P w K mg base CX0 1 "is_near" ["rule", "start", "end"] sp_is_near) : Has P w K mg base CX0 2 "tower" ["rule", "counts", "start", "end"] (sp_tower K) := by
  refine D.ok sc_tower (fun vs H Q E h => ?_) (fun f cdv A outer s H vs Q E hr h => ?_)
  · obtain ⟨r, v, c, a, b, rfl, _⟩ := h
    rfl
  · obtain ⟨r, v, c, a, b, rfl, ⟨p, rfl, hp⟩, q⟩ := h
    refine ⟨_, pss_cons (ps_if (pt_cmpR op_eq (pv 2) (pv 3) (nomark _)) (pss_one (ps_ret pe_int)) pss_nil)
      (pss_cons (ps_if (pt_val (pe_h h_is_near (hr.mono (by decide)) pass0 (pa_cons (pv 0) (pa_cons (pv 2) (pa_cons (pv 3) pa_nil))))) (pss_one (ps_ret (pe_ix ix_tup (pv 1) pe_int (fun _ _ => rfl)))) pss_nil)
      (pss_one (ps_ret (pe_ix ix_tup (pv 1) pe_int (fun _ _ => rfl))))), ?_⟩
    repeat walk_at "s"
    refine rd_ifP (fun e => ?_) (fun e => ?_)
    · repeat walk_at "s"
      unfold tower at q
      rw [if_pos e] at q
      exact q
    · repeat walk_at "s"
      unfold tower at q
      rw [if_neg e] at q
      refine rd_if2 (fun e2 => ?_) (fun e2 => ?_)
      · rw [if_pos e2] at q
        repeat walk_at "s"
        exact rd_ixT hp rfl q
      · rw [if_neg (by rw [e2]; decide)] at q
        repeat walk_at "s"
        exact rd_ixT hp rfl q
abbrev s_steps_of : Stmt := topS 4
theorem sc_steps_of : FnScope ["rule", "start", "end", "middle"] ["rule", "start", "end"] (defScope s_steps_of) := ⟨rfl, rfl, rfl, by decide +kernel, rfl, by decide +kernel, by decide +kernel⟩

theorem ok_steps_of (D : Df K mg "steps_of" s_steps_of ["rule", "start", "end"]) (h_is_near : Has P w K mg base CX0 1 "is_near" ["rule", "start", "end"] sp_is_near) : Has P w K mg base CX0 2 "steps_of" ["rule", "start", "end"] (sp_steps_of K) := by
  refine D.ok sc_steps_of (fun vs H Q E h => ?_) (fun f cdv A outer s H vs Q E hr h => ?_)
  · obtain ⟨r, a, b, rfl, _⟩ := h
    rfl
  · obtain ⟨r, a, b, rfl, q⟩ := h
    refine ⟨_, pss_cons (ps_if (pt_cmpR op_eq (pv 1) (pv 2) (nomark _)) (pss_one (ps_ret (pe_lst pa_nil))) pss_nil)
      (pss_cons (ps_if (pt_val (pe_h h_is_near (hr.mono (by decide)) pass0 (pa_cons (pv 0) (pa_cons (pv 1) (pa_cons (pv 2) pa_nil))))) (pss_one (ps_ret (pe_lst (pa_cons (pe_tup (pa_cons (pv 1) (pa_cons (pv 2) pa_nil))) pa_nil)))) pss_nil)
      (pss_cons (ps_set (i := 3) sc_steps_of.nd rfl (by first | exact Or.inl rfl | exact Or.inr rfl) (pe_op op_sub (pe_op op_sub pe_int (pv 1)) (pv 2)))
      (pss_one (ps_ret (pe_lst (pa_cons (pe_tup (pa_cons (pv 1) (pa_cons (pv 3) pa_nil))) (pa_cons (pe_tup (pa_cons (pv 3) (pa_cons (pv 2) pa_nil))) pa_nil))))))), ?_⟩
    repeat walk_at "s"
    refine rd_ifP (fun e => ?_) (fun e => ?_)
    · repeat walk_at "s"
      refine fun p np => (q p _ np (same_new np) ⟨[], sqL_of upd_same, ?_⟩)
      unfold steps
      rw [if_pos e]
      exact .nil
    · repeat walk_at "s"
      refine rd_if2 (fun e2 => ?_) (fun e2 => ?_)
      · repeat walk_at "s"
        refine fun t nt => ?_
        repeat walk_at "s"
        refine fun p np => (q p _ (same_new nt |>.free np) ((same_new nt).trans (same_new np)) ⟨_, sqL_of upd_same, ?_⟩)
        unfold steps
        rw [if_neg e, if_pos e2]
        exact .cons ⟨t, rfl, sqT_mono (same_new np) (sqT_of upd_same)⟩ .nil
      · repeat walk_at "s"
        refine fun t nt => ?_
        repeat walk_at "s"
        refine fun t2 nt2 => ?_
        repeat walk_at "s"
        refine fun p np => (q p _ (((same_new nt).trans (same_new nt2)).free np) (((same_new nt).trans (same_new nt2)).trans (same_new np)) ⟨_, sqL_of upd_same, ?_⟩)
        unfold steps
        rw [if_neg e, if_neg (by rw [e2]; decide)]
        exact .cons ⟨t, rfl, sqT_mono ((same_new nt2).trans (same_new np)) (sqT_of upd_same)⟩ (.cons ⟨t2, rfl, sqT_mono (same_new np) (sqT_of upd_same)⟩ .nil)
abbrev s_towers : Stmt := topS 1
theorem sc_towers : FnScope ["rule", "many", "found", "disc", "near", "far"] ["rule", "many"] (defScope s_towers) := ⟨rfl, rfl, rfl, by decide +kernel, rfl, by decide +kernel, by decide +kernel⟩

theorem ok_towers (D : Df K mg "towers" s_towers ["rule", "many"]) (B : Blt mg) : Has P w K mg base CX0 1 "towers" ["rule", "many"] (sp_towers K) := by
  refine D.ok sc_towers (fun vs H Q E h => ?_) (fun f cdv A outer s H vs Q E hr h => ?_)
  · obtain ⟨r, a, rfl, _⟩ := h
    rfl
  · obtain ⟨r, n, rfl, hn, q⟩ := h
    refine ⟨_, pss_cons (ps_set (i := 2) sc_towers.nd rfl (by first | exact Or.inl rfl | exact Or.inr rfl) (pe_lst (pa_cons (pe_tup (pa_cons pe_int (pa_cons pe_int pa_nil))) pa_nil)))
      (pss_cons (ps_for PassesOwn.never rfl (pi_range1 (by rfl) B.range (pa_cons (pv 1) pa_nil)) (pg_name (i := 3) sc_towers.nd rfl (by first | exact Or.inl rfl | exact Or.inr rfl))
        (pss_cons (ps_asg (pe_ix ix_list (pv 2) (pe_un un_neg pe_int) (fun _ _ => rfl)) (pg_tup rfl (pgs_cons (pg_name (i := 4) sc_towers.nd rfl (by first | exact Or.inl rfl | exact Or.inr rfl)) (pgs_cons (pg_name (i := 5) sc_towers.nd rfl (by first | exact Or.inl rfl | exact Or.inr rfl)) pgs_nil))))
        (pss_one (ps_if (pt_cmpR op_eq (pv 0) pe_str (nomark _)) (pss_one (ps_expr (pe_bm PySem.F.plainAttrs_list PySem.F.slot_list_append PySem.F.type_list_append mt_append (pv 2) (pa_cons (pe_tup (pa_cons (pe_op op_add (pe_op op_mul pe_int (pv 4)) pe_int) (pa_cons (pe_op op_add (pe_op op_mul pe_int (pv 4)) pe_int) pa_nil))) pa_nil)))) (pss_one (ps_if (pt_cmpR op_eq (pv 0) pe_str (nomark _)) (pss_one (ps_expr (pe_bm PySem.F.plainAttrs_list PySem.F.slot_list_append PySem.F.type_list_append mt_append (pv 2) (pa_cons (pe_tup (pa_cons (pe_op op_add (pe_op op_add (pv 5) pe_int) (pv 4)) (pa_cons (pe_op op_add (pe_op op_mul pe_int (pv 5)) pe_int) pa_nil))) pa_nil)))) (pss_one (ps_expr (pe_bm PySem.F.plainAttrs_list PySem.F.slot_list_append PySem.F.type_list_append mt_append (pv 2) (pa_cons (pe_tup (pa_cons (pe_op op_add (pe_op op_mul pe_int (pv 5)) pe_int) (pa_cons (pe_op op_add (pe_op op_add (pe_op op_mul pe_int (pv 5)) pe_int) (pv 4)) pa_nil))) pa_nil))))))))))
      (pss_one (ps_ret (pv 2)))), ?_⟩
    repeat walk_at "s"
    intro t nt
    repeat walk_at "s"
    intro l nl
    repeat walk_at "s"
    refine rd_r1 (by omega) ?_
    have s0 : Same H (upd (upd H t (.tup [.int 0, .int 0])) l (.lst [.ref t])) := (same_new nt).trans (same_new nl)
    have nl0 : H l = none := (same_new nt).free nl
    refine for_r (fun i σ H' => ∃ (d ne fa : Option V) (vs : List V), σ = [some (.str r.s), some (.int n), some (.ref l), d, ne, fa] ∧ Same H H' ∧ H' l = some (.lst vs) ∧ Laid H' vs ((List.range (i + 1)).map (tw r)))
      ⟨none, none, none, [.ref t], rfl, s0, upd_same, .cons ⟨t, rfl, (by rw [upd_ne (ne_of_none upd_same nl), upd_same] <;> rfl)⟩ .nil⟩ ?_ ?_
    · rintro i σ H' hi ⟨d, ne, fa, vs, rfl, sH, hl, hp⟩
      have em : ∀ i, (List.range (i + 1)).map (tw r) = (List.range i).map (tw r) ++ [tw r i] := fun i => by rw [List.range_succ, List.map_append] <;> rfl
      have hz : vs.length < sizeLine := by
        have := hp.len
        rw [List.length_map, List.length_range] at this
        exact sz_lt (by omega)
      obtain ⟨us, v, rfl, hp1, t1, rfl, ht1⟩ := paired_last (em i ▸ hp)
      repeat walk_at "s"
      refine rd_ixL (sqL_of hl) atI_neg1 ?_
      refine rd_gT (sqT_of ht1) rfl ?_
      repeat walk_at "s"
      cases r
      all_goals repeat walk_at "s"
      all_goals refine ⟨tyV_l (sqL_of hl), ?_⟩
      all_goals repeat walk_at "s"
      all_goals intro t2 n2
      all_goals repeat walk_at "s"
      all_goals refine rd_app (same_new n2 _ _ hl) hz ?_
      all_goals refine ⟨_, _, _, _, rfl, same_mut (sH.trans (same_new n2)) nl0, upd_same, ?_⟩
      all_goals rw [em]
      all_goals exact hp.app hl n2
    · rintro σ H' ⟨d, ne, fa, vs, rfl, sH, hl, hp⟩
      repeat walk_at "s"
      exact q l H' nl0 sH (hp.pairs hl)
end
end Peg

namespace Peg
open PySem PyProof.Rows L2
local macro_rules | `(tactic| walk_at "s") => `(tactic| with_reducible first
  | refine rd_seq ?_ | refine rd_asgN ?_ | refine rd_asgT ?_ | refine rd_ret ?_ | refine rd_drop ?_ | refine rd_ifs ?_ | refine rd_next ?_ | refine rd_par ?_ | refine rd_par2 ?_ | refine rd_par3 ?_ | refine rd_par33 ?_
  | refine rd_c ?_ | refine rd_op ?_ | refine rd_un ?_ | refine rd_rU ?_ | refine rd_rI0 ?_ | refine rd_test ?_ | refine rd_tB ?_ | refine rd_bl ?_ | refine rd_and ?_ | refine rd_or ?_ | refine rd_not ?_
  | refine rd_andV ?_ | refine rd_orV ?_ | refine rd_notV ?_ | refine rd_ife ?_ | refine rd_nil ?_ | refine rd_cons ?_ | refine rd_call ?_ | refine rd_cb ?_ | refine rd_bm ?_ | refine rd_bm0 ?_ | refine rd_gN ?_ | refine rd_tup ?_ | refine rd_lst ?_ | refine rd_ipI ?_
  | refine rd_rev ?_ | refine rd_sl ?_ | refine rd_noP ?_ | refine rd_part ?_ | refine rd_int1 ?_ | refine rd_chain ?_ | refine rd_isiI ?_ | refine rd_isiB ?_ | refine rd_isiS ?_ | refine rd_lc ?_ | refine rd_gC ?_ | refine rd_gNil ?_ | refine rd_for ?_ | refine rd_while ?_ | refine rd_iR1 ?_ | refine rd_iR2 ?_ | refine rd_iL ?_ | refine rd_iT ?_ | refine rd_iE ?_ | refine rd_iV ?_ | refine rd_iRR ?_ | refine rd_tRg1 ?_ | refine rd_eqF ?_ | refine rd_eqL ?_ | refine rd_eqR ?_ | refine rd_neRound ?_ | refine rd_whole ?_ | refine rd_eqI ?_ | refine rd_neI ?_ | refine rd_neB ?_ | refine rd_min ?_ | refine rd_max ?_
  | (refine rd_var (v := ?v) ?e ?_; case e => with_unfolding_all exact rfl)
  | (refine rd_aug (x := ?x) ?e ?_; case e => with_unfolding_all exact rfl)
  | (refine rd_rEq ?c ?_; case c => with_unfolding_all exact rfl)
  | (refine rd_rNe ?c ?_; case c => with_unfolding_all exact rfl)
  | (refine rd_mulL ?c ?_; case c => with_unfolding_all decide)
  | (refine rd_mulR ?c ?_; case c => with_unfolding_all decide)
  | (refine rd_modP ?c ?_; case c => with_unfolding_all decide)
  | (refine rd_divP ?c ?_; case c => with_unfolding_all decide)
  | (refine rd_ifT ?c ?_; case c => with_unfolding_all decide)
  | (refine rd_ifF ?c ?_; case c => with_unfolding_all decide)
  | (refine rd_sz ?c ?_; case c => with_unfolding_all exact rfl)
  | refine rd_abs ?_ | refine rd_is_near ?_)

section
variable {P : Program} {w : World} {K : PySem.W.Frag} {mg : Str → Option Value} {base : Heap}
abbrev s_behind_first : Stmt := topS 29
theorem sc_behind_first : FnScope ["rule", "start", "end", "ahead", "steps", "total", "lesser", "step_start", "step_end", "third"] ["rule", "start", "end", "ahead"] (defScope s_behind_first) := ⟨rfl, rfl, rfl, by decide +kernel, rfl, by decide +kernel, by decide +kernel⟩

theorem ok_behind_first (D : Df K mg "behind_first" s_behind_first ["rule", "start", "end", "ahead"]) (h_steps_of : Has P w K mg base CX0 2 "steps_of" ["rule", "start", "end"] (sp_steps_of K)) (h_tower : Has P w K mg base CX0 2 "tower" ["rule", "counts", "start", "end"] (sp_tower K)) :
    Has P w K mg base CX0 3 "behind_first" ["rule", "start", "end", "ahead"] (sp_behind_first K) := by
  refine D.ok sc_behind_first (fun vs H Q E h => ?_) (fun f cdv A outer s H vs Q E hr h => ?_)
  · obtain ⟨r, a, g, v, c, rfl, _⟩ := h
    rfl
  · obtain ⟨r, a, g, v, c, rfl, hc, q⟩ := h
    refine ⟨_, pss_cons (ps_set (i := 4) sc_behind_first.nd rfl (by first | exact Or.inl rfl | exact Or.inr rfl) (pe_h h_steps_of (hr.mono (by decide)) pass0 (pa_cons (pv 0) (pa_cons (pv 1) (pa_cons (pv 2) pa_nil)))))
      (pss_cons (ps_set (i := 5) sc_behind_first.nd rfl (by first | exact Or.inl rfl | exact Or.inr rfl) pe_int)
      (pss_cons (ps_set (i := 6) sc_behind_first.nd rfl (by first | exact Or.inl rfl | exact Or.inr rfl) (pv 2))
      (pss_cons (ps_for PassesOwn.never rfl (pi_list (pv 4)) (pg_tup rfl (pgs_cons (pg_name (i := 7) sc_behind_first.nd rfl (by first | exact Or.inl rfl | exact Or.inr rfl)) (pgs_cons (pg_name (i := 8) sc_behind_first.nd rfl (by first | exact Or.inl rfl | exact Or.inr rfl)) pgs_nil)))
        (pss_cons (ps_set (i := 9) sc_behind_first.nd rfl (by first | exact Or.inl rfl | exact Or.inr rfl) (pe_op op_sub (pe_op op_sub pe_int (pv 7)) (pv 8)))
        (pss_cons (ps_if (pt_cmpR op_gt (pv 5) pe_int (nomark _)) (pss_one (ps_aug (i := 5) sc_behind_first.nd rfl (by first | exact Or.inl rfl | exact Or.inr rfl) (pe_h h_tower (hr.mono (by decide)) pass0 (pa_cons (pv 0) (pa_cons (pv 3) (pa_cons (pv 6) (pa_cons (pv 9) pa_nil))))) ip_add)) pss_nil)
        (pss_cons (ps_aug (i := 5) sc_behind_first.nd rfl (by first | exact Or.inl rfl | exact Or.inr rfl) pe_int ip_add)
        (pss_one (ps_set (i := 6) sc_behind_first.nd rfl (by first | exact Or.inl rfl | exact Or.inr rfl) (pv 9)))))))
      (pss_one (ps_ret (pe_op op_add (pv 5) (pe_h h_tower (hr.mono (by decide)) pass0 (pa_cons (pv 0) (pa_cons (pv 3) (pa_cons (pv 6) (pa_cons (pv 2) pa_nil))))))))))), ?_⟩
    dsimp only [cxOf_K]
    repeat walk_at "s"
    refine ⟨r, a, g, rfl, fun p H1 np s1 h1 => ?_⟩
    repeat walk_at "s"
    obtain ⟨ws, hw, hp⟩ := id h1
    refine rd_l1 hw ?_
    have bs := bf_fold r c a g
    refine for_lg (xs := ws) (fun i σ H' => ∃ (x y z : Option V), σ = [some (.str r.s), some (.int a), some (.int g), some v, some (.ref p), some (.int (((steps r a g).take i).foldl (bstep r c) (0, g)).1), some (.int (((steps r a g).take i).foldl (bstep r c) (0, g)).2), x, y, z] ∧ H' = H1)
      ⟨none, none, none, rfl, rfl⟩ (fun i σ H' _ ⟨_, _, _, _, e⟩ => e ▸ hw) ?_ ?_
    · rintro i x σ H' hi ⟨_, _, _, rfl, rfl⟩
      obtain ⟨b, hb, t, rfl, ht⟩ := paired_get1 hp hi
      refine rd_gT ht rfl ?_
      repeat walk_at "s"
      have e : ((steps r a g).take (i + 1)).foldl (bstep r c) (0, g) = bstep r c (((steps r a g).take i).foldl (bstep r c) (0, g)) b := by
        rw [List.take_add_one, hb, List.foldl_append]
        rfl
      generalize hS : ((steps r a g).take i).foldl (bstep r c) (0, g) = S at *
      refine rd_ifP (fun z => ?_) (fun z => ?_)
      · repeat walk_at "s"
        refine rd_tower (hc.mono s1) ?_
        repeat walk_at "s"
        rw [e]
        unfold bstep
        rw [if_pos z]
        exact ⟨_, _, _, rfl, rfl⟩
      · repeat walk_at "s"
        rw [e]
        unfold bstep
        rw [if_neg z]
        exact ⟨_, _, _, rfl, rfl⟩
    · rintro σ H' ⟨_, _, _, rfl, rfl⟩
      have hl : ws.length = (steps r a g).length := hp.length
      rw [hl, List.take_length]
      repeat walk_at "s"
      refine rd_tower (hc.mono s1) ?_
      repeat walk_at "s"
      rw [bs]
      exact q _ s1
abbrev s_goals_of : Stmt := topS 27
theorem sc_goals_of : FnScope ["rule", "state", "peg", "goals", "goal", "start", "steps"] ["rule", "state", "peg"] (defScope s_goals_of) := ⟨rfl, rfl, rfl, by decide +kernel, rfl, by decide +kernel, by decide +kernel⟩

theorem ok_goals_of (D : Df K mg "goals_of" s_goals_of ["rule", "state", "peg"]) (B : Blt mg) (h_steps_of : Has P w K mg base CX0 2 "steps_of" ["rule", "start", "end"] (sp_steps_of K)) :
    Has P w K mg base CX0 3 "goals_of" ["rule", "state", "peg"] (sp_goals_of K) := by
  refine D.ok sc_goals_of (fun vs H Q E h => ?_) (fun f cdv A outer s0 H vs Q E hr h => ?_)
  · obtain ⟨r, a, g, v, rfl, _⟩ := h
    rfl
  · obtain ⟨r, a, s, g, rfl, hs, hz, q⟩ := h
    refine ⟨_, pss_cons (ps_set (i := 3) sc_goals_of.nd rfl (by first | exact Or.inl rfl | exact Or.inr rfl) (pe_lst pa_nil))
      (pss_cons (ps_set (i := 4) sc_goals_of.nd rfl (by first | exact Or.inl rfl | exact Or.inr rfl) (pv 2))
      (pss_cons (ps_for PassesOwn.never rfl (pi_reversed (by rfl) B.reversed (pa_cons (pv 1) pa_nil)) (pg_name (i := 5) sc_goals_of.nd rfl (by first | exact Or.inl rfl | exact Or.inr rfl))
        (pss_cons (ps_expr (pe_bm PySem.F.plainAttrs_list PySem.F.slot_list_append PySem.F.type_list_append mt_append (pv 3) (pa_cons (pv 4) pa_nil)))
        (pss_cons (ps_set (i := 6) sc_goals_of.nd rfl (by first | exact Or.inl rfl | exact Or.inr rfl) (pe_h h_steps_of (hr.mono (by decide)) pass0 (pa_cons (pv 0) (pa_cons (pv 5) (pa_cons (pv 4) pa_nil)))))
        (pss_one (ps_if (pt_cmpR (op_neD hr.units) (pv 6) (pe_lst pa_nil) (nomark _)) (pss_one (ps_set (i := 4) sc_goals_of.nd rfl (by first | exact Or.inl rfl | exact Or.inr rfl) (pe_op op_sub (pe_op op_sub pe_int (pe_ix ix_tup (pe_ix ix_list (pv 6) pe_int (fun _ _ => rfl)) pe_int (fun _ _ => rfl))) (pe_ix ix_tup (pe_ix ix_list (pv 6) pe_int (fun _ _ => rfl)) pe_int (fun _ _ => rfl))))) pss_nil)))))
      (pss_one (ps_ret (pe_revL (pv 3)))))), ?_⟩
    dsimp only [cxOf_K]
    repeat walk_at "s"
    intro l nl
    repeat walk_at "s"
    refine rd_v1 ((same_new nl).seq hs) ?_
    have hlen : (s.map V.int).length = s.length := List.length_map _
    have hrl : s.reverse.length = s.length := List.length_reverse
    refine for_v (fun i σ H' => ∃ (x y : Option V), σ = [some (.str r.s), some (.ref a), some (.int g), some (.ref l), some (.int (goalAt r s.reverse g i)), x, y] ∧ Same H H' ∧ H' l = some (.lst (((goalsL r s.reverse g).take i).map V.int)))
      ⟨none, none, rfl, same_new nl, upd_same⟩ (fun i σ H' _ ⟨_, _, _, e, _⟩ => e.seq hs) ?_ ?_
    · rintro i x σ H' hi hx ⟨_, _, rfl, sH, hl⟩
      rw [hlen] at hi hx
      rw [List.getElem?_map] at hx
      obtain ⟨b, hb, rfl⟩ : ∃ b, s[s.length - 1 - i]? = some b ∧ V.int b = x := by
        cases e : s[s.length - 1 - i]? with
        | none =>
          rw [e] at hx
          cases hx
        | some b =>
          rw [e] at hx
          exact ⟨b, rfl, Option.some.inj hx⟩
      have hb' : s.reverse[i]? = some b := by
        rw [List.getElem?_reverse hi]
        exact hb
      repeat walk_at "s"
      refine ⟨tyV_l (sqL_of hl), ?_⟩
      repeat walk_at "s"
      refine rd_app hl (sz_lt ?_) ?_
      · rw [List.length_map, List.length_take, goalsL_len]
        omega
      repeat walk_at "s"
      refine ⟨r, b, _, rfl, fun p H2 np s2 h2 => ?_⟩
      repeat walk_at "s"
      intro p3 n3
      refine rd_nePairs h2 n3 ?_
      repeat walk_at "s"
      have hl2 : H2 l = some (.lst (((goalsL r s.reverse g).take (i + 1)).map V.int)) := by
        rw [goalsL_take r _ g (by omega), List.map_append]
        exact s2 _ _ upd_same
      have sf : Same H (upd H2 p3 (.lst [])) := ((same_mut sH nl).trans s2).trans (same_new n3)
      refine rd_ifN (fun z => ?_) (fun z => ?_)
      · obtain ⟨rest, er⟩ := steps_fst (r := r) (a := b) (g := goalAt r s.reverse g i) (fun q => z (steps_nil.mpr q))
        rw [er] at h2
        obtain ⟨ws, hw, hp⟩ := h2
        obtain ⟨v, hv, t, rfl, ht⟩ := paired_get2 hp (i := 0) rfl
        repeat walk_at "s"
        refine rd_ixL ((same_new n3).seq hw) (atI_nat (j := 0) hv) ?_
        repeat walk_at "s"
        refine rd_ixT (sqT_mono (same_new n3) ht) rfl ?_
        repeat walk_at "s"
        refine rd_ixL ((same_new n3).seq hw) (atI_nat (j := 0) hv) ?_
        repeat walk_at "s"
        refine rd_ixT (sqT_mono (same_new n3) ht) rfl ?_
        repeat walk_at "s"
        rw [goalAt_succ r _ g i hb', gn_fst fun q => z (steps_nil.mpr q)]
        exact ⟨_, _, rfl, sf, same_new n3 _ _ hl2⟩
      · repeat walk_at "s"
        rw [goalAt_succ r _ g i hb', gn_eq (steps_nil.mp z)]
        exact ⟨_, _, rfl, sf, same_new n3 _ _ hl2⟩
    · rintro σ H' ⟨_, _, rfl, sH, hl⟩
      rw [hlen] at hl
      repeat walk_at "s"
      refine rd_rev1 (sqL_of hl) (fun p np => ?_)
      refine q p _ (sH.free np) (sH.trans (same_new np)) ?_
      rw [upd_same, ← List.map_reverse, List.take_of_length_le (by rw [goalsL_len]; omega)]
abbrev s_left_of : Stmt := topS 28
theorem sc_left_of : FnScope ["rule", "state", "peg", "table", "goals", "total", "disc", "start"] ["rule", "state", "peg", "table"] (defScope s_left_of) := ⟨rfl, rfl, rfl, by decide +kernel, rfl, by decide +kernel, by decide +kernel⟩

theorem ok_left_of (D : Df K mg "left_of" s_left_of ["rule", "state", "peg", "table"]) (B : Blt mg) (h_goals_of : Has P w K mg base CX0 3 "goals_of" ["rule", "state", "peg"] (sp_goals_of K)) (h_behind_first : Has P w K mg base CX0 3 "behind_first" ["rule", "start", "end", "ahead"] (sp_behind_first K)) :
    Has P w K mg base CX0 4 "left_of" ["rule", "state", "peg", "table"] (sp_left_of K) := by
  refine D.ok sc_left_of (fun vs H Q E h => ?_) (fun f cdv A outer s0 H vs Q E hr h => ?_)
  · obtain ⟨r, a, tb, s, g, m, rfl, _⟩ := h
    rfl
  · obtain ⟨r, a, tb, s, g, m, rfl, hs, hz, ht, hm, q⟩ := h
    refine ⟨_, pss_cons (ps_set (i := 4) sc_left_of.nd rfl (by first | exact Or.inl rfl | exact Or.inr rfl) (pe_h h_goals_of (hr.mono (by decide)) pass0 (pa_cons (pv 0) (pa_cons (pv 1) (pa_cons (pv 2) pa_nil)))))
      (pss_cons (ps_set (i := 5) sc_left_of.nd rfl (by first | exact Or.inl rfl | exact Or.inr rfl) pe_int)
      (pss_cons (ps_for PassesOwn.never rfl (pi_enum (by rfl) B.enumerate (pa_cons (pv 1) pa_nil)) (pg_tup rfl (pgs_cons (pg_name (i := 6) sc_left_of.nd rfl (by first | exact Or.inl rfl | exact Or.inr rfl)) (pgs_cons (pg_name (i := 7) sc_left_of.nd rfl (by first | exact Or.inl rfl | exact Or.inr rfl)) pgs_nil)))
        (pss_one (ps_aug (i := 5) sc_left_of.nd rfl (by first | exact Or.inl rfl | exact Or.inr rfl) (pe_h h_behind_first (hr.mono (by decide)) pass0 (pa_cons (pv 0) (pa_cons (pv 7) (pa_cons (pe_ix ix_list (pv 4) (pv 6) (fun _ _ => rfl)) (pa_cons (pe_ix ix_list (pv 3) (pv 6) (fun _ _ => rfl)) pa_nil))))) ip_add)))
      (pss_one (ps_ret (pv 5))))), ?_⟩
    dsimp only [cxOf_K]
    repeat walk_at "s"
    refine ⟨r, a, s, g, rfl, hs, hz, fun p H1 np s1 h1 => ?_⟩
    repeat walk_at "s"
    refine rd_e1 (s1.seq hs) ?_
    have hlen : (s.map V.int).length = s.length := List.length_map _
    have hrl : s.reverse.length = s.length := List.length_reverse
    refine for_e (fun i σ H' => ∃ (x y : Option V), σ = [some (.str r.s), some (.ref a), some (.int g), some (.ref tb), some (.ref p), some (.int (Lpart r s.reverse g i)), x, y] ∧ Same H1 H')
      ⟨none, none, (by rw [Lpart_zero] <;> rfl), Same.refl _⟩ (fun i σ H' _ ⟨_, _, _, e⟩ => (s1.trans e).seq hs) ?_ ?_
    · rintro i x σ H' H2 hx ⟨_, _, rfl, sH⟩ sH2
      have hi : i < s.length := by
        have := (List.getElem?_eq_some_iff.mp hx).1
        rw [hlen] at this
        exact this
      rw [List.getElem?_map, List.getElem?_eq_getElem hi] at hx
      cases hx
      have e1 : s.reverse[s.reverse.length - 1 - i]? = some s[i] := by
        rw [List.getElem?_reverse (by omega), ← List.getElem?_eq_getElem hi, hrl]
        congr 1
        omega
      have e2 : (goalsL r s.reverse g)[s.reverse.length - 1 - i]? = some (goalAt r s.reverse g (s.reverse.length - 1 - i)) := goalsL_get r _ g _ (by omega)
      have e3 : ((goalsL r s.reverse g).reverse.map V.int)[i]? = some (.int (goalAt r s.reverse g (s.reverse.length - 1 - i))) := by
        rw [List.getElem?_map, List.getElem?_reverse (by rw [goalsL_len]; omega), goalsL_len, e2]
        rfl
      obtain ⟨ws, hw, hp⟩ := id ht
      obtain ⟨v, hv, hpv⟩ := paired_get2 hp (i := i) (b := tw r i) (by rw [List.getElem?_map, List.getElem?_range (by omega)]; rfl)
      have sHH := (s1.trans sH).trans sH2
      repeat walk_at "s"
      refine rd_ixL (sqL_of ((sH.trans sH2) _ _ h1)) (atI_nat e3) ?_
      repeat walk_at "s"
      refine rd_ixL (sHH.seq hw) (atI_nat hv) ?_
      repeat walk_at "s"
      refine ⟨r, _, _, v, _, rfl, hpv.mono sHH, fun H3 s3 => ?_⟩
      repeat walk_at "s"
      rw [Lpart_succ r s.reverse g (by omega) e1 e2]
      exact ⟨_, _, rfl, (sH.trans sH2).trans s3⟩
    · rintro σ H' ⟨_, _, rfl, sH⟩
      rw [hlen, ← hrl, Lpart_all]
      repeat walk_at "s"
      exact q _ (s1.trans sH)
end
end Peg

namespace Peg
open PySem PyProof.Rows L2
local macro_rules | `(tactic| walk_at "s") => `(tactic| with_reducible first
  | refine rd_seq ?_ | refine rd_asgN ?_ | refine rd_asgT ?_ | refine rd_ret ?_ | refine rd_drop ?_ | refine rd_ifs ?_ | refine rd_next ?_ | refine rd_par ?_ | refine rd_par2 ?_ | refine rd_par3 ?_ | refine rd_par33 ?_
  | refine rd_c ?_ | refine rd_op ?_ | refine rd_un ?_ | refine rd_rU ?_ | refine rd_rI0 ?_ | refine rd_test ?_ | refine rd_tB ?_ | refine rd_bl ?_ | refine rd_and ?_ | refine rd_or ?_ | refine rd_not ?_
  | refine rd_andV ?_ | refine rd_orV ?_ | refine rd_notV ?_ | refine rd_ife ?_ | refine rd_nil ?_ | refine rd_cons ?_ | refine rd_call ?_ | refine rd_cb ?_ | refine rd_bm ?_ | refine rd_bm0 ?_ | refine rd_gN ?_ | refine rd_tup ?_ | refine rd_lst ?_ | refine rd_ipI ?_
  | refine rd_rev ?_ | refine rd_sl ?_ | refine rd_noP ?_ | refine rd_part ?_ | refine rd_int1 ?_ | refine rd_chain ?_ | refine rd_isiI ?_ | refine rd_isiB ?_ | refine rd_isiS ?_ | refine rd_lc ?_ | refine rd_gC ?_ | refine rd_gNil ?_ | refine rd_for ?_ | refine rd_while ?_ | refine rd_iR1 ?_ | refine rd_iR2 ?_ | refine rd_iL ?_ | refine rd_iT ?_ | refine rd_iE ?_ | refine rd_iV ?_ | refine rd_iRR ?_ | refine rd_tRg1 ?_ | refine rd_eqF ?_ | refine rd_eqL ?_ | refine rd_eqR ?_ | refine rd_neRound ?_ | refine rd_whole ?_ | refine rd_eqI ?_ | refine rd_neI ?_ | refine rd_neB ?_ | refine rd_min ?_ | refine rd_max ?_
  | (refine rd_var (v := ?v) ?e ?_; case e => with_unfolding_all exact rfl)
  | (refine rd_aug (x := ?x) ?e ?_; case e => with_unfolding_all exact rfl)
  | (refine rd_rEq ?c ?_; case c => with_unfolding_all exact rfl)
  | (refine rd_rNe ?c ?_; case c => with_unfolding_all exact rfl)
  | (refine rd_mulL ?c ?_; case c => with_unfolding_all decide)
  | (refine rd_mulR ?c ?_; case c => with_unfolding_all decide)
  | (refine rd_modP ?c ?_; case c => with_unfolding_all decide)
  | (refine rd_divP ?c ?_; case c => with_unfolding_all decide)
  | (refine rd_ifT ?c ?_; case c => with_unfolding_all decide)
  | (refine rd_ifF ?c ?_; case c => with_unfolding_all decide)
  | (refine rd_sz ?c ?_; case c => with_unfolding_all exact rfl)
  | refine rd_abs ?_ | refine rd_is_near ?_)

section
variable {P : Program} {w : World} {K : PySem.W.Frag} {mg : Str → Option Value} {base : Heap}
abbrev s_law_cell_at : Stmt := topS 45
theorem sc_law_cell_at : FnScope ["script", "k"] ["script", "k"] (defScope s_law_cell_at) := ⟨rfl, rfl, rfl, by decide +kernel, rfl, by decide +kernel, by decide +kernel⟩

theorem ok_cell (D : Df K mg "_law_cell_at" s_law_cell_at ["script", "k"]) (B : Blt mg) : Has P w K mg base CX0 1 "_law_cell_at" ["script", "k"] (sp_cell K) := by
  refine D.ok sc_law_cell_at (fun vs H Q E h => ?_) (fun f cdv A outer s0 H vs Q E hr h => ?_)
  · obtain ⟨a, ns, k, rfl, _⟩ := h
    rfl
  · obtain ⟨a, ns, k, rfl, hs, q⟩ := h
    refine ⟨_, pss_cons (ps_if (pt_cmpR op_lt (pv 1) (pe_callB ca_len (by rfl) B.len (by decide +kernel) (pa_cons (pv 0) pa_nil)) (nomark _)) (pss_one (ps_ret (pe_ix ix_list (pv 0) (pv 1) (fun _ _ => rfl)))) pss_nil)
      (pss_one (ps_ret pe_int)), ?_⟩
    try dsimp only [cxOf_K]
    repeat walk_at "s"
    refine rd_lenL hs ?_
    repeat walk_at "s"
    refine rd_ifP (fun e => ?_) (fun e => ?_)
    · rw [List.length_map] at e
      have hk : k < ns.length := by omega
      repeat walk_at "s"
      exact rd_ixL (v := .int ns[k]) hs (atI_nat (by rw [List.getElem?_map, List.getElem?_eq_getElem hk]; rfl)) (q _)
    · repeat walk_at "s"
      exact q 0
abbrev s_law_draw : Stmt := topS 46
theorem sc_law_draw : FnScope ["cell", "k", "many", "primes"] ["cell", "k", "many"] (defScope s_law_draw) := ⟨rfl, rfl, rfl, by decide +kernel, rfl, by decide +kernel, by decide +kernel⟩

theorem ok_draw (D : Df K mg "_law_draw" s_law_draw ["cell", "k", "many"]) : Has P w K mg base CX0 1 "_law_draw" ["cell", "k", "many"] sp_draw := by
  refine D.ok sc_law_draw (fun vs H Q E h => ?_) (fun f cdv A outer s0 H vs Q E hr h => ?_)
  · obtain ⟨c, k, m, rfl, _⟩ := h
    rfl
  · obtain ⟨c, k, m, rfl, hm, q⟩ := h
    refine ⟨_, pss_cons (ps_set (i := 3) sc_law_draw.nd rfl (by first | exact Or.inl rfl | exact Or.inr rfl) (pe_tup (pa_cons pe_int (pa_cons pe_int (pa_cons pe_int (pa_cons pe_int (pa_cons pe_int (pa_cons pe_int (pa_cons pe_int (pa_cons pe_int (pa_cons pe_int (pa_cons pe_int (pa_cons pe_int (pa_cons pe_int (pa_cons pe_int (pa_cons pe_int (pa_cons pe_int (pa_cons pe_int pa_nil))))))))))))))))))
      (pss_one (ps_ret (pe_op op_mod (pe_op op_mod (pe_op op_add (pe_op op_mul (pv 0) pe_int) (pe_op op_mul (pv 1) pe_int)) (pe_ix ix_tup (pv 3) (pe_op op_mod (pv 1) pe_int) (fun _ _ => rfl))) (pv 2)))), ?_⟩
    try dsimp only [cxOf_K]
    repeat walk_at "s"
    intro p np
    repeat walk_at "s"
    have h0 : 0 ≤ k % 16 := Int.emod_nonneg k (by decide)
    have h1 : k % 16 < 16 := Int.emod_lt_of_pos k (by decide)
    obtain ⟨j, hj⟩ : ∃ j : Nat, k % 16 = (j : Int) := ⟨(k % 16).toNat, by omega⟩
    have hp : ∀ j : Nat, j < 16 → ∃ z : Int, 0 < z ∧ ([1000003, 1000033, 1000037, 1000039, 1000081, 1000099, 1000117, 1000121, 1000133, 1000151, 1000159, 1000171, 1000183, 1000187, 1000193, 1000199] : List Int)[j]? = some z := by
      intro j hj
      refine ⟨([1000003, 1000033, 1000037, 1000039, 1000081, 1000099, 1000117, 1000121, 1000133, 1000151, 1000159, 1000171, 1000183, 1000187, 1000193, 1000199] : List Int)[j]'hj, ?_, List.getElem?_eq_getElem hj⟩
      exact (by decide : ∀ z ∈ ([1000003, 1000033, 1000037, 1000039, 1000081, 1000099, 1000117, 1000121, 1000133, 1000151, 1000159, 1000171, 1000183, 1000187, 1000193, 1000199] : List Int), 0 < z) _ (List.getElem_mem hj)
    obtain ⟨z, hz, ez⟩ := hp j (by omega)
    rw [hj]
    refine rd_ixT (v := .int z) (sqT_of upd_same) (atI_nat (j := j) ?_) ?_
    · show (([1000003, 1000033, 1000037, 1000039, 1000081, 1000099, 1000117, 1000121, 1000133, 1000151, 1000159, 1000171, 1000183, 1000187, 1000193, 1000199] : List Int).map V.int)[j]? = _
      rw [List.getElem?_map, ez]
      rfl
    refine rd_modP hz ?_
    repeat walk_at "s"
    refine rd_modP hm ?_
    exact q _ _ (Int.emod_nonneg _ (by omega)) (Int.emod_lt_of_pos _ hm) (same_new np)
abbrev s_law_whole : Stmt := topS 50
theorem sc_law_whole : FnScope ["number"] ["number"] (defScope s_law_whole) := ⟨rfl, rfl, rfl, by decide +kernel, rfl, by decide +kernel, by decide +kernel⟩

theorem ok_whole (D : Df K mg "_law_whole" s_law_whole ["number"]) (B : Blt mg) : Has P w K mg base CX0 1 "_law_whole" ["number"] sp_whole := by
  refine D.ok sc_law_whole (fun vs H Q E h => ?_) (fun f cdv A outer s H vs Q E hr h => ?_)
  · obtain ⟨i, rfl, _⟩ := h
    rfl
  · obtain ⟨i, rfl, q⟩ := h
    refine ⟨_, pss_one (ps_ret (pe_and (pe_callB call_isi (by rfl) B.isinstance (by decide +kernel) (pa_cons (pv 0) (pa_cons (pe_bltn (v := .ty "int") rfl B.int (by decide +kernel) rfl) pa_nil))) (pe_one (pe_not (pe_callB call_isi (by rfl) B.isinstance (by decide +kernel) (pa_cons (pv 0) (pa_cons (pe_bltn (v := .ty "bool") rfl B.bool (by decide +kernel) rfl) pa_nil))))))), ?_⟩
    dsimp only [cxOf_K]
    repeat walk_at "s"
    exact q
abbrev s_law_rule : Stmt := topS 48
theorem sc_law_rule : FnScope ["script", "k"] ["script", "k"] (defScope s_law_rule) := ⟨rfl, rfl, rfl, by decide +kernel, rfl, by decide +kernel, by decide +kernel⟩

theorem ok_rule (D : Df K mg "_law_rule" s_law_rule ["script", "k"]) (h_law_cell_at : Has P w K mg base CX0 1 "_law_cell_at" ["script", "k"] (sp_cell K)) (h_law_draw : Has P w K mg base CX0 1 "_law_draw" ["cell", "k", "many"] sp_draw) : Has P w K mg base CX0 2 "_law_rule" ["script", "k"] (sp_rule K) := by
  refine D.ok sc_law_rule (fun vs H Q E h => ?_) (fun f cdv A outer s H vs Q E hr h => ?_)
  · obtain ⟨a, ns, k, rfl, _⟩ := h
    rfl
  · obtain ⟨a, ns, k, rfl, hs, q⟩ := h
    refine ⟨_, pss_one (ps_ret (pe_ix ix_tup (pe_tup (pa_cons pe_str (pa_cons pe_str (pa_cons pe_str pa_nil)))) (pe_h h_law_draw (hr.mono (by decide)) pass0 (pa_cons (pe_h h_law_cell_at (hr.mono (by decide)) pass0 (pa_cons (pv 0) (pa_cons (pv 1) pa_nil))) (pa_cons (pe_op op_add (pv 1) pe_int) (pa_cons pe_int pa_nil)))) (fun _ _ => rfl))), ?_⟩
    dsimp only [cxOf_K]
    repeat walk_at "s"
    intro t nt
    repeat walk_at "s"
    refine rd_cell (by omega) ((same_new nt).seq hs) fun x => ?_
    repeat walk_at "s"
    refine rd_draw (by decide) fun d H1 d0 d3 s1 => ?_
    have s2 : Same H H1 := (same_new nt).trans s1
    have ht := s1 _ _ (upd_same (H := H) (a := t) (o := .tup [.str (Str.ofString "free"), .str (Str.ofString "line"), .str (Str.ofString "round")]))
    rcases P3.of d0 d3 with rfl | rfl | rfl
    · exact rd_ixT (sqT_of ht) rfl (q .free H1 s2)
    · exact rd_ixT (sqT_of ht) rfl (q .line H1 s2)
    · exact rd_ixT (sqT_of ht) rfl (q .round H1 s2)
abbrev s_law_state : Stmt := topS 47
theorem sc_law_state : FnScope ["script", "by", "kind", "found", "k", "peg"] ["script", "by"] (defScope s_law_state) := ⟨rfl, rfl, rfl, by decide +kernel, rfl, by decide +kernel, by decide +kernel⟩

theorem ok_state (D : Df K mg "_law_state" s_law_state ["script", "by"]) (B : Blt mg) (h_law_cell_at : Has P w K mg base CX0 1 "_law_cell_at" ["script", "k"] (sp_cell K)) (h_law_draw : Has P w K mg base CX0 1 "_law_draw" ["cell", "k", "many"] sp_draw) : Has P w K mg base CX0 2 "_law_state" ["script", "by"] (sp_state K) := by
  refine D.ok sc_law_state (fun vs H Q E h => ?_) (fun f cdv A outer s0 H vs Q E hr h => ?_)
  · obtain ⟨a, ns, b, rfl, _⟩ := h
    rfl
  · obtain ⟨a, ns, b, rfl, hs, hz, q⟩ := h
    refine ⟨_, pss_cons (ps_set (i := 2) sc_law_state.nd rfl (by first | exact Or.inl rfl | exact Or.inr rfl) (pe_h h_law_draw (hr.mono (by decide)) pass0 (pa_cons (pe_h h_law_cell_at (hr.mono (by decide)) pass0 (pa_cons (pv 0) (pa_cons pe_int pa_nil))) (pa_cons pe_int (pa_cons pe_int pa_nil)))))
      (pss_cons (ps_set (i := 3) sc_law_state.nd rfl (by first | exact Or.inl rfl | exact Or.inr rfl) (pe_lst pa_nil))
      (pss_cons (ps_for PassesOwn.never rfl (pi_range1 (by rfl) B.range (pa_cons (pe_callB ca_len (by rfl) B.len (by decide +kernel) (pa_cons (pv 0) pa_nil)) pa_nil)) (pg_name (i := 4) sc_law_state.nd rfl (by first | exact Or.inl rfl | exact Or.inr rfl))
        (pss_cons (ps_set (i := 5) sc_law_state.nd rfl (by first | exact Or.inl rfl | exact Or.inr rfl) (pe_h h_law_draw (hr.mono (by decide)) pass0 (pa_cons (pe_ix ix_list (pv 0) (pv 4) (fun _ _ => rfl)) (pa_cons (pe_op op_add (pe_op op_mod (pv 4) pe_int) (pv 1)) (pa_cons pe_int pa_nil)))))
        (Evl.pss_cut (ps_if (PW.pt (pw_and (pt_cmpR op_eq (pv 2) pe_int (nomark _)) (pw_and1 (pt_cmpR op_gt (pe_h h_law_draw (hr.mono (by decide)) pass0 (pa_cons (pe_ix ix_list (pv 0) (pv 4) (fun _ _ => rfl)) (pa_cons (pe_op op_add (pe_op op_mod (pv 4) pe_int) (pv 1)) (pa_cons pe_int pa_nil)))) pe_int (nomark _))))) (pss_one (ps_set (i := 5) sc_law_state.nd rfl (by first | exact Or.inl rfl | exact Or.inr rfl) pe_int)) pss_nil)
        (Evl.pss_cut (ps_if (PW.pt (pw_and (pt_cmpR op_eq (pv 2) pe_int (nomark _)) (pw_and1 (pt_cmpR op_gt (pv 4) (pe_op op_fdiv (pe_callB ca_len (by rfl) B.len (by decide +kernel) (pa_cons (pv 0) pa_nil)) pe_int) (nomark _))))) (pss_one (ps_set (i := 5) sc_law_state.nd rfl (by first | exact Or.inl rfl | exact Or.inr rfl) pe_int)) pss_nil)
        (Evl.pss_cut (ps_if (pt_cmpR op_eq (pv 2) pe_int (nomark _)) (pss_one (ps_set (i := 3) sc_law_state.nd rfl (by first | exact Or.inl rfl | exact Or.inr rfl) (pe_op op_cat (pv 3) (pe_op op_rep (pe_lst (pa_cons (pv 5) pa_nil)) (pe_h h_law_draw (hr.mono (by decide)) pass0 (pa_cons (pe_ix ix_list (pv 0) (pv 4) (fun _ _ => rfl)) (pa_cons (pe_op op_add (pe_op op_mod (pv 4) pe_int) pe_int) (pa_cons pe_int pa_nil)))))))) pss_nil)
        (pss_one (ps_expr (pe_bm PySem.F.plainAttrs_list PySem.F.slot_list_append PySem.F.type_list_append mt_append (pv 3) (pa_cons (pv 5) pa_nil)))))))))
      (pss_one (ps_ret (pv 3))))), ?_⟩
    dsimp only [cxOf_K]
    repeat walk_at "s"
    refine rd_cell (by decide) hs fun x => ?_
    repeat walk_at "s"
    refine rd_draw (by decide) fun kind H1 _ _ s1 => ?_
    repeat walk_at "s"
    intro l nl
    repeat walk_at "s"
    have s2 := s1.trans (same_new nl (o := .lst []))
    have hlen : (ns.map V.int).length = ns.length := List.length_map _
    refine rd_lenL (s2.seq hs) ?_
    rw [hlen]
    repeat walk_at "s"
    refine rd_r1 (n := ns.length) (by omega) ?_
    refine for_r (fun i σ H' => ∃ (x y : Option V) (l : Addr) (s : List Int), σ = [some (.ref a), some (.int b), some (.int kind), some (.ref l), x, y] ∧ Same H H' ∧ H l = none ∧ H' l = some (.lst (s.map V.int)) ∧ AllP s ∧ s.length ≤ 3 * i)
      ⟨none, none, l, [], rfl, s2, s1.free nl, upd_same, (fun p hp => nomatch hp), Nat.zero_le _⟩ ?_ ?_
    · rintro i σ H' hi ⟨_, _, l, s, rfl, sH, nl, hl, hp, hsz⟩
      have hx : ∀ H'', Same H H'' → SqL K H'' a (ns.map V.int) := fun H'' e => e.seq hs
      have hat : atI (ns.map V.int) (i : Int) = some (.int ns[i]) := atI_nat (by rw [List.getElem?_map, List.getElem?_eq_getElem hi]; rfl)
      repeat walk_at "s"
      refine rd_ixL (hx _ sH) hat ?_
      repeat walk_at "s"
      refine rd_draw (by decide) fun pg H2 p0 p3 e2 => ?_
      repeat walk_at "s"
      have e2' := sH.trans e2
      refine rd_cut (fun σ H3 => ∃ pg : Int, P3 pg ∧ σ = [some (.ref a), some (.int b), some (.int kind), some (.ref l), some (.int i), some (.int pg)] ∧ Same H H3 ∧ H3 l = some (.lst (s.map V.int))) ?_ ?_
      · repeat walk_at "s"
        refine rd_ifP (fun _ => ?_) (fun _ => ?_)
        · repeat walk_at "s"
          refine rd_ixL (hx _ e2') hat ?_
          repeat walk_at "s"
          refine rd_draw (by decide) fun d H3 _ _ e3 => ?_
          repeat walk_at "s"
          refine rd_ifP (fun _ => ?_) (fun _ => ?_)
          · repeat walk_at "s"
            exact ⟨1, .inr (.inl rfl), rfl, e2'.trans e3, e3 _ _ (e2 _ _ hl)⟩
          · repeat walk_at "s"
            exact ⟨pg, P3.of p0 p3, rfl, e2'.trans e3, e3 _ _ (e2 _ _ hl)⟩
        · repeat walk_at "s"
          exact ⟨pg, P3.of p0 p3, rfl, e2', e2 _ _ hl⟩
      · rintro σ3 H3 ⟨pg, hpg, rfl, e3, hl3⟩
        refine rd_cut (fun σ H4 => ∃ pg : Int, P3 pg ∧ σ = [some (.ref a), some (.int b), some (.int kind), some (.ref l), some (.int i), some (.int pg)] ∧ Same H H4 ∧ H4 l = some (.lst (s.map V.int))) ?_ ?_
        · repeat walk_at "s"
          refine rd_ifP (fun _ => ?_) (fun _ => ?_)
          · repeat walk_at "s"
            refine rd_lenL (hx _ e3) ?_
            repeat walk_at "s"
            refine rd_ifP (fun _ => ?_) (fun _ => ?_)
            · repeat walk_at "s"
              exact ⟨2, .inr (.inr rfl), rfl, e3, hl3⟩
            · repeat walk_at "s"
              exact ⟨pg, hpg, rfl, e3, hl3⟩
          · repeat walk_at "s"
            exact ⟨pg, hpg, rfl, e3, hl3⟩
        · rintro σ4 H4 ⟨pg, hpg, rfl, e4, hl4⟩
          refine rd_cut (fun σ H5 => ∃ (l : Addr) (s : List Int), σ = [some (.ref a), some (.int b), some (.int kind), some (.ref l), some (.int i), some (.int pg)] ∧ Same H H5 ∧ H l = none ∧ H5 l = some (.lst (s.map V.int)) ∧ AllP s ∧ s.length ≤ 3 * i + 2) ?_ ?_
          · repeat walk_at "s"
            refine rd_ifP (fun _ => ?_) (fun _ => ?_)
            · repeat walk_at "s"
              intro u nu
              repeat walk_at "s"
              have e5 := e4.trans (same_new nu (o := .lst [.int pg]))
              refine rd_ixL (hx _ e5) hat ?_
              repeat walk_at "s"
              refine rd_draw (by decide) fun d H6 d0 d3 e6 => ?_
              obtain ⟨dn, rfl⟩ : ∃ n : Nat, d = (n : Int) := ⟨d.toNat, by omega⟩
              refine rd_rep1 (e6 _ _ upd_same) (by omega) fun v nv => ?_
              have e7 := (e5.trans e6).trans (same_new nv (o := .lst (List.replicate dn (.int pg))))
              refine rd_cat (xs := s.map V.int) (ys := List.replicate dn (.int pg)) ((same_new nv) _ _ (e6 _ _ ((same_new nu) _ _ hl4))) upd_same (by rw [List.length_map, List.length_replicate]; omega) fun x nx => ?_
              repeat walk_at "s"
              refine ⟨x, s ++ List.replicate dn pg, rfl, e7.trans (same_new nx), e7.free nx, ?_, ?_, ?_⟩
              · rw [upd_same, List.map_append, List.map_replicate]
              · intro p hp'
                rcases List.mem_append.mp hp' with h | h
                · exact hp p h
                · exact List.eq_of_mem_replicate h ▸ hpg
              · rw [List.length_append, List.length_replicate]
                omega
            · repeat walk_at "s"
              exact ⟨l, s, rfl, e4, nl, hl4, hp, by omega⟩
          · rintro σ5 H5 ⟨l5, s5, rfl, e5, nl5, hl5, hp5, hz5⟩
            repeat walk_at "s"
            refine ⟨tyV_l (sqL_of hl5), ?_⟩
            repeat walk_at "s"
            refine rd_app hl5 (sz_lt (by rw [List.length_map]; omega)) ?_
            refine ⟨_, _, l5, s5 ++ [pg], rfl, same_mut e5 nl5, nl5, ?_, ?_, ?_⟩
            · rw [upd_same, List.map_append]
              rfl
            · intro p hp'
              rcases List.mem_append.mp hp' with h | h
              · exact hp5 p h
              · exact List.mem_singleton.mp h ▸ hpg
            · rw [List.length_append]
              show s5.length + 1 ≤ 3 * (i + 1)
              omega
    · rintro σ H' ⟨_, _, l, s, rfl, sH, nl, hl, hp, hsz⟩
      repeat walk_at "s"
      exact q s l H' hp (by omega) nl sH hl
end
end Peg

namespace Peg
open PySem PyProof.Rows L2
local macro_rules | `(tactic| walk_at "s") => `(tactic| with_reducible first
  | refine rd_seq ?_ | refine rd_asgN ?_ | refine rd_asgT ?_ | refine rd_ret ?_ | refine rd_drop ?_ | refine rd_ifs ?_ | refine rd_next ?_ | refine rd_par ?_ | refine rd_par2 ?_ | refine rd_par3 ?_ | refine rd_par33 ?_
  | refine rd_c ?_ | refine rd_op ?_ | refine rd_un ?_ | refine rd_rU ?_ | refine rd_rI0 ?_ | refine rd_test ?_ | refine rd_tB ?_ | refine rd_bl ?_ | refine rd_and ?_ | refine rd_or ?_ | refine rd_not ?_
  | refine rd_andV ?_ | refine rd_orV ?_ | refine rd_notV ?_ | refine rd_ife ?_ | refine rd_nil ?_ | refine rd_cons ?_ | refine rd_call ?_ | refine rd_cb ?_ | refine rd_bm ?_ | refine rd_bm0 ?_ | refine rd_gN ?_ | refine rd_tup ?_ | refine rd_lst ?_ | refine rd_ipI ?_
  | refine rd_rev ?_ | refine rd_sl ?_ | refine rd_noP ?_ | refine rd_part ?_ | refine rd_int1 ?_ | refine rd_chain ?_ | refine rd_isiI ?_ | refine rd_isiB ?_ | refine rd_isiS ?_ | refine rd_lc ?_ | refine rd_gC ?_ | refine rd_gNil ?_ | refine rd_for ?_ | refine rd_while ?_ | refine rd_iR1 ?_ | refine rd_iR2 ?_ | refine rd_iL ?_ | refine rd_iT ?_ | refine rd_iE ?_ | refine rd_iV ?_ | refine rd_iRR ?_ | refine rd_tRg1 ?_ | refine rd_eqF ?_ | refine rd_eqL ?_ | refine rd_eqR ?_ | refine rd_neRound ?_ | refine rd_whole ?_ | refine rd_eqI ?_ | refine rd_neI ?_ | refine rd_neB ?_ | refine rd_min ?_ | refine rd_max ?_
  | (refine rd_var (v := ?v) ?e ?_; case e => with_unfolding_all exact rfl)
  | (refine rd_aug (x := ?x) ?e ?_; case e => with_unfolding_all exact rfl)
  | (refine rd_rEq ?c ?_; case c => with_unfolding_all exact rfl)
  | (refine rd_rNe ?c ?_; case c => with_unfolding_all exact rfl)
  | (refine rd_mulL ?c ?_; case c => with_unfolding_all decide)
  | (refine rd_mulR ?c ?_; case c => with_unfolding_all decide)
  | (refine rd_modP ?c ?_; case c => with_unfolding_all decide)
  | (refine rd_divP ?c ?_; case c => with_unfolding_all decide)
  | (refine rd_ifT ?c ?_; case c => with_unfolding_all decide)
  | (refine rd_ifF ?c ?_; case c => with_unfolding_all decide)
  | (refine rd_sz ?c ?_; case c => with_unfolding_all exact rfl)
  | refine rd_abs ?_ | refine rd_is_near ?_)

section
variable {P : Program} {w : World} {K : PySem.W.Frag} {mg : Str → Option Value} {base : Heap}
abbrev s_is_allowed : Stmt := topS 21
theorem sc_is_allowed : FnScope ["rule", "start", "end"] ["rule", "start", "end"] (defScope s_is_allowed) := ⟨rfl, rfl, rfl, by decide +kernel, rfl, by decide +kernel, by decide +kernel⟩

theorem ok_is_allowed (D : Df K mg "is_allowed" s_is_allowed ["rule", "start", "end"]) (B : Blt mg) : Has P w K mg base CX0 1 "is_allowed" ["rule", "start", "end"] sp_is_allowed := by
  refine D.ok sc_is_allowed (fun vs H Q E h => ?_) (fun f cdv A outer s0 H vs Q E hr h => ?_)
  · obtain ⟨r, a, b, rfl, _⟩ := h
    rfl
  · obtain ⟨r, a, b, rfl, q⟩ := h
    refine ⟨_, pss_cons (ps_if (pt_cmpR op_eq (pv 0) pe_str (nomark _)) (pss_one (ps_ret (pe_cmpR op_eq (pe_callB ca_abs (by rfl) B.abs (by decide +kernel) (pa_cons (pe_op op_sub (pv 1) (pv 2)) pa_nil)) pe_int (nomark _)))) pss_nil)
      (pss_cons (ps_if (pt_cmpR op_eq (pv 0) pe_str (nomark _)) (pss_one (ps_ret (pe_cmpR op_eq (pv 2) (pe_op op_mod (pe_op op_add (pv 1) pe_int) pe_int) (nomark _)))) pss_nil)
      (pss_one (ps_ret (pe_cmpR op_ne (pv 1) (pv 2) (nomark _))))), ?_⟩
    try dsimp only [cxOf_K]
    cases r <;> repeat walk_at "s"
    all_goals exact q
abbrev s_moves_of : Stmt := topS 22
theorem sc_moves_of : FnScope ["rule", "state", "found", "covered", "disc", "peg", "end"] ["rule", "state"] (defScope s_moves_of) := ⟨rfl, rfl, rfl, by decide +kernel, rfl, by decide +kernel, by decide +kernel⟩

theorem ok_moves_of (D : Df K mg "moves_of" s_moves_of ["rule", "state"]) (B : Blt mg) (h_is_allowed : Has P w K mg base CX0 1 "is_allowed" ["rule", "start", "end"] sp_is_allowed) : Has P w K mg base CX0 2 "moves_of" ["rule", "state"] (sp_moves_of K) := by
  refine D.ok sc_moves_of (fun vs H Q E h => ?_) (fun f cdv A outer s0 H vs Q E hr h => ?_)
  · obtain ⟨r, a, s, rfl, _⟩ := h
    rfl
  · obtain ⟨r, a, s, rfl, hs, hz, hp, q⟩ := h
    refine ⟨_, pss_cons (ps_set (i := 2) sc_moves_of.nd rfl (by first | exact Or.inl rfl | exact Or.inr rfl) (pe_lst pa_nil))
      (pss_cons (ps_set (i := 3) sc_moves_of.nd rfl (by first | exact Or.inl rfl | exact Or.inr rfl) (pe_lst pa_nil))
      (pss_cons (ps_for PassesOwn.never rfl (pi_enum (by rfl) B.enumerate (pa_cons (pv 1) pa_nil)) (pg_tup rfl (pgs_cons (pg_name (i := 4) sc_moves_of.nd rfl (by first | exact Or.inl rfl | exact Or.inr rfl)) (pgs_cons (pg_name (i := 5) sc_moves_of.nd rfl (by first | exact Or.inl rfl | exact Or.inr rfl)) pgs_nil)))
        (pss_one (ps_if (pt_cmpR op_notIn_seq (pv 5) (pv 3) rfl) (pss_cons (ps_for PassesOwn.never rfl (pi_range1 (by rfl) B.range (pa_cons pe_int pa_nil)) (pg_name (i := 6) sc_moves_of.nd rfl (by first | exact Or.inl rfl | exact Or.inr rfl))
            (pss_one (ps_if (PW.pt (pw_and (pt_cmpR op_notIn_seq (pv 6) (pv 3) rfl) (pw_and1 (pt_val (pe_h h_is_allowed (hr.mono (by decide)) pass0 (pa_cons (pv 0) (pa_cons (pv 5) (pa_cons (pv 6) pa_nil)))))))) (pss_one (ps_expr (pe_bm PySem.F.plainAttrs_list PySem.F.slot_list_append PySem.F.type_list_append mt_append (pv 2) (pa_cons (pe_tup (pa_cons (pv 4) (pa_cons (pv 6) pa_nil))) pa_nil)))) pss_nil)))
          (pss_one (ps_expr (pe_bm PySem.F.plainAttrs_list PySem.F.slot_list_append PySem.F.type_list_append mt_append (pv 3) (pa_cons (pv 5) pa_nil))))) pss_nil)))
      (pss_one (ps_ret (pv 2))))), ?_⟩
    try dsimp only [cxOf_K]
    repeat walk_at "s"
    intro l nl
    repeat walk_at "s"
    intro c nc
    repeat walk_at "s"
    have s1 := same_new (o := .lst []) nl
    have s2 := s1.trans (same_new (o := .lst []) nc)
    have nc0 : H c = none := s1.free nc
    have hlc : l ≠ c := ne_of_none upd_same nc
    have hlen : (s.map V.int).length = s.length := List.length_map _
    refine rd_e1 (s2.seq hs) ?_
    refine for_e (fun i σ H' => ∃ (x4 x5 x6 : Option V) (vs : List V), σ = [some (.str r.s), some (.ref a), some (.ref l), some (.ref c), x4, x5, x6] ∧ Same H H' ∧ H' l = some (.lst vs) ∧ Laid H' vs (((List.range i).flatMap (at_ r s)).map mI) ∧ H' c = some (.lst ((cov (s.take i)).map V.int)))
      ⟨none, none, none, [], rfl, s2, (by rw [upd_ne hlc, upd_same]), .nil, (by rw [upd_same] <;> rfl)⟩ (fun i σ H' _ ⟨_, _, _, _, _, e, _⟩ => e.seq hs) ?_ ?_
    · rintro i x σ H' H2 hx ⟨_, _, _, vs, rfl, sH, hl, hg, hc⟩ sH2
      have hi : i < s.length := by
        have := (List.getElem?_eq_some_iff.mp hx).1
        rw [hlen] at this
        exact this
      rw [List.getElem?_map, List.getElem?_eq_getElem hi] at hx
      cases hx
      have gi : s[i]? = some s[i] := List.getElem?_eq_getElem hi
      have tk : s.take (i + 1) = s.take i ++ [s[i]] := by rw [List.take_add_one, gi] <;> rfl
      generalize s[i] = b at *
      have hb3 : P3 b := hp b (List.mem_of_getElem? gi)
      have hg2 := hg.mono sH2
      have hl2 := sH2 _ _ hl
      have hc2 := sH2 _ _ hc
      have e2 := sH.trans sH2
      have fm : (List.range (i + 1)).flatMap (at_ r s) = (List.range i).flatMap (at_ r s) ++ at_ r s i := by
        rw [List.range_succ, List.flatMap_append, List.flatMap_singleton]
      have hav : at_ r s i = if b ∈ s.take i then [] else ([0, 1, 2].filter (okB r s i b)).map fun e => ((i, e), s.set i e) := by
        unfold at_
        rw [gi]
      repeat walk_at "s"
      refine rd_niI (sqL_of hc2) ?_
      repeat walk_at "s"
      refine rd_ifN (fun z => ?_) (fun z => ?_)
      · have z' : b ∉ s.take i := fun w => z ((cov_mem _ _).mpr w)
        rw [if_neg z'] at hav
        repeat walk_at "s"
        refine rd_r1i (by decide) ?_
        show ForW (Itr 0 3) _ _ _ _ _
        refine for_r (fun k σ H' => ∃ (x6 : Option V) (vs : List V), σ = [some (.str r.s), some (.ref a), some (.ref l), some (.ref c), some (.int i), some (.int b), x6] ∧ Same H H' ∧ H' l = some (.lst vs) ∧
            Laid H' vs (((List.range i).flatMap (at_ r s) ++ ((([0, 1, 2] : List Int).take k).filter (okB r s i b)).map fun e => ((i, e), s.set i e)).map mI) ∧ H' c = some (.lst ((cov (s.take i)).map V.int)))
          ⟨_, vs, rfl, e2, hl2, (by rw [List.take_zero, List.filter_nil, List.map_nil, List.append_nil]; exact hg2), hc2⟩ ?_ ?_
        · rintro k σ H3 hk ⟨_, vs, rfl, e3, hl3, hg3, hc3⟩
          have hk3 : ([0, 1, 2] : List Int)[k]? = some (k : Int) := by
            have : k = 0 ∨ k = 1 ∨ k = 2 := by omega
            rcases this with rfl | rfl | rfl <;> rfl
          have hkt : (([0, 1, 2] : List Int).take (k + 1)) = ([0, 1, 2] : List Int).take k ++ [(k : Int)] := by rw [List.take_add_one, hk3] <;> rfl
          have skip : okB r s i b k = false → Laid H3 vs (((List.range i).flatMap (at_ r s) ++ ((([0, 1, 2] : List Int).take (k + 1)).filter (okB r s i b)).map fun e => ((i, e), s.set i e)).map mI) := fun y => by
            rw [hkt, List.filter_append, show ([(k : Int)] : List Int).filter (okB r s i b) = [] by rw [List.filter_cons, if_neg (by rw [y]; decide)] <;> rfl, List.append_nil]
            exact hg3
          have ok := okB_eq (r := r) (s := s) (i := i) (e := (k : Int)) hb3
          have dm : decide ((k : Int) ∈ cov (s.take i)) = decide ((k : Int) ∈ s.take i) := decide_eq_decide.mpr (cov_mem _ _)
          repeat walk_at "s"
          refine rd_niI (sqL_of hc3) ?_
          rw [dm]
          repeat walk_at "s"
          refine rd_ifN (fun w => ?_) (fun w => ?_)
          · rw [decide_eq_false w] at ok
            repeat walk_at "s"
            refine rd_is_allowed ?_
            repeat walk_at "s"
            refine rd_if2 (fun y => ?_) (fun y => ?_)
            · rw [y] at ok
              repeat walk_at "s"
              refine ⟨tyV_l (sqL_of hl3), ?_⟩
              repeat walk_at "s"
              intro t nt
              have f7 := same_new (o := .tup [.int (i : Int), .int (k : Int)]) nt
              have hl7 := f7 _ _ hl3
              have hc7 := f7 _ _ hc3
              repeat walk_at "s"
              refine rd_app hl7 (sz_lt ?_) ?_
              · rw [hg3.len, List.length_map, List.length_append, List.length_map]
                have h1 : ((([0, 1, 2] : List Int).take k).filter (okB r s i b)).length ≤ 3 := Nat.le_trans (List.length_filter_le _ _) (by rw [List.length_take]; show min k 3 ≤ 3; omega)
                have h2 := flat_len r s i
                omega
              refine ⟨_, _, rfl, same_mut (e3.trans f7) nl, upd_same, ?_, ?_⟩
              · have y' : ([(k : Int)] : List Int).filter (okB r s i b) = [(k : Int)] := by rw [List.filter_cons, if_pos (show okB r s i b (k : Int) = true from ok)] <;> rfl
                rw [hkt, List.filter_append, y', List.map_append, List.map_append, List.map_append, ← List.append_assoc]
                have hg3 := hg3
                rw [List.map_append] at hg3
                exact hg3.app hl3 nt
              · rw [upd_ne hlc.symm]
                exact hc7
            · rw [y] at ok
              repeat walk_at "s"
              exact ⟨_, _, rfl, e3, hl3, skip ok, hc3⟩
          · rw [decide_eq_true w] at ok
            repeat walk_at "s"
            exact ⟨_, _, rfl, e3, hl3, skip ok, hc3⟩
        · rintro σ H3 ⟨_, vs, rfl, e3, hl3, hg3, hc3⟩
          repeat walk_at "s"
          refine ⟨tyV_l (sqL_of hc3), ?_⟩
          repeat walk_at "s"
          refine rd_app hc3 (sz_lt ?_) ?_
          · rw [List.length_map]
            have := cov_len (s.take i)
            rw [List.length_take] at this
            omega
          refine ⟨_, _, _, _, rfl, same_mut e3 nc0, (by rw [upd_ne hlc]; exact hl3), ?_, ?_⟩
          · rw [fm, hav]
            exact hg3.upd hc3
          · rw [upd_same, tk, cov_snoc, if_neg fun w => z w, List.map_append]
            rfl
      · have z' : b ∈ s.take i := (cov_mem _ _).mp z
        rw [if_pos z'] at hav
        repeat walk_at "s"
        refine ⟨_, _, _, _, rfl, e2, hl2, ?_, ?_⟩
        · rw [fm, hav, List.append_nil]
          exact hg2
        · rw [tk, cov_snoc, if_pos z]
          exact hc2
    · rintro σ H' ⟨_, _, _, vs, rfl, sH, hl, hg, hc⟩
      rw [hlen] at hg
      repeat walk_at "s"
      exact q l vs H' nl sH hl hg
abbrev s_is_whole : Stmt := topS 16
theorem sc_is_whole : FnScope ["thing"] ["thing"] (defScope s_is_whole) := ⟨rfl, rfl, rfl, by decide +kernel, rfl, by decide +kernel, by decide +kernel⟩

theorem ok_is_whole (D : Df K mg "is_whole" s_is_whole ["thing"]) (B : Blt mg) : Has P w K mg base CX0 1 "is_whole" ["thing"] (sp_wholeG K) := by
  refine D.ok sc_is_whole (fun vs H Q E h => ?_) (fun f cdv A outer s0 H vs Q E hr h => ?_)
  · obtain ⟨v, o, rfl, _⟩ := h
    rfl
  · obtain ⟨v, o, rfl, hv, q⟩ := h
    refine ⟨_, pss_one (ps_ret (pe_and (pe_callB call_isi (by rfl) B.isinstance (by decide +kernel) (pa_cons (pv 0) (pa_cons (pe_bltn (v := .ty "int") rfl B.int (by decide +kernel) rfl) pa_nil))) (pe_one (pe_not (pe_callB call_isi (by rfl) B.isinstance (by decide +kernel) (pa_cons (pv 0) (pa_cons (pe_bltn (v := .ty "bool") rfl B.bool (by decide +kernel) rfl) pa_nil))))))), ?_⟩
    try dsimp only [cxOf_K]
    cases hv with
    | int i =>
      repeat walk_at "s"
      exact q
    | bl b =>
      repeat walk_at "s"
      refine rd_isiBI ?_
      repeat walk_at "s"
      refine rd_isiBB ?_
      repeat walk_at "s"
      exact q
    | no h =>
      repeat walk_at "s"
      refine h.isi ?_
      repeat walk_at "s"
      exact q
abbrev s_is_peg : Stmt := topS 17
theorem sc_is_peg : FnScope ["thing"] ["thing"] (defScope s_is_peg) := ⟨rfl, rfl, rfl, by decide +kernel, rfl, by decide +kernel, by decide +kernel⟩

theorem ok_is_peg (D : Df K mg "is_peg" s_is_peg ["thing"]) (h_is_whole : Has P w K mg base CX0 1 "is_whole" ["thing"] (sp_wholeG K)) : Has P w K mg base CX0 2 "is_peg" ["thing"] (sp_pegG K) := by
  refine D.ok sc_is_peg (fun vs H Q E h => ?_) (fun f cdv A outer s0 H vs Q E hr h => ?_)
  · obtain ⟨v, o, rfl, _⟩ := h
    rfl
  · obtain ⟨v, o, rfl, hv, q⟩ := h
    refine ⟨_, pss_one (ps_ret (pe_and (pe_h h_is_whole (hr.mono (by decide)) pass0 (pa_cons (pv 0) pa_nil)) (pe_one (pe_chain op_le op_le pe_int (pv 0) pe_int)))), ?_⟩
    try dsimp only [cxOf_K]
    repeat walk_at "s"
    refine ⟨v, o, rfl, hv, ?_⟩
    cases o with
    | none =>
      repeat walk_at "s"
      exact q
    | some i =>
      cases hv with
      | int i =>
        have q : Q (.bl (decide (0 ≤ i) && decide (i ≤ 2))) H := q
        repeat walk_at "s"
        refine rd_ifT rfl ?_
        repeat walk_at "s"
        refine rd_if2 (fun e => ?_) (fun e => ?_)
        · repeat walk_at "s"
          rw [e] at q
          exact q
        · rw [e] at q
          exact q
abbrev s_check_rule : Stmt := topS 18
theorem sc_check_rule : FnScope ["rule"] ["rule"] (defScope s_check_rule) := ⟨rfl, rfl, rfl, by decide +kernel, rfl, by decide +kernel, by decide +kernel⟩

theorem ok_check_rule (D : Df K mg "check_rule" s_check_rule ["rule"]) (B : Blt mg) {ad : Ec → Addr} {cT cX : Addr} (BadRule_ : Exc K mg "BadRule" (ad .R)) {aR : Addr} (TR : mg "RULES" = some (.ref aR)) (hR : ∀ H, SqL K H aR [.str "free", .str "line", .str "round"]) : Has P w K mg base (L2N.CX P w) 1 "check_rule" ["rule"] (sp_ckR K (ad .R)) := by
  refine D.okX sc_check_rule (fun vs H Q E h => ?_) (fun f cdv A outer s0 H vs Q E hr h => ?_)
  · obtain ⟨v, rfl, _⟩ := h
    rfl
  · obtain ⟨v, rfl, h⟩ := h
    refine ⟨_, pss_one (ps_if (PW.pt (pw_or (pt_not (pt_val (pe_callB call_isi (by rfl) B.isinstance (by decide +kernel) (pa_cons (pv 0) (pa_cons (pe_bltn (v := .ty "str") rfl B.str (by decide +kernel) rfl) pa_nil))))) (pw_or1 (pt_cmpR op_notIn_seq (pv 0) (pe_glob (v := .ref aR) rfl TR rfl) rfl)))) (pss_one (ps_raiseC rfl (L2N.takes_of rfl rfl rfl rfl) BadRule_ rfl)) pss_nil), ?_⟩
    try dsimp only [cxOf_KX]
    rcases h with ⟨h, e⟩ | ⟨r, rfl, q⟩
    · cases h with
      | ty h =>
        repeat walk_at "s"
        refine h.isi ?_
        repeat walk_at "s"
        exact e _ (Same.refl _)
      | tx h =>
        repeat walk_at "s"
        refine rd_in (hR _) rfl (by decide +kernel) ?_
        rw [h]
        repeat walk_at "s"
        exact e _ (Same.refl _)
    · repeat walk_at "s"
      refine rd_in (hR _) rfl (by decide +kernel) ?_
      rw [inV_rules]
      repeat walk_at "s"
      exact q
abbrev s_check_peg : Stmt := topS 20
theorem sc_check_peg : FnScope ["peg"] ["peg"] (defScope s_check_peg) := ⟨rfl, rfl, rfl, by decide +kernel, rfl, by decide +kernel, by decide +kernel⟩

theorem ok_check_peg (D : Df K mg "check_peg" s_check_peg ["peg"]) {ad : Ec → Addr} (BadPeg_ : Exc K mg "BadPeg" (ad .P)) (h_is_peg : Has P w K mg base CX0 2 "is_peg" ["thing"] (sp_pegG K)) : Has P w K mg base (L2N.CX P w) 3 "check_peg" ["peg"] (sp_ckP K (ad .P)) := by
  refine D.okX sc_check_peg (fun vs H Q E h => ?_) (fun f cdv A outer s0 H vs Q E hr h => ?_)
  · obtain ⟨v, rfl, _⟩ := h
    rfl
  · obtain ⟨v, rfl, h⟩ := h
    refine ⟨_, pss_one (ps_if (pt_not (pt_val (pe_h h_is_peg (hr.mono (by decide)) pass0 (pa_cons (pv 0) pa_nil)))) (pss_one (ps_raiseC rfl (L2N.takes_of rfl rfl rfl rfl) BadPeg_ rfl)) pss_nil), ?_⟩
    try dsimp only [cxOf_KX]
    rcases h with ⟨⟨o, ho, hb⟩, e⟩ | ⟨g, rfl, hg, q⟩
    · repeat walk_at "s"
      refine ⟨v, o, rfl, ho, ?_⟩
      rw [hb]
      repeat walk_at "s"
      exact e _ (Same.refl _)
    · repeat walk_at "s"
      refine ⟨_, _, rfl, .int g, ?_⟩
      rw [show pegO (some g) = true from hg.test]
      repeat walk_at "s"
      exact q
abbrev s_check_state : Stmt := topS 19
theorem sc_check_state : FnScope ["state", "peg"] ["state"] (defScope s_check_state) := ⟨rfl, rfl, rfl, by decide +kernel, rfl, by decide +kernel, by decide +kernel⟩

theorem ok_check_state (D : Df K mg "check_state" s_check_state ["state"]) (B : Blt mg) {ad : Ec → Addr} (BadState_ : Exc K mg "BadState" (ad .S)) (h_is_peg : Has P w K mg base CX0 2 "is_peg" ["thing"] (sp_pegG K)) : Has P w K mg base (L2N.CX P w) 3 "check_state" ["state"] (sp_ckS K (ad .S)) := by
  refine D.okX sc_check_state (fun vs H Q E h => ?_) (fun f cdv A outer s0 H vs Q E hr h => ?_)
  · obtain ⟨v, rfl, _⟩ := h
    rfl
  · obtain ⟨v, rfl, h⟩ := h
    refine ⟨_, pss_one (ps_if (PW.pt (pw_or (pt_not (pt_val (pe_callB call_isi (by rfl) B.isinstance (by decide +kernel) (pa_cons (pv 0) (pa_cons (pe_bltn (v := .ty "list") rfl B.list (by decide +kernel) rfl) pa_nil))))) (pw_or1 (pt_not (pt_val (pe_callB (cr_all rfl) (by rfl) B.all (by decide +kernel) (pa_cons (pe_lc (own := [("peg", 1)]) rfl sc_check_state.nd (pi_list (pv 0)) (blkOk_by (N := ["state", "peg"]) (sc := defScope s_check_state) (by decide +kernel)) (fun _ _ _ _ _ => (pg_name (i := 1) sc_check_state.nd rfl (by first | exact Or.inl rfl | exact Or.inr rfl))) (fun _ _ _ _ _ => pts_nil) (fun _ _ _ _ _ => (pe_h h_is_peg (hr.mono (by decide)) pass0 (pa_cons (pv 1) pa_nil)))) pa_nil))))))) (pss_one (ps_raiseC rfl (L2N.takes_of rfl rfl rfl rfl) BadState_ rfl)) pss_nil), ?_⟩
    try dsimp only [cxOf_KX]
    have hh : (No K H v "list" ∧ ∀ H', Same H H' → E (.ref (ad .S)) none H') ∨ ∃ (p : Addr) (xs : List V) (os : List (Option Int)), v = .ref p ∧ SqL K H p xs ∧ xs.length ≤ 1000 ∧ Paired (fun v o => Wh K H v o) xs os ∧ ((os.all pegO = true ∧ ∀ H', Same H H' → Q .non H') ∨ (os.all pegO = false ∧ ∀ H', Same H H' → E (.ref (ad .S)) none H')) := by
      rcases h with ⟨h, e⟩ | ⟨p, s, rfl, hs, hz, hp, q⟩
      · cases h with
        | ty h => exact .inl ⟨h, e⟩
        | it h z w b => exact .inr ⟨_, _, _, rfl, h, z, w, .inr ⟨b, e⟩⟩
      · refine .inr ⟨p, _, s.map some, rfl, hs, by rw [List.length_map]; omega, ?_, .inl ⟨?_, q⟩⟩
        · have : ∀ s : List Int, Paired (fun v o => Wh K H v o) (s.map V.int) (s.map some) := fun s => by
            induction s with
            | nil => exact .nil
            | cons x t ih => exact .cons (.int x) ih
          exact this s
        · refine List.all_eq_true.mpr fun o ho => ?_
          obtain ⟨i, hi, rfl⟩ := List.mem_map.mp ho
          exact (hp i hi).test
    rcases hh with ⟨h, e⟩ | ⟨p, xs, os, rfl, hs, hz, hw, h⟩
    · repeat walk_at "s"
      refine h.isi ?_
      repeat walk_at "s"
      exact e _ (Same.refl _)
    · repeat walk_at "s"
      refine rd_isiL hs ?_
      repeat walk_at "s"
      refine rd_l1 hs ?_
      intro l nl
      refine lc_l (xs := xs) (fun i H' => Same H H' ∧ H' l = some (.lst (((os.take i).map pegO).map V.bl))) ⟨same_new nl, upd_same⟩ (fun i H' _ h => h.1.seq hs) ?_ ?_
      · rintro i x H' hx ⟨sH, hl⟩
        obtain ⟨o, ho, hxo⟩ := paired_get1 hw hx
        refine ⟨rfl, ?_⟩
        repeat walk_at "s"
        refine ⟨x, o, rfl, hxo.up sH, _, hl, sz_lt (by have := hw.length; rw [List.length_map, List.length_map, List.length_take]; omega), same_mut sH nl, ?_⟩
        rw [upd_same, List.take_add_one, ho, List.map_append, List.map_append]
        rfl
      rintro H2 ⟨s2, hl⟩
      rw [hw.length, List.take_length] at hl
      repeat walk_at "s"
      refine rd_all (sqL_of hl) ?_
      have ea : (os.map pegO).all id = os.all pegO := by
        rw [List.all_map]
        rfl
      rw [ea]
      rcases h with ⟨b, q⟩ | ⟨b, e⟩
      · rw [b]
        repeat walk_at "s"
        exact q _ s2
      · rw [b]
        repeat walk_at "s"
        exact e _ s2
abbrev s_is_move : Stmt := topS 24
theorem sc_is_move : FnScope ["thing"] ["thing"] (defScope s_is_move) := ⟨rfl, rfl, rfl, by decide +kernel, rfl, by decide +kernel, by decide +kernel⟩

theorem ok_is_move (D : Df K mg "is_move" s_is_move ["thing"]) (B : Blt mg) (h_is_whole : Has P w K mg base CX0 1 "is_whole" ["thing"] (sp_wholeG K)) : Has P w K mg base CX0 2 "is_move" ["thing"] (sp_moveG K) := by
  refine D.ok sc_is_move (fun vs H Q E h => ?_) (fun f cdv A outer s0 H vs Q E hr h => ?_)
  · obtain ⟨v, o, rfl, _⟩ := h
    rfl
  · obtain ⟨v, o, rfl, hv, q⟩ := h
    refine ⟨_, pss_one (ps_ret (pe_and (pe_callB call_isi (by rfl) B.isinstance (by decide +kernel) (pa_cons (pv 0) (pa_cons (pe_bltn (v := .ty "tuple") rfl B.tuple (by decide +kernel) rfl) pa_nil))) (pe_and (pe_cmpR op_eq (pe_callB ca_len (by rfl) B.len (by decide +kernel) (pa_cons (pv 0) pa_nil)) pe_int (nomark _)) (pe_and (pe_h h_is_whole (hr.mono (by decide)) pass0 (pa_cons (pe_ix ix_tup (pv 0) pe_int (fun _ _ => rfl)) pa_nil)) (pe_one (pe_h h_is_whole (hr.mono (by decide)) pass0 (pa_cons (pe_ix ix_tup (pv 0) pe_int (fun _ _ => rfl)) pa_nil))))))), ?_⟩
    try dsimp only [cxOf_K]
    cases hv with
    | no h =>
      repeat walk_at "s"
      refine h.isi ?_
      repeat walk_at "s"
      exact q
    | len ht n =>
      repeat walk_at "s"
      refine rd_isiT ht ?_
      repeat walk_at "s"
      refine rd_lenT ht ?_
      repeat walk_at "s"
      refine rd_ifF (decide_eq_false (by omega)) ?_
      exact q
    | @two p x y a b ht hx hy =>
      repeat walk_at "s"
      refine rd_isiT ht ?_
      repeat walk_at "s"
      refine rd_lenT ht ?_
      repeat walk_at "s"
      refine rd_ifT rfl ?_
      repeat walk_at "s"
      refine rd_ixT ht (v := x) rfl ?_
      repeat walk_at "s"
      refine ⟨_, _, rfl, hx, ?_⟩
      cases a with
      | none =>
        repeat walk_at "s"
        exact q
      | some a =>
        repeat walk_at "s"
        refine rd_ifT rfl ?_
        repeat walk_at "s"
        refine rd_ixT ht (v := y) rfl ?_
        repeat walk_at "s"
        refine ⟨_, _, rfl, hy, ?_⟩
        cases b <;> exact q
end
end Peg


namespace Peg
open PySem PyProof.Rows L2
local macro_rules | `(tactic| walk_at "s") => `(tactic| with_reducible first
  | refine rd_seq ?_ | refine rd_asgN ?_ | refine rd_asgT ?_ | refine rd_ret ?_ | refine rd_drop ?_ | refine rd_ifs ?_ | refine rd_next ?_ | refine rd_par ?_ | refine rd_par2 ?_ | refine rd_par3 ?_ | refine rd_par33 ?_
  | refine rd_c ?_ | refine rd_op ?_ | refine rd_un ?_ | refine rd_rU ?_ | refine rd_rI0 ?_ | refine rd_test ?_ | refine rd_tB ?_ | refine rd_bl ?_ | refine rd_and ?_ | refine rd_or ?_ | refine rd_not ?_
  | refine rd_andV ?_ | refine rd_orV ?_ | refine rd_notV ?_ | refine rd_ife ?_ | refine rd_nil ?_ | refine rd_cons ?_ | refine rd_call ?_ | refine rd_cb ?_ | refine rd_bm ?_ | refine rd_bm0 ?_ | refine rd_gN ?_ | refine rd_tup ?_ | refine rd_lst ?_ | refine rd_ipI ?_
  | refine rd_rev ?_ | refine rd_sl ?_ | refine rd_noP ?_ | refine rd_part ?_ | refine rd_int1 ?_ | refine rd_chain ?_ | refine rd_isiI ?_ | refine rd_isiB ?_ | refine rd_isiS ?_ | refine rd_lc ?_ | refine rd_gC ?_ | refine rd_gNil ?_ | refine rd_for ?_ | refine rd_while ?_ | refine rd_iR1 ?_ | refine rd_iR2 ?_ | refine rd_iL ?_ | refine rd_iT ?_ | refine rd_iE ?_ | refine rd_iV ?_ | refine rd_iRR ?_ | refine rd_tRg1 ?_ | refine rd_eqF ?_ | refine rd_eqL ?_ | refine rd_eqR ?_ | refine rd_neRound ?_ | refine rd_whole ?_ | refine rd_eqI ?_ | refine rd_neI ?_ | refine rd_neB ?_ | refine rd_min ?_ | refine rd_max ?_
  | (refine rd_var (v := ?v) ?e ?_; case e => with_unfolding_all exact rfl)
  | (refine rd_aug (x := ?x) ?e ?_; case e => with_unfolding_all exact rfl)
  | (refine rd_rEq ?c ?_; case c => with_unfolding_all exact rfl)
  | (refine rd_rNe ?c ?_; case c => with_unfolding_all exact rfl)
  | (refine rd_mulL ?c ?_; case c => with_unfolding_all decide)
  | (refine rd_mulR ?c ?_; case c => with_unfolding_all decide)
  | (refine rd_modP ?c ?_; case c => with_unfolding_all decide)
  | (refine rd_divP ?c ?_; case c => with_unfolding_all decide)
  | (refine rd_ifT ?c ?_; case c => with_unfolding_all decide)
  | (refine rd_ifF ?c ?_; case c => with_unfolding_all decide)
  | (refine rd_sz ?c ?_; case c => with_unfolding_all exact rfl)
  | refine rd_abs ?_ | refine rd_is_near ?_)

section
variable {P : Program} {w : World} {K : PySem.W.Frag} {mg : Str → Option Value} {base : Heap} {ad : Ec → Addr}
abbrev s_number_by_line : Stmt := topS 37
theorem sc_number_by_line : FnScope ["state", "found", "odd", "peg"] ["state"] (defScope s_number_by_line) := ⟨rfl, rfl, rfl, by decide +kernel, rfl, by decide +kernel, by decide +kernel⟩

theorem ok_no_line (D : Df K mg "number_by_line" s_number_by_line ["state"]) : Has P w K mg base CX0 1 "number_by_line" ["state"] sp_no :=
  D.ok sc_number_by_line (fun vs H Q E h => h.elim) (fun f cdv A outer s0 H vs Q E hr h => h.elim)
abbrev s_apart_free : Stmt := topS 40
theorem sc_apart_free : FnScope ["one", "other", "many", "table", "start", "end", "third", "here", "there", "once", "twice"] ["one", "other"] (defScope s_apart_free) := ⟨rfl, rfl, rfl, by decide +kernel, rfl, by decide +kernel, by decide +kernel⟩

theorem ok_no_free (D : Df K mg "apart_free" s_apart_free ["one", "other"]) : Has P w K mg base CX0 1 "apart_free" ["one", "other"] sp_no :=
  D.ok sc_apart_free (fun vs H Q E h => h.elim) (fun f cdv A outer s0 H vs Q E hr h => h.elim)
abbrev s_led : Stmt := topS 34
theorem sc_led : FnScope ["rule", "state", "peg", "number", "table", "goals", "sums", "disc", "start", "found", "steps", "third", "place", "lesser", "goal", "wait"] ["rule", "state", "peg", "number", "table"] (defScope s_led) := ⟨rfl, rfl, rfl, by decide +kernel, rfl, by decide +kernel, by decide +kernel⟩

theorem ok_no_led (D : Df K mg "led" s_led ["rule", "state", "peg", "number", "table"]) : Has P w K mg base CX0 1 "led" ["rule", "state", "peg", "number", "table"] sp_no :=
  D.ok sc_led (fun vs H Q E h => h.elim) (fun f cdv A outer s0 H vs Q E hr h => h.elim)
abbrev s_moves : Stmt := topS 23
theorem sc_moves : FnScope ["rule", "state"] ["rule", "state"] (defScope s_moves) := ⟨rfl, rfl, rfl, by decide +kernel, rfl, by decide +kernel, by decide +kernel⟩

theorem ok_moves (D : Df K mg "moves" s_moves ["rule", "state"]) (h_check_rule : Has P w K mg base (L2N.CX P w) 1 "check_rule" ["rule"] (sp_ckR K (ad .R))) (h_check_state : Has P w K mg base (L2N.CX P w) 3 "check_state" ["state"] (sp_ckS K (ad .S))) (h_moves_of : Has P w K mg base CX0 2 "moves_of" ["rule", "state"] (sp_moves_of K)) :
    Has P w K mg base (L2N.CX P w) 4 "moves" ["rule", "state"] (sp_movesX K ad) := by
  refine D.okX sc_moves (fun vs H Q E h => ?_) (fun f cdv A outer s0 H vs Q E hr h => ?_)
  · obtain ⟨a, b, rfl, _⟩ := h
    rfl
  · obtain ⟨a, b, rfl, h⟩ := h
    refine ⟨_, pss_cons (ps_expr (pe_h h_check_rule (hr.mono (by decide)) (passN (L2N.takes_of rfl rfl rfl rfl) fun _ _ _ _ h => h) (pa_cons (pv 0) pa_nil)))
      (pss_cons (ps_expr (pe_h h_check_state (hr.mono (by decide)) (passN (L2N.takes_of rfl rfl rfl rfl) fun _ _ _ _ h => h) (pa_cons (pv 1) pa_nil)))
      (pss_one (ps_ret (pe_h h_moves_of (hr.mono (by decide)) pass0 (pa_cons (pv 0) (pa_cons (pv 1) pa_nil)))))), ?_⟩
    try dsimp only [cxOf_KX]
    repeat walk_at "s"
    rcases h with ⟨h, e⟩ | ⟨r, rfl, h⟩
    · exact ⟨_, rfl, .inl ⟨h, e⟩⟩
    refine ⟨_, rfl, .inr ⟨r, rfl, ?_⟩⟩
    repeat walk_at "s"
    rcases h with ⟨h, e⟩ | ⟨p, s, rfl, hs, hz, hp, h⟩
    · exact ⟨_, rfl, .inl ⟨h, e⟩⟩
    exact h.elim
abbrev s_number_of : Stmt := topS 38
theorem sc_number_of : FnScope ["state"] ["state"] (defScope s_number_of) := ⟨rfl, rfl, rfl, by decide +kernel, rfl, by decide +kernel, by decide +kernel⟩

theorem ok_number_of (D : Df K mg "number_of" s_number_of ["state"]) (h_check_state : Has P w K mg base (L2N.CX P w) 3 "check_state" ["state"] (sp_ckS K (ad .S))) (h_number_by_line : Has P w K mg base CX0 1 "number_by_line" ["state"] sp_no) :
    Has P w K mg base (L2N.CX P w) 4 "number_of" ["state"] (sp_numX K ad) := by
  refine D.okX sc_number_of (fun vs H Q E h => ?_) (fun f cdv A outer s0 H vs Q E hr h => ?_)
  · obtain ⟨a, rfl, _⟩ := h
    rfl
  · obtain ⟨a, rfl, h, e⟩ := h
    refine ⟨_, pss_cons (ps_expr (pe_h h_check_state (hr.mono (by decide)) (passN (L2N.takes_of rfl rfl rfl rfl) fun _ _ _ _ h => h) (pa_cons (pv 0) pa_nil)))
      (pss_one (ps_ret (pe_h h_number_by_line (hr.mono (by decide)) pass0 (pa_cons (pv 0) pa_nil)))), ?_⟩
    try dsimp only [cxOf_KX]
    repeat walk_at "s"
    exact ⟨_, rfl, .inl ⟨h, e⟩⟩
abbrev s_written : Stmt := topS 43
theorem sc_written : FnScope ["state", "peg"] ["state"] (defScope s_written) := ⟨rfl, rfl, rfl, by decide +kernel, rfl, by decide +kernel, by decide +kernel⟩

theorem ok_written (D : Df K mg "written" s_written ["state"]) (B : Blt mg) (h_check_state : Has P w K mg base (L2N.CX P w) 3 "check_state" ["state"] (sp_ckS K (ad .S))) :
    Has P w K mg base (L2N.CX P w) 4 "written" ["state"] (sp_numX K ad) := by
  refine D.okX sc_written (fun vs H Q E h => ?_) (fun f cdv A outer s0 H vs Q E hr h => ?_)
  · obtain ⟨a, rfl, _⟩ := h
    rfl
  · obtain ⟨a, rfl, h, e⟩ := h
    refine ⟨_, pss_cons (ps_expr (pe_h h_check_state (hr.mono (by decide)) (passN (L2N.takes_of rfl rfl rfl rfl) fun _ _ _ _ h => h) (pa_cons (pv 0) pa_nil)))
      (pss_cons (ps_if (pt_cmpR op_eq (pe_callB ca_len (by rfl) B.len (by decide +kernel) (pa_cons (pv 0) pa_nil)) pe_int (nomark _)) (pss_one (ps_ret pe_str)) pss_nil)
      (pss_one (ps_ret (pe_bm PySem.F.plainAttrs_str PySem.F.slot_str_join PySem.F.type_str_join mt_join pe_str (pa_cons (pe_lc (own := [("peg", 1)]) rfl sc_written.nd (pi_reversed (by rfl) B.reversed (pa_cons (pv 0) pa_nil)) (blkOk_by (N := ["state", "peg"]) (sc := defScope s_written) (by decide +kernel)) (fun _ _ _ _ _ => (pg_name (i := 1) sc_written.nd rfl (by first | exact Or.inl rfl | exact Or.inr rfl))) (fun _ _ _ _ _ => pts_nil) (fun _ _ _ _ _ => (pe_callTy ca_str (by rfl) B.str (by decide +kernel) (pa_cons (pv 1) pa_nil)))) pa_nil))))), ?_⟩
    try dsimp only [cxOf_KX]
    repeat walk_at "s"
    exact ⟨_, rfl, .inl ⟨h, e⟩⟩
abbrev s_left : Stmt := topS 30
theorem sc_left : FnScope ["rule", "state", "peg"] ["rule", "state", "peg"] (defScope s_left) := ⟨rfl, rfl, rfl, by decide +kernel, rfl, by decide +kernel, by decide +kernel⟩

theorem ok_left (D : Df K mg "left" s_left ["rule", "state", "peg"]) (B : Blt mg) (h_check_rule : Has P w K mg base (L2N.CX P w) 1 "check_rule" ["rule"] (sp_ckR K (ad .R))) (h_check_state : Has P w K mg base (L2N.CX P w) 3 "check_state" ["state"] (sp_ckS K (ad .S))) (h_check_peg : Has P w K mg base (L2N.CX P w) 3 "check_peg" ["peg"] (sp_ckP K (ad .P)))
    (h_left_of : Has P w K mg base CX0 4 "left_of" ["rule", "state", "peg", "table"] (sp_left_of K)) (h_towers : Has P w K mg base CX0 1 "towers" ["rule", "many"] (sp_towers K)) :
    Has P w K mg base (L2N.CX P w) 5 "left" ["rule", "state", "peg"] (sp_leftX K ad) := by
  refine D.okX sc_left (fun vs H Q E h => ?_) (fun f cdv A outer s0 H vs Q E hr h => ?_)
  · obtain ⟨a, b, c, rfl, _⟩ := h
    rfl
  · obtain ⟨a, b, c, rfl, h⟩ := h
    refine ⟨_, pss_cons (ps_expr (pe_h h_check_rule (hr.mono (by decide)) (passN (L2N.takes_of rfl rfl rfl rfl) fun _ _ _ _ h => h) (pa_cons (pv 0) pa_nil)))
      (pss_cons (ps_expr (pe_h h_check_state (hr.mono (by decide)) (passN (L2N.takes_of rfl rfl rfl rfl) fun _ _ _ _ h => h) (pa_cons (pv 1) pa_nil)))
      (pss_cons (ps_expr (pe_h h_check_peg (hr.mono (by decide)) (passN (L2N.takes_of rfl rfl rfl rfl) fun _ _ _ _ h => h) (pa_cons (pv 2) pa_nil)))
      (pss_one (ps_ret (pe_h h_left_of (hr.mono (by decide)) pass0 (pa_cons (pv 0) (pa_cons (pv 1) (pa_cons (pv 2) (pa_cons (pe_h h_towers (hr.mono (by decide)) pass0 (pa_cons (pv 0) (pa_cons (pe_callB ca_len (by rfl) B.len (by decide +kernel) (pa_cons (pv 1) pa_nil)) pa_nil))) pa_nil))))))))), ?_⟩
    try dsimp only [cxOf_KX]
    repeat walk_at "s"
    rcases h with ⟨h, e⟩ | ⟨r, rfl, h⟩
    · exact ⟨_, rfl, .inl ⟨h, e⟩⟩
    refine ⟨_, rfl, .inr ⟨r, rfl, ?_⟩⟩
    repeat walk_at "s"
    rcases h with ⟨h, e⟩ | ⟨p, s, rfl, hs, hz, hp, h⟩
    · exact ⟨_, rfl, .inl ⟨h, e⟩⟩
    refine ⟨_, rfl, .inr ⟨p, s, rfl, hs, hz, hp, fun H1 s1 => ?_⟩⟩
    repeat walk_at "s"
    rcases h with ⟨h, e⟩ | ⟨g, rfl, hg, q⟩
    · exact ⟨_, rfl, .inl ⟨h.up s1, fun H' s' => e _ (s1.trans s')⟩⟩
    refine ⟨_, rfl, .inr ⟨g, rfl, hg, ?_⟩⟩
    repeat walk_at "s"
    refine rd_lenL (s1.seq hs) ?_
    repeat walk_at "s"
    rw [List.length_map]
    refine ⟨r, s.length, rfl, by omega, fun tb H2 nt s2 ht => ?_⟩
    repeat walk_at "s"
    exact ⟨r, p, tb, s, g, s.length, rfl, (s1.trans s2).seq hs, by omega, ht, by omega, fun H3 s3 => q _ ((s1.trans s2).trans s3)⟩
abbrev s_next_move : Stmt := topS 31
theorem sc_next_move : FnScope ["rule", "state", "peg", "goals", "disc", "start", "steps"] ["rule", "state", "peg"] (defScope s_next_move) := ⟨rfl, rfl, rfl, by decide +kernel, rfl, by decide +kernel, by decide +kernel⟩

theorem ok_next_move (D : Df K mg "next_move" s_next_move ["rule", "state", "peg"]) (B : Blt mg) (h_check_rule : Has P w K mg base (L2N.CX P w) 1 "check_rule" ["rule"] (sp_ckR K (ad .R))) (h_check_state : Has P w K mg base (L2N.CX P w) 3 "check_state" ["state"] (sp_ckS K (ad .S))) (h_check_peg : Has P w K mg base (L2N.CX P w) 3 "check_peg" ["peg"] (sp_ckP K (ad .P)))
    (h_goals_of : Has P w K mg base CX0 3 "goals_of" ["rule", "state", "peg"] (sp_goals_of K)) (h_steps_of : Has P w K mg base CX0 2 "steps_of" ["rule", "start", "end"] (sp_steps_of K)) :
    Has P w K mg base (L2N.CX P w) 4 "next_move" ["rule", "state", "peg"] (sp_nextX K ad) := by
  refine D.okX sc_next_move (fun vs H Q E h => ?_) (fun f cdv A outer s0 H vs Q E hr h => ?_)
  · obtain ⟨a, b, c, rfl, _⟩ := h
    rfl
  · obtain ⟨a, b, c, rfl, h⟩ := h
    refine ⟨_, pss_cons (ps_expr (pe_h h_check_rule (hr.mono (by decide)) (passN (L2N.takes_of rfl rfl rfl rfl) fun _ _ _ _ h => h) (pa_cons (pv 0) pa_nil)))
      (pss_cons (ps_expr (pe_h h_check_state (hr.mono (by decide)) (passN (L2N.takes_of rfl rfl rfl rfl) fun _ _ _ _ h => h) (pa_cons (pv 1) pa_nil)))
      (pss_cons (ps_expr (pe_h h_check_peg (hr.mono (by decide)) (passN (L2N.takes_of rfl rfl rfl rfl) fun _ _ _ _ h => h) (pa_cons (pv 2) pa_nil)))
      (pss_cons (ps_set (i := 3) sc_next_move.nd rfl (by first | exact Or.inl rfl | exact Or.inr rfl) (pe_h h_goals_of (hr.mono (by decide)) pass0 (pa_cons (pv 0) (pa_cons (pv 1) (pa_cons (pv 2) pa_nil)))))
      (pss_cons (ps_for (passes_of rfl) rfl (pi_enum (by rfl) B.enumerate (pa_cons (pv 1) pa_nil)) (pg_tup rfl (pgs_cons (pg_name (i := 4) sc_next_move.nd rfl (by first | exact Or.inl rfl | exact Or.inr rfl)) (pgs_cons (pg_name (i := 5) sc_next_move.nd rfl (by first | exact Or.inl rfl | exact Or.inr rfl)) pgs_nil)))
        (pss_cons (ps_set (i := 6) sc_next_move.nd rfl (by first | exact Or.inl rfl | exact Or.inr rfl) (pe_h h_steps_of (hr.mono (by decide)) pass0 (pa_cons (pv 0) (pa_cons (pv 5) (pa_cons (pe_ix ix_list (pv 3) (pv 4) (fun _ _ => rfl)) pa_nil)))))
        (pss_one (ps_if (pt_cmpR (op_neD hr.units) (pv 6) (pe_lst pa_nil) (nomark _)) (pss_one (ps_ret (pe_tup (pa_cons (pv 4) (pa_cons (pe_ix ix_tup (pe_ix ix_list (pv 6) pe_int (fun _ _ => rfl)) pe_int (fun _ _ => rfl)) pa_nil))))) pss_nil))))
      (pss_one (ps_ret (pe_tup pa_nil))))))), ?_⟩
    try dsimp only [cxOf_KX]
    repeat walk_at "s"
    rcases h with ⟨h, e⟩ | ⟨r, rfl, h⟩
    · exact ⟨_, rfl, .inl ⟨h, e⟩⟩
    refine ⟨_, rfl, .inr ⟨r, rfl, ?_⟩⟩
    repeat walk_at "s"
    rcases h with ⟨h, e⟩ | ⟨p, s, rfl, hs, hz, hp, h⟩
    · exact ⟨_, rfl, .inl ⟨h, e⟩⟩
    refine ⟨_, rfl, .inr ⟨p, s, rfl, hs, hz, hp, fun H1 s1 => ?_⟩⟩
    repeat walk_at "s"
    rcases h with ⟨h, e⟩ | ⟨g, rfl, hg, q⟩
    · exact ⟨_, rfl, .inl ⟨h.up s1, fun H' s' => e _ (s1.trans s')⟩⟩
    exact q.elim
abbrev s_behind : Stmt := topS 35
theorem sc_behind : FnScope ["rule", "state", "peg", "number", "table"] ["rule", "state", "peg", "number"] (defScope s_behind) := ⟨rfl, rfl, rfl, by decide +kernel, rfl, by decide +kernel, by decide +kernel⟩

theorem ok_behind (D : Df K mg "behind" s_behind ["rule", "state", "peg", "number"]) (B : Blt mg) (BadNumber_ : Exc K mg "BadNumber" (ad .N)) (h_is_whole : Has P w K mg base CX0 1 "is_whole" ["thing"] (sp_wholeG K)) (h_check_rule : Has P w K mg base (L2N.CX P w) 1 "check_rule" ["rule"] (sp_ckR K (ad .R))) (h_check_state : Has P w K mg base (L2N.CX P w) 3 "check_state" ["state"] (sp_ckS K (ad .S))) (h_check_peg : Has P w K mg base (L2N.CX P w) 3 "check_peg" ["peg"] (sp_ckP K (ad .P)))
    (h_left_of : Has P w K mg base CX0 4 "left_of" ["rule", "state", "peg", "table"] (sp_left_of K)) (h_towers : Has P w K mg base CX0 1 "towers" ["rule", "many"] (sp_towers K)) (h_led : Has P w K mg base CX0 1 "led" ["rule", "state", "peg", "number", "table"] sp_no) :
    Has P w K mg base (L2N.CX P w) 5 "behind" ["rule", "state", "peg", "number"] (sp_behindX K ad) := by
  refine D.okX sc_behind (fun vs H Q E h => ?_) (fun f cdv A outer s0 H vs Q E hr h => ?_)
  · obtain ⟨a, b, c, d, rfl, _⟩ := h
    rfl
  · obtain ⟨a, b, c, d, rfl, h⟩ := h
    refine ⟨_, pss_cons (ps_expr (pe_h h_check_rule (hr.mono (by decide)) (passN (L2N.takes_of rfl rfl rfl rfl) fun _ _ _ _ h => h) (pa_cons (pv 0) pa_nil)))
      (pss_cons (ps_expr (pe_h h_check_state (hr.mono (by decide)) (passN (L2N.takes_of rfl rfl rfl rfl) fun _ _ _ _ h => h) (pa_cons (pv 1) pa_nil)))
      (pss_cons (ps_expr (pe_h h_check_peg (hr.mono (by decide)) (passN (L2N.takes_of rfl rfl rfl rfl) fun _ _ _ _ h => h) (pa_cons (pv 2) pa_nil)))
      (pss_cons (ps_set (i := 4) sc_behind.nd rfl (by first | exact Or.inl rfl | exact Or.inr rfl) (pe_h h_towers (hr.mono (by decide)) pass0 (pa_cons (pv 0) (pa_cons (pe_callB ca_len (by rfl) B.len (by decide +kernel) (pa_cons (pv 1) pa_nil)) pa_nil))))
      (pss_cons (ps_if (PW.pt (pw_or (pt_not (pt_val (pe_h h_is_whole (hr.mono (by decide)) pass0 (pa_cons (pv 3) pa_nil)))) (pw_or1 (pt_not (pt_chain op_le op_le pe_int (pv 3) (pe_h h_left_of (hr.mono (by decide)) pass0 (pa_cons (pv 0) (pa_cons (pv 1) (pa_cons (pv 2) (pa_cons (pv 4) pa_nil)))))))))) (pss_one (ps_raiseC rfl (L2N.takes_of rfl rfl rfl rfl) BadNumber_ rfl)) pss_nil)
      (pss_one (ps_ret (pe_h h_led (hr.mono (by decide)) pass0 (pa_cons (pv 0) (pa_cons (pv 1) (pa_cons (pv 2) (pa_cons (pv 3) (pa_cons (pv 4) pa_nil)))))))))))), ?_⟩
    try dsimp only [cxOf_KX]
    repeat walk_at "s"
    rcases h with ⟨h, e⟩ | ⟨r, rfl, h⟩
    · exact ⟨_, rfl, .inl ⟨h, e⟩⟩
    refine ⟨_, rfl, .inr ⟨r, rfl, ?_⟩⟩
    repeat walk_at "s"
    rcases h with ⟨h, e⟩ | ⟨p, s, rfl, hs, hz, hp, h⟩
    · exact ⟨_, rfl, .inl ⟨h, e⟩⟩
    refine ⟨_, rfl, .inr ⟨p, s, rfl, hs, hz, hp, fun H1 s1 => ?_⟩⟩
    repeat walk_at "s"
    rcases h with ⟨h, e⟩ | ⟨g, rfl, hg, o, hd, hl, e⟩
    · exact ⟨_, rfl, .inl ⟨h.up s1, fun H' s' => e _ (s1.trans s')⟩⟩
    refine ⟨_, rfl, .inr ⟨g, rfl, hg, ?_⟩⟩
    repeat walk_at "s"
    refine rd_lenL (s1.seq hs) ?_
    repeat walk_at "s"
    rw [List.length_map]
    refine ⟨r, s.length, rfl, by omega, fun tb H2 nt s2 ht => ?_⟩
    have s12 := s1.trans s2
    repeat walk_at "s"
    refine ⟨_, o, rfl, hd.up s12, ?_⟩
    cases o with
    | none =>
      repeat walk_at "s"
      exact e _ s12
    | some i =>
      cases hd with
      | int i =>
        repeat walk_at "s"
        refine rd_ifF rfl ?_
        repeat walk_at "s"
        refine rd_if2 (fun z => ?_) (fun z => ?_)
        · have z0 : 0 ≤ i := of_decide_eq_true z
          repeat walk_at "s"
          refine ⟨r, p, tb, s, g, s.length, rfl, s12.seq hs, by omega, ht, by omega, fun H3 s3 => ?_⟩
          have hl := hl i rfl z0
          repeat walk_at "s"
          refine rd_ifT (by rw [decide_eq_false (by omega)] <;> rfl) ?_
          repeat walk_at "s"
          exact e _ (s12.trans s3)
        · repeat walk_at "s"
          exact e _ s12
abbrev s_state_of : Stmt := topS 39
theorem sc_state_of : FnScope ["discs", "number", "figures", "disc", "found", "odd", "figure", "peg"] ["discs", "number"] (defScope s_state_of) := ⟨rfl, rfl, rfl, by decide +kernel, rfl, by decide +kernel, by decide +kernel⟩

theorem ok_state_of (D : Df K mg "state_of" s_state_of ["discs", "number"]) (B : Blt mg) (BadNumber_ : Exc K mg "BadNumber" (ad .N)) (h_is_whole : Has P w K mg base CX0 1 "is_whole" ["thing"] (sp_wholeG K)) :
    Has P w K mg base (L2N.CX P w) 2 "state_of" ["discs", "number"] (sp_stateX K ad) := by
  refine D.okX sc_state_of (fun vs H Q E h => ?_) (fun f cdv A outer s0 H vs Q E hr h => ?_)
  · obtain ⟨a, b, oa, ob, rfl, _⟩ := h
    rfl
  · obtain ⟨a, b, oa, ob, rfl, ha, hb, hn, e⟩ := h
    refine ⟨_, pss_cons (ps_if (PW.pt (pw_or (pt_not (pt_val (pe_h h_is_whole (hr.mono (by decide)) pass0 (pa_cons (pv 0) pa_nil)))) (pw_or (pt_not (pt_val (pe_h h_is_whole (hr.mono (by decide)) pass0 (pa_cons (pv 1) pa_nil)))) (pw_or (pt_cmpR op_lt (pv 0) pe_int (nomark _)) (pw_or1 (pt_cmpR op_lt (pv 1) pe_int (nomark _))))))) (pss_one (ps_raiseC rfl (L2N.takes_of rfl rfl rfl rfl) BadNumber_ rfl)) pss_nil)
      (pss_cons (ps_set (i := 2) sc_state_of.nd rfl (by first | exact Or.inl rfl | exact Or.inr rfl) (pe_lst pa_nil))
      (pss_cons (ps_for (passes_of rfl) rfl (pi_range1 (by rfl) B.range (pa_cons (pv 0) pa_nil)) (pg_name (i := 3) sc_state_of.nd rfl (by first | exact Or.inl rfl | exact Or.inr rfl))
        (pss_cons (ps_expr (pe_bm PySem.F.plainAttrs_list PySem.F.slot_list_append PySem.F.type_list_append mt_append (pv 2) (pa_cons (pe_op op_mod (pv 1) pe_int) pa_nil)))
        (pss_one (ps_set (i := 1) sc_state_of.nd rfl (by first | exact Or.inl rfl | exact Or.inr rfl) (pe_op op_fdiv (pv 1) pe_int)))))
      (pss_cons (ps_if (pt_cmpR op_gt (pv 1) pe_int (nomark _)) (pss_one (ps_raiseC rfl (L2N.takes_of rfl rfl rfl rfl) BadNumber_ rfl)) pss_nil)
      (pss_cons (ps_set (i := 4) sc_state_of.nd rfl (by first | exact Or.inl rfl | exact Or.inr rfl) (pe_lst pa_nil))
      (pss_cons (ps_set (i := 5) sc_state_of.nd rfl (by first | exact Or.inl rfl | exact Or.inr rfl) pe_bl)
      (pss_cons (ps_for (passes_of rfl) rfl (pi_reversed (by rfl) B.reversed (pa_cons (pv 2) pa_nil)) (pg_name (i := 6) sc_state_of.nd rfl (by first | exact Or.inl rfl | exact Or.inr rfl))
        (pss_cons (ps_set (i := 7) sc_state_of.nd rfl (by first | exact Or.inl rfl | exact Or.inr rfl) (pe_ifExp (pt_val (pv 5)) (pe_op op_sub pe_int (pv 6)) (pv 6)))
        (pss_cons (ps_expr (pe_bm PySem.F.plainAttrs_list PySem.F.slot_list_append PySem.F.type_list_append mt_append (pv 4) (pa_cons (pv 7) pa_nil)))
        (pss_one (ps_set (i := 5) sc_state_of.nd rfl (by first | exact Or.inl rfl | exact Or.inr rfl) (pe_cmpR op_ne (pv 5) (pe_cmpR op_eq (pv 7) pe_int (nomark _)) (nomark _)))))))
      (pss_one (ps_ret (pe_revL (pv 4)))))))))), ?_⟩
    try dsimp only [cxOf_KX]
    repeat walk_at "s"
    refine ⟨_, _, rfl, ha, ?_⟩
    cases oa with
    | none =>
      repeat walk_at "s"
      exact e _ (Same.refl _)
    | some n =>
    repeat walk_at "s"
    refine rd_ifF rfl ?_
    repeat walk_at "s"
    refine ⟨_, _, rfl, hb, ?_⟩
    cases ob with
    | none =>
      repeat walk_at "s"
      exact e _ (Same.refl _)
    | some x =>
    cases ha with
    | int n =>
    cases hb with
    | int x =>
    repeat walk_at "s"
    refine rd_ifF rfl ?_
    repeat walk_at "s"
    refine rd_ifP (fun z => ?_) (fun z => ?_)
    · repeat walk_at "s"
      exact e _ (Same.refl _)
    repeat walk_at "s"
    refine rd_ifP (fun z2 => ?_) (fun z2 => ?_)
    · repeat walk_at "s"
      exact e _ (Same.refl _)
    obtain ⟨hz, hx⟩ := hn n x rfl rfl (by omega) (by omega)
    obtain ⟨m, rfl⟩ : ∃ m : Nat, n = (m : Int) := ⟨n.toNat, by omega⟩
    rw [Int.toNat_natCast] at hx
    repeat walk_at "s"
    intro l nl
    repeat walk_at "s"
    have s1 := same_new (o := .lst []) nl
    refine rd_r1 (by omega) ?_
    refine for_r (fun i σ H' => ∃ (y : Option V) (vs : List V), σ = [some (.int (m : Int)), some (.int (x / 3 ^ i)), some (.ref l), y, none, none, none, none] ∧ Same H H' ∧ H' l = some (.lst vs) ∧ vs.length = i)
      ⟨none, [], (by rw [Int.pow_zero, Int.ediv_one] <;> rfl), s1, upd_same, rfl⟩ ?_ ?_
    · rintro i σ H' hi ⟨_, vs, rfl, sH, hl, hvl⟩
      repeat walk_at "s"
      refine ⟨tyV_l (sqL_of hl), ?_⟩
      repeat walk_at "s"
      refine rd_app hl (sz_lt (by omega)) ?_
      repeat walk_at "s"
      rw [div3]
      exact ⟨_, _, rfl, same_mut sH nl, upd_same, by rw [List.length_append, hvl] <;> rfl⟩
    · rintro σ H' ⟨_, vs, rfl, sH, hl, hvl⟩
      have h3 : (0 : Int) < 3 ^ m := Int.pow_pos (by decide)
      have hpos : 0 < x / 3 ^ m := by
        have := Int.ediv_le_ediv h3 hx
        rw [Int.ediv_self (by omega)] at this
        omega
      repeat walk_at "s"
      refine rd_ifT (decide_eq_true hpos) ?_
      repeat walk_at "s"
      exact e _ sH
abbrev s_apart : Stmt := topS 41
theorem sc_apart : FnScope ["rule", "one", "other"] ["rule", "one", "other"] (defScope s_apart) := ⟨rfl, rfl, rfl, by decide +kernel, rfl, by decide +kernel, by decide +kernel⟩

theorem ok_apart (D : Df K mg "apart" s_apart ["rule", "one", "other"]) (B : Blt mg) (BadRule_ : Exc K mg "BadRule" (ad .R)) (Unlike_ : Exc K mg "Unlike" (ad .U)) (h_check_rule : Has P w K mg base (L2N.CX P w) 1 "check_rule" ["rule"] (sp_ckR K (ad .R))) (h_check_state : Has P w K mg base (L2N.CX P w) 3 "check_state" ["state"] (sp_ckS K (ad .S)))
    (h_number_by_line : Has P w K mg base CX0 1 "number_by_line" ["state"] sp_no) (h_apart_free : Has P w K mg base CX0 1 "apart_free" ["one", "other"] sp_no) : Has P w K mg base (L2N.CX P w) 4 "apart" ["rule", "one", "other"] (sp_apartX K ad) := by
  refine D.okX sc_apart (fun vs H Q E h => ?_) (fun f cdv A outer s0 H vs Q E hr h => ?_)
  · obtain ⟨a, b, c, rfl, _⟩ := h
    rfl
  · obtain ⟨a, b, c, rfl, h⟩ := h
    refine ⟨_, pss_cons (ps_expr (pe_h h_check_rule (hr.mono (by decide)) (passN (L2N.takes_of rfl rfl rfl rfl) fun _ _ _ _ h => h) (pa_cons (pv 0) pa_nil)))
      (pss_cons (ps_if (pt_cmpR op_eq (pv 0) pe_str (nomark _)) (pss_one (ps_raiseC rfl (L2N.takes_of rfl rfl rfl rfl) BadRule_ rfl)) pss_nil)
      (pss_cons (ps_expr (pe_h h_check_state (hr.mono (by decide)) (passN (L2N.takes_of rfl rfl rfl rfl) fun _ _ _ _ h => h) (pa_cons (pv 1) pa_nil)))
      (pss_cons (ps_expr (pe_h h_check_state (hr.mono (by decide)) (passN (L2N.takes_of rfl rfl rfl rfl) fun _ _ _ _ h => h) (pa_cons (pv 2) pa_nil)))
      (pss_cons (ps_if (pt_cmpR op_ne (pe_callB ca_len (by rfl) B.len (by decide +kernel) (pa_cons (pv 1) pa_nil)) (pe_callB ca_len (by rfl) B.len (by decide +kernel) (pa_cons (pv 2) pa_nil)) (nomark _)) (pss_one (ps_raiseC rfl (L2N.takes_of rfl rfl rfl rfl) Unlike_ rfl)) pss_nil)
      (pss_cons (ps_if (pt_cmpR op_eq (pv 0) pe_str (nomark _)) (pss_one (ps_ret (pe_callB ca_abs (by rfl) B.abs (by decide +kernel) (pa_cons (pe_op op_sub (pe_h h_number_by_line (hr.mono (by decide)) pass0 (pa_cons (pv 1) pa_nil)) (pe_h h_number_by_line (hr.mono (by decide)) pass0 (pa_cons (pv 2) pa_nil))) pa_nil)))) pss_nil)
      (pss_one (ps_ret (pe_h h_apart_free (hr.mono (by decide)) pass0 (pa_cons (pv 1) (pa_cons (pv 2) pa_nil)))))))))), ?_⟩
    try dsimp only [cxOf_KX]
    repeat walk_at "s"
    rcases h with ⟨h, e⟩ | ⟨r, rfl, h⟩
    · exact ⟨_, rfl, .inl ⟨h, e⟩⟩
    refine ⟨_, rfl, .inr ⟨r, rfl, ?_⟩⟩
    rcases h with ⟨rfl, e⟩ | ⟨hr2, h⟩
    · repeat walk_at "s"
      exact e _ (Same.refl _)
    repeat walk_at "s"
    refine rd_ifF (decide_eq_false hr2) ?_
    repeat walk_at "s"
    rcases h with ⟨h, e⟩ | ⟨p, s, rfl, hs, hz, hp, h⟩
    · exact ⟨_, rfl, .inl ⟨h, e⟩⟩
    refine ⟨_, rfl, .inr ⟨p, s, rfl, hs, hz, hp, fun H1 s1 => ?_⟩⟩
    repeat walk_at "s"
    rcases h with ⟨h, e⟩ | ⟨p2, s2, rfl, hs2, hz2, hp2, hne, e⟩
    · exact ⟨_, rfl, .inl ⟨h.up s1, fun H' s' => e _ (s1.trans s')⟩⟩
    refine ⟨_, rfl, .inr ⟨p2, s2, rfl, s1.seq hs2, hz2, hp2, fun H2 e2 => ?_⟩⟩
    have e12 := s1.trans e2
    repeat walk_at "s"
    refine rd_lenL (e12.seq hs) ?_
    repeat walk_at "s"
    refine rd_lenL (e12.seq hs2) ?_
    repeat walk_at "s"
    rw [List.length_map, List.length_map]
    refine rd_ifT (by rw [decide_eq_false (by omega)] <;> rfl) ?_
    repeat walk_at "s"
    exact e _ e12
abbrev s_done : Stmt := topS 25
theorem sc_done : FnScope ["rule", "state", "some", "found", "move"] ["rule", "state", "some"] (defScope s_done) := ⟨rfl, rfl, rfl, by decide +kernel, rfl, by decide +kernel, by decide +kernel⟩

theorem ok_done (D : Df K mg "done" s_done ["rule", "state", "some"]) (B : Blt mg) (BadMove_ : Exc K mg "BadMove" (ad .M)) (h_check_rule : Has P w K mg base (L2N.CX P w) 1 "check_rule" ["rule"] (sp_ckR K (ad .R))) (h_check_state : Has P w K mg base (L2N.CX P w) 3 "check_state" ["state"] (sp_ckS K (ad .S)))
    (h_moves_of : Has P w K mg base CX0 2 "moves_of" ["rule", "state"] (sp_moves_of K)) (h_is_move : Has P w K mg base CX0 2 "is_move" ["thing"] (sp_moveG K)) : Has P w K mg base (L2N.CX P w) 4 "done" ["rule", "state", "some"] (sp_doneX K ad) := by
  refine D.okX sc_done (fun vs H Q E h => ?_) (fun f cdv A outer s0 H vs Q E hr h => ?_)
  · obtain ⟨a, b, c, rfl, _⟩ := h
    rfl
  · obtain ⟨a, b, c, rfl, h⟩ := h
    refine ⟨_, pss_cons (ps_expr (pe_h h_check_rule (hr.mono (by decide)) (passN (L2N.takes_of rfl rfl rfl rfl) fun _ _ _ _ h => h) (pa_cons (pv 0) pa_nil)))
      (pss_cons (ps_expr (pe_h h_check_state (hr.mono (by decide)) (passN (L2N.takes_of rfl rfl rfl rfl) fun _ _ _ _ h => h) (pa_cons (pv 1) pa_nil)))
      (pss_cons (ps_if (pt_not (pt_val (pe_callB call_isi (by rfl) B.isinstance (by decide +kernel) (pa_cons (pv 2) (pa_cons (pe_bltn (v := .ty "list") rfl B.list (by decide +kernel) rfl) pa_nil))))) (pss_one (ps_raiseC rfl (L2N.takes_of rfl rfl rfl rfl) BadMove_ rfl)) pss_nil)
      (pss_cons (ps_set (i := 3) sc_done.nd rfl (by first | exact Or.inl rfl | exact Or.inr rfl) (pe_callTy ca_list (by rfl) B.list (by decide +kernel) (pa_cons (pv 1) pa_nil)))
      (pss_cons (ps_for (passes_of rfl) rfl (pi_list (pv 2)) (pg_name (i := 4) sc_done.nd rfl (by first | exact Or.inl rfl | exact Or.inr rfl))
        (pss_cons (ps_if (PW.pt (pw_or (pt_not (pt_val (pe_h h_is_move (hr.mono (by decide)) pass0 (pa_cons (pv 4) pa_nil)))) (pw_or1 (pt_cmpR (op_notInD (un65 hr)) (pv 4) (pe_h h_moves_of (hr.mono (by decide)) pass0 (pa_cons (pv 0) (pa_cons (pv 3) pa_nil))) rfl)))) (pss_one (ps_raiseC rfl (L2N.takes_of rfl rfl rfl rfl) BadMove_ rfl)) pss_nil)
        (pss_one (ps_asg (pe_ix ix_tup (pv 4) pe_int (fun _ _ => rfl)) (pg_sub (pv 3) (pe_ix ix_tup (pv 4) pe_int (fun _ _ => rfl)) set_list)))))
      (pss_one (ps_ret (pv 3))))))), ?_⟩
    try dsimp only [cxOf_KX]
    repeat walk_at "s"
    rcases h with ⟨h, e⟩ | ⟨r, rfl, h⟩
    · exact ⟨_, rfl, .inl ⟨h, e⟩⟩
    refine ⟨_, rfl, .inr ⟨r, rfl, ?_⟩⟩
    repeat walk_at "s"
    rcases h with ⟨h, e⟩ | ⟨a, s, rfl, hs, hz, hp, h⟩
    · exact ⟨_, rfl, .inl ⟨h, e⟩⟩
    refine ⟨_, rfl, .inr ⟨a, s, rfl, hs, hz, hp, fun H1 s1 => ?_⟩⟩
    rcases h with ⟨h, e⟩ | ⟨b, vs, os, rfl, hv, hpp, q, e⟩
    · repeat walk_at "s"
      refine (h.up s1).isi ?_
      repeat walk_at "s"
      exact e _ s1
    repeat walk_at "s"
    refine rd_isiL (s1.seq hv) ?_
    repeat walk_at "s"
    refine rd_listL (s1.seq hs) fun l nl => ?_
    have nl0 : H l = none := s1.free nl
    have s2 := s1.trans (same_new (o := .lst (s.map V.int)) nl)
    repeat walk_at "s"
    refine rd_l1 (s2.seq hv) ?_
    refine for_l (xs := vs) (fun i σ H' => ∃ (x4 : Option V) (s' : List Int), σ = [some (.str r.s), some (.ref a), some (.ref b), some (.ref l), x4] ∧ Same H H' ∧ H' l = some (.lst (s'.map V.int)) ∧ s'.length = s.length ∧ AllP s' ∧ walkO r s' (os.drop i) = walkO r s os)
      ⟨none, s, rfl, s2, upd_same, rfl, hp, rfl⟩ (fun i σ H' _ ⟨_, _, _, e, _⟩ => e.seq hv) ?_ ?_
    · rintro i x σ H' hx ⟨_, s', rfl, eH, hl, hsl, hps, hw⟩
      obtain ⟨o, ho, hx2⟩ := paired_get1 hpp hx
      have hxo := hx2.up eH
      have dr : os.drop i = o :: os.drop (i + 1) := by
        obtain ⟨hi, e⟩ := List.getElem?_eq_some_iff.mp ho
        rw [← e]
        exact List.drop_eq_getElem_cons hi
      rw [dr] at hw
      repeat walk_at "s"
      refine ⟨_, o, rfl, hxo, ?_⟩
      cases o with
      | none =>
        have hw : none = walkO r s os := hw
        repeat walk_at "s"
        exact e hw.symm _ eH
      | some m =>
      have hw : (match stepL r s' m with | none => none | some s'' => walkO r s'' (os.drop (i + 1))) = walkO r s os := hw
      have hx3 := hxo.pair
      obtain ⟨t, rfl, ht⟩ := id hx3
      repeat walk_at "s"
      refine rd_ifF rfl ?_
      repeat walk_at "s"
      refine ⟨r, l, s', rfl, sqL_of hl, by omega, hps, fun p ws H2 np e2 hp2 hl2 => ?_⟩
      refine rd_niP (hx3.mono e2) (hl2.pairs hp2) ?_
      have hlm := e2 _ _ hl
      repeat walk_at "s"
      refine rd_ifN (fun z => ?_) (fun z => ?_)
      · rw [show stepL r s' m = none from if_neg z] at hw
        repeat walk_at "s"
        exact e hw.symm _ (eH.trans e2)
      · have hst : stepL r s' m = some (s'.set m.1.toNat m.2) := if_pos z
        rw [hst] at hw
        obtain ⟨x, hxb, hxm⟩ := mem_moves.mp z
        have hlt := (behind_set hxb).2
        have hm1 : m.1 = ((x.1.1 : Nat) : Int) := by rw [← hxm] <;> rfl
        repeat walk_at "s"
        refine rd_asgS ?_
        repeat walk_at "s"
        refine rd_ixT (sqT_mono e2 ht) (v := .int m.2) rfl ?_
        refine rd_gS ?_
        repeat walk_at "s"
        refine rd_ixT (sqT_mono e2 ht) (v := .int m.1) rfl ?_
        rw [hm1]
        refine rd_setL hlm (by rw [List.length_map]; exact hlt) ?_
        refine ⟨_, s'.set x.1.1 m.2, rfl, same_mut (eH.trans e2) nl0, ?_, by rw [List.length_set]; exact hsl, ?_, ?_⟩
        · rw [upd_same, List.map_set]
        · have := stepL_all hps hst
          rw [hm1, Int.toNat_natCast] at this
          exact this
        · rw [hm1, Int.toNat_natCast] at hw
          exact hw
    · rintro σ H' ⟨_, s', rfl, eH, hl, hsl, hps, hw⟩
      rw [hpp.length, List.drop_length] at hw
      repeat walk_at "s"
      exact q s' hw.symm l H' nl0 eH hl
end
end Peg

namespace Peg
open PySem PyProof.Rows L2
local macro_rules | `(tactic| walk_at "s") => `(tactic| with_reducible first
  | refine rd_seq ?_ | refine rd_asgN ?_ | refine rd_asgT ?_ | refine rd_ret ?_ | refine rd_drop ?_ | refine rd_ifs ?_ | refine rd_next ?_ | refine rd_par ?_ | refine rd_par2 ?_ | refine rd_par3 ?_ | refine rd_par33 ?_
  | refine rd_c ?_ | refine rd_op ?_ | refine rd_un ?_ | refine rd_rU ?_ | refine rd_rI0 ?_ | refine rd_test ?_ | refine rd_tB ?_ | refine rd_bl ?_ | refine rd_and ?_ | refine rd_or ?_ | refine rd_not ?_
  | refine rd_andV ?_ | refine rd_orV ?_ | refine rd_notV ?_ | refine rd_ife ?_ | refine rd_nil ?_ | refine rd_cons ?_ | refine rd_call ?_ | refine rd_cb ?_ | refine rd_bm ?_ | refine rd_bm0 ?_ | refine rd_gN ?_ | refine rd_tup ?_ | refine rd_lst ?_ | refine rd_ipI ?_
  | refine rd_rev ?_ | refine rd_sl ?_ | refine rd_noP ?_ | refine rd_part ?_ | refine rd_int1 ?_ | refine rd_chain ?_ | refine rd_isiI ?_ | refine rd_isiB ?_ | refine rd_isiS ?_ | refine rd_lc ?_ | refine rd_gC ?_ | refine rd_gNil ?_ | refine rd_for ?_ | refine rd_while ?_ | refine rd_iR1 ?_ | refine rd_iR2 ?_ | refine rd_iL ?_ | refine rd_iT ?_ | refine rd_iE ?_ | refine rd_iV ?_ | refine rd_iRR ?_ | refine rd_tRg1 ?_ | refine rd_eqF ?_ | refine rd_eqL ?_ | refine rd_eqR ?_ | refine rd_neRound ?_ | refine rd_whole ?_ | refine rd_eqI ?_ | refine rd_neI ?_ | refine rd_neB ?_ | refine rd_min ?_ | refine rd_max ?_
  | (refine rd_var (v := ?v) ?e ?_; case e => with_unfolding_all exact rfl)
  | (refine rd_aug (x := ?x) ?e ?_; case e => with_unfolding_all exact rfl)
  | (refine rd_rEq ?c ?_; case c => with_unfolding_all exact rfl)
  | (refine rd_rNe ?c ?_; case c => with_unfolding_all exact rfl)
  | (refine rd_mulL ?c ?_; case c => with_unfolding_all decide)
  | (refine rd_mulR ?c ?_; case c => with_unfolding_all decide)
  | (refine rd_modP ?c ?_; case c => with_unfolding_all decide)
  | (refine rd_divP ?c ?_; case c => with_unfolding_all decide)
  | (refine rd_ifT ?c ?_; case c => with_unfolding_all decide)
  | (refine rd_ifF ?c ?_; case c => with_unfolding_all decide)
  | (refine rd_sz ?c ?_; case c => with_unfolding_all exact rfl)
  | refine rd_abs ?_ | refine rd_is_near ?_)

section
variable {P : Program} {w : World} {K : PySem.W.Frag} {mg : Str → Option Value} {base : Heap} {ad : Ec → Addr} {cT cX : Addr}
abbrev s_law_kinds : Stmt := topS 51
theorem sc_law_kinds : FnScope ["error", "found"] ["error"] (defScope s_law_kinds) := ⟨rfl, rfl, rfl, by decide +kernel, rfl, by decide +kernel, by decide +kernel⟩

theorem ok_kinds (D : Df K mg "_law_kinds" s_law_kinds ["error"]) (B : Blt mg) (BV : mg "ValueError" = none) (XE : Errs mg cT (ad .R) (ad .S) (ad .P) (ad .M) (ad .N) (ad .U) cX) (EF : ErrF K ad cT cX) (c : Ec) : HasZ P w K mg base CX0 (ad c) 1 "_law_kinds" ["error"] (sp_kinds c) := by
  refine D.okZ sc_law_kinds (fun a vs H Q E h => ?_) (fun f cdv A outer s0 H vs Q E p hz hf hr h => ?_)
  · obtain ⟨rfl, _⟩ := h
    rfl
  · obtain ⟨pa, po⟩ := p
    obtain ⟨rfl, q⟩ := h
    refine ⟨_, pss_cons (ps_set (i := 1) sc_law_kinds.nd rfl (by first | exact Or.inl rfl | exact Or.inr rfl) (pe_lst (pa_cons (pe_callB (cr_isEK (K := K) rfl List.mem_cons_self (EF.ec c) hz hf) (by rfl) B.isinstance (by decide +kernel) (pa_cons (pv 0) (pa_cons (pe_glob (v := .ref (ad .R)) rfl XE.BadRule rfl) pa_nil))) (pa_cons (pe_callB (cr_isEK (K := K) rfl List.mem_cons_self (EF.ec c) hz hf) (by rfl) B.isinstance (by decide +kernel) (pa_cons (pv 0) (pa_cons (pe_glob (v := .ref (ad .S)) rfl XE.BadState rfl) pa_nil))) (pa_cons (pe_callB (cr_isEK (K := K) rfl List.mem_cons_self (EF.ec c) hz hf) (by rfl) B.isinstance (by decide +kernel) (pa_cons (pv 0) (pa_cons (pe_glob (v := .ref (ad .P)) rfl XE.BadPeg rfl) pa_nil))) pa_nil)))))
      (pss_cons (ps_set (i := 1) sc_law_kinds.nd rfl (by first | exact Or.inl rfl | exact Or.inr rfl) (pe_op op_cat (pv 1) (pe_lst (pa_cons (pe_callB (cr_isEK (K := K) rfl List.mem_cons_self (EF.ec c) hz hf) (by rfl) B.isinstance (by decide +kernel) (pa_cons (pv 0) (pa_cons (pe_glob (v := .ref (ad .M)) rfl XE.BadMove rfl) pa_nil))) (pa_cons (pe_callB (cr_isEK (K := K) rfl List.mem_cons_self (EF.ec c) hz hf) (by rfl) B.isinstance (by decide +kernel) (pa_cons (pv 0) (pa_cons (pe_glob (v := .ref (ad .N)) rfl XE.BadNumber rfl) pa_nil))) (pa_cons (pe_callB (cr_isEK (K := K) rfl List.mem_cons_self (EF.ec c) hz hf) (by rfl) B.isinstance (by decide +kernel) (pa_cons (pv 0) (pa_cons (pe_glob (v := .ref (ad .U)) rfl XE.Unlike rfl) pa_nil))) pa_nil))))))
      (pss_one (ps_ret (pe_op op_cat (pv 1) (pe_lst (pa_cons (pe_callB (cr_isEK (K := K) rfl List.mem_cons_self (EF.ec c) hz hf) (by rfl) B.isinstance (by decide +kernel) (pa_cons (pv 0) (pa_cons (pe_glob (v := .ref cX) rfl XE.BadText rfl) pa_nil))) (pa_cons (pe_callB (cr_isEK (K := K) rfl List.mem_cons_self (EF.ec c) hz hf) (by rfl) B.isinstance (by decide +kernel) (pa_cons (pv 0) (pa_cons (pe_bltn (v := .ty "ValueError") rfl BV (by decide +kernel) rfl) pa_nil))) pa_nil))))))), ?_⟩
    try dsimp only [cxH_K]
    repeat walk_at "s"
    refine rd_isE (EF.one c .R) ?_
    repeat walk_at "s"
    refine rd_isE (EF.one c .S) ?_
    repeat walk_at "s"
    refine rd_isE (EF.one c .P) ?_
    repeat walk_at "s"
    intro o1 n1
    have h1 : upd H o1 (.lst [.bl (decide (c = .R)), .bl (decide (c = .S)), .bl (decide (c = .P))]) o1 = some (.lst [.bl (decide (c = .R)), .bl (decide (c = .S)), .bl (decide (c = .P))]) := upd_same
    have s1 : Same H (upd H o1 (.lst [.bl (decide (c = .R)), .bl (decide (c = .S)), .bl (decide (c = .P))])) := same_new n1
    generalize upd H o1 (.lst [.bl (decide (c = .R)), .bl (decide (c = .S)), .bl (decide (c = .P))]) = H1 at *
    repeat walk_at "s"
    refine rd_isE (EF.one c .M) ?_
    repeat walk_at "s"
    refine rd_isE (EF.one c .N) ?_
    repeat walk_at "s"
    refine rd_isE (EF.one c .U) ?_
    repeat walk_at "s"
    intro o2 n2
    refine rd_cat (same_new n2 _ _ h1) upd_same (show 3 + 3 ≤ 100000 by decide) fun o3 n3 => ?_
    have s3 := s1.trans ((same_new (o := .lst [.bl (decide (c = .M)), .bl (decide (c = .N)), .bl (decide (c = .U))]) n2).trans (same_new (o := .lst ([.bl (decide (c = .R)), .bl (decide (c = .S)), .bl (decide (c = .P))] ++ [.bl (decide (c = .M)), .bl (decide (c = .N)), .bl (decide (c = .U))])) n3))
    repeat walk_at "s"
    refine rd_isE (EF.txt c) ?_
    repeat walk_at "s"
    refine rd_isET (EF.val c) ?_
    repeat walk_at "s"
    intro o4 n4
    refine rd_cat (same_new n4 _ _ upd_same) upd_same (show 6 + 2 ≤ 100000 by decide) fun o5 n5 => ?_
    have s5 := s3.trans ((same_new (o := .lst [.bl false, .bl true]) n4).trans (same_new (o := .lst (([.bl (decide (c = .R)), .bl (decide (c = .S)), .bl (decide (c = .P))] ++ [.bl (decide (c = .M)), .bl (decide (c = .N)), .bl (decide (c = .U))]) ++ [.bl false, .bl true])) n5))
    exact q o5 _ ((s3.trans (same_new (o := .lst [.bl false, .bl true]) n4)).free n5) s5 upd_same
abbrev s_law_told : Stmt := topS 60
theorem sc_law_told : FnScope ["ask", "one", "other", "error"] ["ask", "one", "other"] (defScope s_law_told) := ⟨rfl, rfl, rfl, by decide +kernel, rfl, by decide +kernel, by decide +kernel⟩

theorem ok_toldX (D : Df K mg "_law_told" s_law_told ["ask", "one", "other"]) (B : Blt mg) (BV : mg "ValueError" = none) (XE : Errs mg cT (ad .R) (ad .S) (ad .P) (ad .M) (ad .N) (ad .U) cX) (EF : ErrF K ad cT cX)
    (hk0 : ∀ c : Ec, HasZ P w K mg base CX0 (ad c) 1 "_law_kinds" ["error"] (sp_kinds c)) : Has P w K mg base CX0 9 "_law_told" ["ask", "one", "other"] (sp_toldX P w K mg base ad) := by
  refine D.ok sc_law_told (fun vs H Q E h => ?_) (fun f cdv A outer s0 H vs Q E hr h => ?_)
  · obtain ⟨f, T, c, a, b, rfl, _⟩ := h
    rfl
  · obtain ⟨f0, T, c, a, b, rfl, ⟨⟨fd1, ps1, F, hk, hb⟩⟩, ht, q⟩ := h
    have h_law_kinds := hk0 c
    refine ⟨_, pss_cons (L2N.ps_try_as (i := 3) rfl rfl sc_law_told.nd rfl rfl ⟨rfl, by decide, .inl XE.TowerError⟩ takesN0 (fun W pn xe tk _ => (pss_one (ps_expr (pe_callLS (k := 8) (i := 0) F (hr.mono (by decide)) hk hb (fun σ => L2N.passAt tk σ) (pa_cons (pv 1) (pa_cons (pv 2) pa_nil))))))
        (fun a oe cls d pn hz hf => pss_when (C := cls = .ref (ad c) ∧ d = none) fun he => (pss_one (ps_ret (pe_hZs h_law_kinds hr (by decide) (zn_of hz he) hf (pa_cons (pv 3) pa_nil))))))
      (pss_one (ps_ret (pe_lst pa_nil))), ?_⟩
    try dsimp only [cxOf_K]
    repeat walk_at "s"
    refine rd_callLS rfl ?_
    repeat walk_at "s"
    refine ⟨a, b, rfl, ht, fun H' eH => ?_⟩
    refine rd_as (EF.tow c) fun x nx => ⟨⟨rfl, rfl⟩, ?_⟩
    repeat walk_at "s"
    refine rd_callS ?_
    repeat walk_at "s"
    exact ⟨rfl, fun p H2 n s h => q p H2 (eH.free n) (eH.trans s) h⟩
abbrev s_law_all : Stmt := topS 61
theorem sc_law_all : FnScope ["ask", "doors", "things", "due", "door", "thing"] ["ask", "doors", "things", "due"] (defScope s_law_all) := ⟨rfl, rfl, rfl, by decide +kernel, rfl, by decide +kernel, by decide +kernel⟩

theorem ok_allX (D : Df K mg "_law_all" s_law_all ["ask", "doors", "things", "due"]) (B : Blt mg) (h_law_told : Has P w K mg base CX0 9 "_law_told" ["ask", "one", "other"] (sp_toldX P w K mg base ad)) : Has P w K mg base CX0 10 "_law_all" ["ask", "doors", "things", "due"] (sp_allX P w K mg base ad) := by
  refine D.ok sc_law_all (fun vs H Q E h => ?_) (fun f cdv A outer s0 H vs Q E hr h => ?_)
  · obtain ⟨f, pd, pt, pu, T, c, ds, ts, rfl, _⟩ := h
    rfl
  · obtain ⟨f0, pd, pt, pu, T, c, ds, ts, rfl, hA, hd, ht, hu, hz, hT, q⟩ := h
    refine ⟨_, pss_cons (ps_for PassesOwn.never rfl (pi_list (pv 1)) (pg_name (i := 4) sc_law_all.nd rfl (by first | exact Or.inl rfl | exact Or.inr rfl))
        (pss_one (ps_if (pt_not (pt_val (pe_callB (cr_all rfl) (by rfl) B.all (by decide +kernel) (pa_cons (pe_lc (own := [("thing", 5)]) rfl sc_law_all.nd (pi_list (pv 2)) (blkOk_by (N := ["ask", "doors", "things", "due", "door", "thing"]) (sc := defScope s_law_all) (by decide +kernel)) (fun _ _ _ _ _ => (pg_name (i := 5) sc_law_all.nd rfl (by first | exact Or.inl rfl | exact Or.inr rfl))) (fun _ _ _ _ _ => pts_nil) (fun _ _ _ _ _ => (pe_cmpR (op_eqDK (K := K) rfl hr.units) (pe_h h_law_told (hr.mono (by decide)) pass0 (pa_cons (pv 0) (pa_cons (pv 4) (pa_cons (pv 5) pa_nil)))) (pv 3) (nomark _)))) pa_nil)))) (pss_one (ps_ret pe_bl)) pss_nil)))
      (pss_one (ps_ret pe_bl)), ?_⟩
    try dsimp only [cxOf_K]
    repeat walk_at "s"
    refine rd_l1 hd ?_
    refine for_l (xs := ds) (fun i σ H' => ∃ (x4 : Option V), σ = [some (.ref f0), some (.ref pd), some (.ref pt), some (.ref pu), x4, none] ∧ Same H H') ⟨none, rfl, Same.refl _⟩ (fun i σ H' _ ⟨_, _, e⟩ => e.seq hd) ?_ ?_
    · rintro i x σ H' hx ⟨_, rfl, eH⟩
      have hxm := List.mem_of_getElem? hx
      repeat walk_at "s"
      refine rd_l1 (eH.seq ht) ?_
      intro l nl
      refine lc_true (eH.seq ht) nl (by omega) (fun _ => rfl) (fun y hy H2 Q2 e2 hq => ?_) fun H2 e2 h2 => ?_
      · repeat walk_at "s"
        refine ⟨f0, T, c, x, y, rfl, hA, hT _ (eH.trans e2) _ hxm _ hy, fun p H3 n e3 h3 => ?_⟩
        repeat walk_at "s"
        refine rd_eqB (sqL_of h3) ((eH.trans (e2.trans e3)).seq hu) ?_
        exact hq _ e3
      · repeat walk_at "s"
        refine rd_allT h2 ?_
        repeat walk_at "s"
        exact ⟨_, rfl, eH.trans e2⟩
    · rintro σ H' ⟨_, rfl, eH⟩
      repeat walk_at "s"
      exact q _ eH
abbrev s_law_with_rule : Stmt := topS 52
theorem sc_law_with_rule : FnScope ["door", "rule"] ["door", "rule"] (defScope s_law_with_rule) := ⟨rfl, rfl, rfl, by decide +kernel, rfl, by decide +kernel, by decide +kernel⟩

theorem ok_with_rule (D : Df K mg "_law_with_rule" s_law_with_rule ["door", "rule"]) (h_moves : Has P w K mg base (L2N.CX P w) 4 "moves" ["rule", "state"] (sp_movesX K ad)) (h_done : Has P w K mg base (L2N.CX P w) 4 "done" ["rule", "state", "some"] (sp_doneX K ad))
    (h_left : Has P w K mg base (L2N.CX P w) 5 "left" ["rule", "state", "peg"] (sp_leftX K ad)) (h_next_move : Has P w K mg base (L2N.CX P w) 4 "next_move" ["rule", "state", "peg"] (sp_nextX K ad)) (h_behind : Has P w K mg base (L2N.CX P w) 5 "behind" ["rule", "state", "peg", "number"] (sp_behindX K ad))
    (h_apart : Has P w K mg base (L2N.CX P w) 4 "apart" ["rule", "one", "other"] (sp_apartX K ad)) : Has P w K mg base (L2N.CX P w) 8 "_law_with_rule" ["door", "rule"] (sp_ask (TRule K) (ad .R)) := by
  refine D.okX sc_law_with_rule (k := 7) (fun vs H Q E h => ?_) (fun f cdv A outer s0 H vs Q E hr h => ?_)
  · obtain ⟨a, b, rfl, _⟩ := h
    rfl
  · obtain ⟨a, v, rfl, ⟨k, rfl, hk, h⟩, e⟩ := h
    refine ⟨_, pss_cons (ps_if (pt_cmpR op_lt (pv 0) pe_int (nomark _)) (pss_one (ps_ret (pe_ifExp (pt_cmpR op_eq (pv 0) pe_int (nomark _)) (pe_h h_moves (hr.mono (by decide)) (passN (L2N.takes_of rfl rfl rfl rfl) fun _ _ _ _ h => h) (pa_cons (pv 1) (pa_cons pe_non pa_nil))) (pe_ifExp (pt_cmpR op_eq (pv 0) pe_int (nomark _)) (pe_h h_done (hr.mono (by decide)) (passN (L2N.takes_of rfl rfl rfl rfl) fun _ _ _ _ h => h) (pa_cons (pv 1) (pa_cons pe_non (pa_cons pe_non pa_nil)))) (pe_h h_left (hr.mono (by decide)) (passN (L2N.takes_of rfl rfl rfl rfl) fun _ _ _ _ h => h) (pa_cons (pv 1) (pa_cons pe_non (pa_cons pe_non pa_nil)))))))) pss_nil)
      (pss_cons (ps_if (pt_cmpR op_eq (pv 0) pe_int (nomark _)) (pss_one (ps_ret (pe_h h_next_move (hr.mono (by decide)) (passN (L2N.takes_of rfl rfl rfl rfl) fun _ _ _ _ h => h) (pa_cons (pv 1) (pa_cons pe_non (pa_cons pe_non pa_nil)))))) pss_nil)
      (pss_one (ps_ret (pe_ifExp (pt_cmpR op_eq (pv 0) pe_int (nomark _)) (pe_h h_behind (hr.mono (by decide)) (passN (L2N.takes_of rfl rfl rfl rfl) fun _ _ _ _ h => h) (pa_cons (pv 1) (pa_cons pe_non (pa_cons pe_non (pa_cons pe_non pa_nil))))) (pe_h h_apart (hr.mono (by decide)) (passN (L2N.takes_of rfl rfl rfl rfl) fun _ _ _ _ h => h) (pa_cons (pv 1) (pa_cons pe_non (pa_cons pe_non pa_nil)))))))), ?_⟩
    try dsimp only [cxOf_KX]
    rcases h with h | ⟨rfl, rfl⟩
    · have hk6 : k = 0 ∨ k = 1 ∨ k = 2 ∨ k = 3 ∨ k = 4 ∨ k = 5 := by omega
      rcases hk6 with rfl | rfl | rfl | rfl | rfl | rfl
      · repeat walk_at "s"
        exact ⟨_, _, rfl, .inl ⟨h, e⟩⟩
      · repeat walk_at "s"
        exact ⟨_, _, _, rfl, .inl ⟨h, e⟩⟩
      · repeat walk_at "s"
        exact ⟨_, _, _, rfl, .inl ⟨h, e⟩⟩
      · repeat walk_at "s"
        exact ⟨_, _, _, rfl, .inl ⟨h, e⟩⟩
      · repeat walk_at "s"
        exact ⟨_, _, _, _, rfl, .inl ⟨h, e⟩⟩
      · repeat walk_at "s"
        exact ⟨_, _, _, rfl, .inl ⟨h, e⟩⟩
    · repeat walk_at "s"
      exact ⟨_, _, _, rfl, .inr ⟨.round, rfl, .inl ⟨rfl, e⟩⟩⟩
abbrev s_law_with_state : Stmt := topS 53
theorem sc_law_with_state : FnScope ["door", "state"] ["door", "state"] (defScope s_law_with_state) := ⟨rfl, rfl, rfl, by decide +kernel, rfl, by decide +kernel, by decide +kernel⟩

theorem ok_with_state (D : Df K mg "_law_with_state" s_law_with_state ["door", "state"]) (h_moves : Has P w K mg base (L2N.CX P w) 4 "moves" ["rule", "state"] (sp_movesX K ad)) (h_done : Has P w K mg base (L2N.CX P w) 4 "done" ["rule", "state", "some"] (sp_doneX K ad))
    (h_left : Has P w K mg base (L2N.CX P w) 5 "left" ["rule", "state", "peg"] (sp_leftX K ad)) (h_next_move : Has P w K mg base (L2N.CX P w) 4 "next_move" ["rule", "state", "peg"] (sp_nextX K ad)) (h_behind : Has P w K mg base (L2N.CX P w) 5 "behind" ["rule", "state", "peg", "number"] (sp_behindX K ad))
    (h_number_of : Has P w K mg base (L2N.CX P w) 4 "number_of" ["state"] (sp_numX K ad)) (h_written : Has P w K mg base (L2N.CX P w) 4 "written" ["state"] (sp_numX K ad))
    (h_apart : Has P w K mg base (L2N.CX P w) 4 "apart" ["rule", "one", "other"] (sp_apartX K ad)) : Has P w K mg base (L2N.CX P w) 8 "_law_with_state" ["door", "state"] (sp_ask (TState K) (ad .S)) := by
  refine D.okX sc_law_with_state (k := 7) (fun vs H Q E h => ?_) (fun f cdv A outer s0 H vs Q E hr h => ?_)
  · obtain ⟨a, b, rfl, _⟩ := h
    rfl
  · obtain ⟨a, v, rfl, ⟨k, rfl, hk, h⟩, e⟩ := h
    refine ⟨_, pss_cons (ps_if (pt_cmpR op_lt (pv 0) pe_int (nomark _)) (pss_one (ps_ret (pe_ifExp (pt_cmpR op_eq (pv 0) pe_int (nomark _)) (pe_h h_moves (hr.mono (by decide)) (passN (L2N.takes_of rfl rfl rfl rfl) fun _ _ _ _ h => h) (pa_cons pe_str (pa_cons (pv 1) pa_nil))) (pe_ifExp (pt_cmpR op_eq (pv 0) pe_int (nomark _)) (pe_h h_done (hr.mono (by decide)) (passN (L2N.takes_of rfl rfl rfl rfl) fun _ _ _ _ h => h) (pa_cons pe_str (pa_cons (pv 1) (pa_cons pe_non pa_nil)))) (pe_h h_number_of (hr.mono (by decide)) (passN (L2N.takes_of rfl rfl rfl rfl) fun _ _ _ _ h => h) (pa_cons (pv 1) pa_nil)))))) pss_nil)
      (pss_cons (ps_if (pt_cmpR op_lt (pv 0) pe_int (nomark _)) (pss_one (ps_ret (pe_ifExp (pt_cmpR op_eq (pv 0) pe_int (nomark _)) (pe_h h_left (hr.mono (by decide)) (passN (L2N.takes_of rfl rfl rfl rfl) fun _ _ _ _ h => h) (pa_cons pe_str (pa_cons (pv 1) (pa_cons pe_int pa_nil)))) (pe_ifExp (pt_cmpR op_eq (pv 0) pe_int (nomark _)) (pe_h h_next_move (hr.mono (by decide)) (passN (L2N.takes_of rfl rfl rfl rfl) fun _ _ _ _ h => h) (pa_cons pe_str (pa_cons (pv 1) (pa_cons pe_int pa_nil)))) (pe_h h_written (hr.mono (by decide)) (passN (L2N.takes_of rfl rfl rfl rfl) fun _ _ _ _ h => h) (pa_cons (pv 1) pa_nil)))))) pss_nil)
      (pss_cons (ps_if (pt_cmpR op_eq (pv 0) pe_int (nomark _)) (pss_one (ps_ret (pe_h h_behind (hr.mono (by decide)) (passN (L2N.takes_of rfl rfl rfl rfl) fun _ _ _ _ h => h) (pa_cons pe_str (pa_cons (pv 1) (pa_cons pe_int (pa_cons (pe_un un_neg pe_int) pa_nil))))))) pss_nil)
      (pss_one (ps_ret (pe_ifExp (pt_cmpR op_eq (pv 0) pe_int (nomark _)) (pe_h h_apart (hr.mono (by decide)) (passN (L2N.takes_of rfl rfl rfl rfl) fun _ _ _ _ h => h) (pa_cons pe_str (pa_cons (pv 1) (pa_cons (pe_lst (pa_cons pe_int pa_nil)) pa_nil)))) (pe_h h_apart (hr.mono (by decide)) (passN (L2N.takes_of rfl rfl rfl rfl) fun _ _ _ _ h => h) (pa_cons pe_str (pa_cons (pe_lst (pa_cons pe_int pa_nil)) (pa_cons (pv 1) pa_nil))))))))), ?_⟩
    try dsimp only [cxOf_KX]
    have hk9 : k = 0 ∨ k = 1 ∨ k = 2 ∨ k = 3 ∨ k = 4 ∨ k = 5 ∨ k = 6 ∨ k = 7 ∨ k = 8 := by omega
    rcases hk9 with rfl | rfl | rfl | rfl | rfl | rfl | rfl | rfl | rfl
    · repeat walk_at "s"
      exact ⟨_, _, rfl, .inr ⟨.free, rfl, .inl ⟨h, e⟩⟩⟩
    · repeat walk_at "s"
      exact ⟨_, _, _, rfl, .inr ⟨.free, rfl, .inl ⟨h, e⟩⟩⟩
    · repeat walk_at "s"
      exact ⟨_, rfl, h, e⟩
    · repeat walk_at "s"
      exact ⟨_, _, _, rfl, .inr ⟨.line, rfl, .inl ⟨h, e⟩⟩⟩
    · repeat walk_at "s"
      exact ⟨_, _, _, rfl, .inr ⟨.free, rfl, .inl ⟨h, e⟩⟩⟩
    · repeat walk_at "s"
      exact ⟨_, rfl, h, e⟩
    · repeat walk_at "s"
      exact ⟨_, _, _, _, rfl, .inr ⟨.round, rfl, .inl ⟨h, e⟩⟩⟩
    · repeat walk_at "s"
      intro l nl
      have sl := same_new (o := .lst [.int 0]) nl
      exact ⟨_, _, _, rfl, .inr ⟨.free, rfl, .inr ⟨(fun z => nomatch z), .inl ⟨h.up sl, fun H' s => e _ (sl.trans s)⟩⟩⟩⟩
    · repeat walk_at "s"
      intro l nl
      have sl := same_new (o := .lst [.int 0]) nl
      repeat walk_at "s"
      exact ⟨_, _, _, rfl, .inr ⟨.line, rfl, .inr ⟨(fun z => nomatch z), .inr ⟨l, [0], rfl, sqL_of upd_same, by decide, all0, .inl ⟨h.up sl, fun H' s => e _ (sl.trans s)⟩⟩⟩⟩⟩
abbrev s_law_with_peg : Stmt := topS 54
theorem sc_law_with_peg : FnScope ["door", "peg"] ["door", "peg"] (defScope s_law_with_peg) := ⟨rfl, rfl, rfl, by decide +kernel, rfl, by decide +kernel, by decide +kernel⟩

theorem ok_with_peg (D : Df K mg "_law_with_peg" s_law_with_peg ["door", "peg"]) (h_left : Has P w K mg base (L2N.CX P w) 5 "left" ["rule", "state", "peg"] (sp_leftX K ad)) (h_next_move : Has P w K mg base (L2N.CX P w) 4 "next_move" ["rule", "state", "peg"] (sp_nextX K ad))
    (h_behind : Has P w K mg base (L2N.CX P w) 5 "behind" ["rule", "state", "peg", "number"] (sp_behindX K ad)) : Has P w K mg base (L2N.CX P w) 8 "_law_with_peg" ["door", "peg"] (sp_ask (TPeg K) (ad .P)) := by
  refine D.okX sc_law_with_peg (k := 7) (fun vs H Q E h => ?_) (fun f cdv A outer s0 H vs Q E hr h => ?_)
  · obtain ⟨a, b, rfl, _⟩ := h
    rfl
  · obtain ⟨a, v, rfl, ⟨k, rfl, hk, h⟩, e⟩ := h
    refine ⟨_, pss_cons (ps_if (pt_cmpR op_lt (pv 0) pe_int (nomark _)) (pss_one (ps_ret (pe_ifExp (pt_cmpR op_eq (pv 0) pe_int (nomark _)) (pe_h h_left (hr.mono (by decide)) (passN (L2N.takes_of rfl rfl rfl rfl) fun _ _ _ _ h => h) (pa_cons pe_str (pa_cons (pe_lst (pa_cons pe_int (pa_cons pe_int pa_nil))) (pa_cons (pv 1) pa_nil)))) (pe_h h_next_move (hr.mono (by decide)) (passN (L2N.takes_of rfl rfl rfl rfl) fun _ _ _ _ h => h) (pa_cons pe_str (pa_cons (pe_lst (pa_cons pe_int (pa_cons pe_int pa_nil))) (pa_cons (pv 1) pa_nil))))))) pss_nil)
      (pss_one (ps_ret (pe_h h_behind (hr.mono (by decide)) (passN (L2N.takes_of rfl rfl rfl rfl) fun _ _ _ _ h => h) (pa_cons pe_str (pa_cons (pe_lst (pa_cons pe_int (pa_cons pe_int pa_nil))) (pa_cons (pv 1) (pa_cons (pe_un un_neg pe_int) pa_nil))))))), ?_⟩
    try dsimp only [cxOf_KX]
    have hk3 : k = 0 ∨ k = 1 ∨ k = 2 := by omega
    rcases hk3 with rfl | rfl | rfl
    · repeat walk_at "s"
      intro l nl
      have sl := same_new (o := .lst [.int 0, .int 1]) nl
      repeat walk_at "s"
      exact ⟨_, _, _, rfl, .inr ⟨.free, rfl, .inr ⟨l, [0, 1], rfl, sqL_of upd_same, by decide, all01, .inl ⟨h.up sl, fun H' s => e _ (sl.trans s)⟩⟩⟩⟩
    · repeat walk_at "s"
      intro l nl
      have sl := same_new (o := .lst [.int 0, .int 1]) nl
      repeat walk_at "s"
      exact ⟨_, _, _, rfl, .inr ⟨.line, rfl, .inr ⟨l, [0, 1], rfl, sqL_of upd_same, by decide, all01, .inl ⟨h.up sl, fun H' s => e _ (sl.trans s)⟩⟩⟩⟩
    · repeat walk_at "s"
      intro l nl
      have sl := same_new (o := .lst [.int 0, .int 1]) nl
      repeat walk_at "s"
      exact ⟨_, _, _, _, rfl, .inr ⟨.round, rfl, .inr ⟨l, [0, 1], rfl, sqL_of upd_same, by decide, all01, .inl ⟨h.up sl, fun H' s => e _ (sl.trans s)⟩⟩⟩⟩
abbrev s_law_with_moves : Stmt := topS 55
theorem sc_law_with_moves : FnScope ["door", "some"] ["door", "some"] (defScope s_law_with_moves) := ⟨rfl, rfl, rfl, by decide +kernel, rfl, by decide +kernel, by decide +kernel⟩

theorem ok_with_moves (D : Df K mg "_law_with_moves" s_law_with_moves ["door", "some"]) (h_done : Has P w K mg base (L2N.CX P w) 4 "done" ["rule", "state", "some"] (sp_doneX K ad)) : Has P w K mg base (L2N.CX P w) 8 "_law_with_moves" ["door", "some"] (sp_ask (TMoves K) (ad .M)) := by
  refine D.okX sc_law_with_moves (k := 7) (fun vs H Q E h => ?_) (fun f cdv A outer s0 H vs Q E hr h => ?_)
  · obtain ⟨a, b, rfl, _⟩ := h
    rfl
  · obtain ⟨a, v, rfl, h, e⟩ := h
    refine ⟨_, pss_one (ps_ret (pe_h h_done (hr.mono (by decide)) (passN (L2N.takes_of rfl rfl rfl rfl) fun _ _ _ _ h => h) (pa_cons pe_str (pa_cons (pe_lst (pa_cons pe_int (pa_cons pe_int pa_nil))) (pa_cons (pv 1) pa_nil))))), ?_⟩
    try dsimp only [cxOf_KX]
    repeat walk_at "s"
    intro l nl
    have sl := same_new (o := .lst [.int 0, .int 0]) nl
    repeat walk_at "s"
    refine ⟨_, _, _, rfl, .inr ⟨.free, rfl, .inr ⟨l, [0, 0], rfl, sqL_of upd_same, by decide, all00, ?_⟩⟩⟩
    rcases h with h | ⟨q, ws, os, rfl, hq, hw, hn⟩
    · exact .inl ⟨h.up sl, fun H' s => e _ (sl.trans s)⟩
    · exact .inr ⟨q, ws, os, rfl, sl.seq hq, Paired.mapP hw fun _ _ z => z.up sl, (fun s' z => by rw [hn] at z; cases z), fun _ H' s => e _ (sl.trans s)⟩
abbrev s_law_with_number : Stmt := topS 56
theorem sc_law_with_number : FnScope ["told", "number"] ["told", "number"] (defScope s_law_with_number) := ⟨rfl, rfl, rfl, by decide +kernel, rfl, by decide +kernel, by decide +kernel⟩

theorem ok_with_number (D : Df K mg "_law_with_number" s_law_with_number ["told", "number"]) (h_behind : Has P w K mg base (L2N.CX P w) 5 "behind" ["rule", "state", "peg", "number"] (sp_behindX K ad)) : Has P w K mg base (L2N.CX P w) 8 "_law_with_number" ["told", "number"] (sp_ask (TNumber K) (ad .N)) := by
  refine D.okX sc_law_with_number (k := 7) (fun vs H Q E h => ?_) (fun f cdv A outer s0 H vs Q E hr h => ?_)
  · obtain ⟨a, b, rfl, _⟩ := h
    rfl
  · obtain ⟨a, v, rfl, ⟨t, p, r, s, g, o, rfl, ht, hs, hz, hp, hg, hv, hl⟩, e⟩ := h
    refine ⟨_, pss_one (ps_ret (pe_h h_behind (hr.mono (by decide)) (passN (L2N.takes_of rfl rfl rfl rfl) fun _ _ _ _ h => h) (pa_cons (pe_ix ix_tup (pv 0) pe_int (fun _ _ => rfl)) (pa_cons (pe_ix ix_tup (pv 0) pe_int (fun _ _ => rfl)) (pa_cons (pe_ix ix_tup (pv 0) pe_int (fun _ _ => rfl)) (pa_cons (pv 1) pa_nil)))))), ?_⟩
    try dsimp only [cxOf_KX]
    repeat walk_at "s"
    refine rd_ixT ht (v := .str r.s) rfl ?_
    repeat walk_at "s"
    refine rd_ixT ht (v := .ref p) rfl ?_
    repeat walk_at "s"
    refine rd_ixT ht (v := .int g) rfl ?_
    repeat walk_at "s"
    exact ⟨_, _, _, _, rfl, .inr ⟨r, rfl, .inr ⟨p, s, rfl, hs, hz, hp, .inr ⟨g, rfl, hg, o, hv, hl, e⟩⟩⟩⟩
abbrev s_law_discs : Stmt := topS 57
theorem sc_law_discs : FnScope ["discs", "number"] ["discs", "number"] (defScope s_law_discs) := ⟨rfl, rfl, rfl, by decide +kernel, rfl, by decide +kernel, by decide +kernel⟩

theorem ok_discs (D : Df K mg "_law_discs" s_law_discs ["discs", "number"]) (h_state_of : Has P w K mg base (L2N.CX P w) 2 "state_of" ["discs", "number"] (sp_stateX K ad)) : Has P w K mg base (L2N.CX P w) 8 "_law_discs" ["discs", "number"] (sp_ask (TDiscs K) (ad .N)) := by
  refine D.okX sc_law_discs (k := 7) (fun vs H Q E h => ?_) (fun f cdv A outer s0 H vs Q E hr h => ?_)
  · obtain ⟨a, b, rfl, _⟩ := h
    rfl
  · obtain ⟨a, v, rfl, ⟨oa, ob, h1, h2, h3⟩, e⟩ := h
    refine ⟨_, pss_one (ps_ret (pe_h h_state_of (hr.mono (by decide)) (passN (L2N.takes_of rfl rfl rfl rfl) fun _ _ _ _ h => h) (pa_cons (pv 0) (pa_cons (pv 1) pa_nil)))), ?_⟩
    try dsimp only [cxOf_KX]
    repeat walk_at "s"
    exact ⟨_, _, oa, ob, rfl, h1, h2, h3, e⟩
abbrev s_law_two : Stmt := topS 58
theorem sc_law_two : FnScope ["one", "other"] ["one", "other"] (defScope s_law_two) := ⟨rfl, rfl, rfl, by decide +kernel, rfl, by decide +kernel, by decide +kernel⟩

theorem ok_two (D : Df K mg "_law_two" s_law_two ["one", "other"]) (h_apart : Has P w K mg base (L2N.CX P w) 4 "apart" ["rule", "one", "other"] (sp_apartX K ad)) : Has P w K mg base (L2N.CX P w) 8 "_law_two" ["one", "other"] (sp_ask (TTwo K) (ad .U)) := by
  refine D.okX sc_law_two (k := 7) (fun vs H Q E h => ?_) (fun f cdv A outer s0 H vs Q E hr h => ?_)
  · obtain ⟨a, b, rfl, _⟩ := h
    rfl
  · obtain ⟨a, v, rfl, ⟨p, q, s, s', rfl, rfl, h1, h2, h3, h4, h5, h6, h7⟩, e⟩ := h
    refine ⟨_, pss_one (ps_ret (pe_h h_apart (hr.mono (by decide)) (passN (L2N.takes_of rfl rfl rfl rfl) fun _ _ _ _ h => h) (pa_cons pe_str (pa_cons (pv 0) (pa_cons (pv 1) pa_nil))))), ?_⟩
    try dsimp only [cxOf_KX]
    repeat walk_at "s"
    exact ⟨_, _, _, rfl, .inr ⟨.line, rfl, .inr ⟨(fun z => nomatch z), .inr ⟨p, s, rfl, h1, h3, h5, .inr ⟨q, s', rfl, h2, h4, h6, h7, e⟩⟩⟩⟩⟩
abbrev s_law_two_free : Stmt := topS 59
theorem sc_law_two_free : FnScope ["one", "other"] ["one", "other"] (defScope s_law_two_free) := ⟨rfl, rfl, rfl, by decide +kernel, rfl, by decide +kernel, by decide +kernel⟩

theorem ok_two_free (D : Df K mg "_law_two_free" s_law_two_free ["one", "other"]) (h_apart : Has P w K mg base (L2N.CX P w) 4 "apart" ["rule", "one", "other"] (sp_apartX K ad)) : Has P w K mg base (L2N.CX P w) 8 "_law_two_free" ["one", "other"] (sp_ask (TTwo K) (ad .U)) := by
  refine D.okX sc_law_two_free (k := 7) (fun vs H Q E h => ?_) (fun f cdv A outer s0 H vs Q E hr h => ?_)
  · obtain ⟨a, b, rfl, _⟩ := h
    rfl
  · obtain ⟨a, v, rfl, ⟨p, q, s, s', rfl, rfl, h1, h2, h3, h4, h5, h6, h7⟩, e⟩ := h
    refine ⟨_, pss_one (ps_ret (pe_h h_apart (hr.mono (by decide)) (passN (L2N.takes_of rfl rfl rfl rfl) fun _ _ _ _ h => h) (pa_cons pe_str (pa_cons (pv 0) (pa_cons (pv 1) pa_nil))))), ?_⟩
    try dsimp only [cxOf_KX]
    repeat walk_at "s"
    exact ⟨_, _, _, rfl, .inr ⟨.free, rfl, .inr ⟨(fun z => nomatch z), .inr ⟨p, s, rfl, h1, h3, h5, .inr ⟨q, s', rfl, h2, h4, h6, h7, e⟩⟩⟩⟩⟩
end
end Peg

namespace Peg
open PySem PyProof.Rows L2
local macro_rules | `(tactic| walk_at "s") => `(tactic| with_reducible first
  | refine rd_seq ?_ | refine rd_asgN ?_ | refine rd_asgT ?_ | refine rd_ret ?_ | refine rd_drop ?_ | refine rd_ifs ?_ | refine rd_next ?_ | refine rd_par ?_ | refine rd_par2 ?_ | refine rd_par3 ?_ | refine rd_par33 ?_
  | refine rd_c ?_ | refine rd_op ?_ | refine rd_un ?_ | refine rd_rU ?_ | refine rd_rI0 ?_ | refine rd_test ?_ | refine rd_tB ?_ | refine rd_bl ?_ | refine rd_and ?_ | refine rd_or ?_ | refine rd_not ?_
  | refine rd_andV ?_ | refine rd_orV ?_ | refine rd_notV ?_ | refine rd_ife ?_ | refine rd_nil ?_ | refine rd_cons ?_ | refine rd_call ?_ | refine rd_cb ?_ | refine rd_bm ?_ | refine rd_bm0 ?_ | refine rd_gN ?_ | refine rd_tupN ?_ | refine rd_lstN ?_ | refine rd_ipI ?_
  | refine rd_rev ?_ | refine rd_sl ?_ | refine rd_noP ?_ | refine rd_part ?_ | refine rd_int1 ?_ | refine rd_chain ?_ | refine rd_isiI ?_ | refine rd_isiB ?_ | refine rd_isiS ?_ | refine rd_lc ?_ | refine rd_gC ?_ | refine rd_gNil ?_ | refine rd_for ?_ | refine rd_while ?_ | refine rd_iR1 ?_ | refine rd_iR2 ?_ | refine rd_iL ?_ | refine rd_iT ?_ | refine rd_iE ?_ | refine rd_iV ?_ | refine rd_iRR ?_ | refine rd_tRg1 ?_ | refine rd_eqF ?_ | refine rd_eqL ?_ | refine rd_eqR ?_ | refine rd_neRound ?_ | refine rd_whole ?_ | refine rd_eqI ?_ | refine rd_neI ?_ | refine rd_neB ?_ | refine rd_min ?_ | refine rd_max ?_
  | (refine rd_var (v := ?v) ?e ?_; case e => with_unfolding_all exact rfl)
  | (refine rd_aug (x := ?x) ?e ?_; case e => with_unfolding_all exact rfl)
  | (refine rd_rEq ?c ?_; case c => with_unfolding_all exact rfl)
  | (refine rd_rNe ?c ?_; case c => with_unfolding_all exact rfl)
  | (refine rd_mulL ?c ?_; case c => with_unfolding_all decide)
  | (refine rd_mulR ?c ?_; case c => with_unfolding_all decide)
  | (refine rd_modP ?c ?_; case c => with_unfolding_all decide)
  | (refine rd_divP ?c ?_; case c => with_unfolding_all decide)
  | (refine rd_ifT ?c ?_; case c => with_unfolding_all decide)
  | (refine rd_ifF ?c ?_; case c => with_unfolding_all decide)
  | (refine rd_sz ?c ?_; case c => with_unfolding_all exact rfl)
  | refine rd_abs ?_ | refine rd_lRg ?_ | refine rd_dnewN ?_ | refine rd_iR3 ?_ | refine rd_is_near ?_)

section
variable {P : Program} {w : World} {K : PySem.W.Frag} {mg : Str → Option Value} {base : Heap} {ad : Ec → Addr}
abbrev s_law_numbers_right : Stmt := topS 62
theorem sc_law_numbers_right : FnScope ["state", "due", "far", "rule", "peg", "many", "beyond", "whole"] ["state", "due", "far"] (defScope s_law_numbers_right) := ⟨rfl, rfl, rfl, by decide +kernel, rfl, by decide +kernel, by decide +kernel⟩

theorem ok_nums (D : Df K mg "_law_numbers_right" s_law_numbers_right ["state", "due", "far"]) (B : Blt mg) {f_law_with_number f_law_discs : Addr} (m_law_with_number : mg "_law_with_number" = some (.ref f_law_with_number)) (m_law_discs : mg "_law_discs" = some (.ref f_law_discs))
    (aN : Ask P w K mg base f_law_with_number (TNumber K) (ad .N)) (aD : Ask P w K mg base f_law_discs (TDiscs K) (ad .N)) (h_left : Has P w K mg base (L2N.CX P w) 5 "left" ["rule", "state", "peg"] (sp_leftX K ad))
    (h_law_all : Has P w K mg base CX0 10 "_law_all" ["ask", "doors", "things", "due"] (sp_allX P w K mg base ad)) : Has P w K mg base CX0 11 "_law_numbers_right" ["state", "due", "far"] (sp_numsX K) := by
  refine D.ok sc_law_numbers_right (fun vs H Q E h => ?_) (fun f cdv A outer s0 H vs Q E hr h => ?_)
  · obtain ⟨p, pu, us, s, far, rfl, _⟩ := h
    rfl
  · obtain ⟨p, pu, us, s, far, rfl, hs, hz, hp, hu, ⟨dq, hdq, hq⟩, f0, f1, q⟩ := h
    refine ⟨_, pss_cons (ps_for PassesOwn.never rfl (pi_tup (pe_tup (pa_cons pe_str (pa_cons pe_str (pa_cons pe_str pa_nil))))) (pg_name (i := 3) sc_law_numbers_right.nd rfl (by first | exact Or.inl rfl | exact Or.inr rfl))
        (pss_cons (ps_set (i := 4) sc_law_numbers_right.nd rfl (by first | exact Or.inl rfl | exact Or.inr rfl) (pe_op op_mod (pe_op op_add (pv 2) (pe_callB call_len_str (by rfl) B.len (by decide +kernel) (pa_cons (pv 3) pa_nil))) pe_int))
        (pss_cons (ps_set (i := 5) sc_law_numbers_right.nd rfl (by first | exact Or.inl rfl | exact Or.inr rfl) (pe_h h_left (hr.mono (by decide)) passNL (pa_cons (pv 3) (pa_cons (pv 0) (pa_cons (pv 4) pa_nil)))))
        (pss_cons (ps_set (i := 6) sc_law_numbers_right.nd rfl (by first | exact Or.inl rfl | exact Or.inr rfl) (pe_lst (pa_cons pe_non (pa_cons pe_str (pa_cons pe_bl (pa_cons (pe_lst (pa_cons pe_int pa_nil)) (pa_cons (pe_un un_neg pe_int) (pa_cons (pe_op op_sub (pe_un un_neg pe_int) (pv 2)) (pa_cons (pe_op op_add (pv 5) pe_int) (pa_cons (pe_op op_add (pe_op op_add (pv 5) pe_int) (pv 2)) pa_nil))))))))))
        (pss_one (ps_if (pt_not (pt_val (pe_h h_law_all (hr.mono (by decide)) pass0 (pa_cons (pe_glob (v := .ref f_law_with_number) rfl m_law_with_number rfl) (pa_cons (pe_lst (pa_cons (pe_tup (pa_cons (pv 3) (pa_cons (pv 0) (pa_cons (pv 4) pa_nil)))) pa_nil)) (pa_cons (pv 6) (pa_cons (pe_ix ix_list (pv 1) pe_int (fun _ _ => rfl)) pa_nil))))))) (pss_one (ps_ret pe_bl)) pss_nil))))))
      (pss_cons (ps_set (i := 7) sc_law_numbers_right.nd rfl (by first | exact Or.inl rfl | exact Or.inr rfl) pe_int)
      (pss_cons (ps_for PassesOwn.never rfl (pi_list (pv 0)) (pg_name (i := 4) sc_law_numbers_right.nd rfl (by first | exact Or.inl rfl | exact Or.inr rfl))
        (pss_one (ps_set (i := 7) sc_law_numbers_right.nd rfl (by first | exact Or.inl rfl | exact Or.inr rfl) (pe_op op_mul pe_int (pv 7)))))
      (pss_cons (ps_if (pt_not (pt_val (pe_h h_law_all (hr.mono (by decide)) pass0 (pa_cons (pe_glob (v := .ref f_law_discs) rfl m_law_discs rfl) (pa_cons (pe_lst (pa_cons (pe_callB ca_len (by rfl) B.len (by decide +kernel) (pa_cons (pv 0) pa_nil)) pa_nil)) (pa_cons (pe_lst (pa_cons pe_non (pa_cons pe_str (pa_cons pe_bl (pa_cons (pe_lst (pa_cons pe_int pa_nil)) (pa_cons (pe_un un_neg pe_int) (pa_cons (pe_op op_sub (pe_un un_neg pe_int) (pv 2)) (pa_cons (pv 7) (pa_cons (pe_op op_add (pv 7) (pv 2)) pa_nil))))))))) (pa_cons (pe_ix ix_list (pv 1) pe_int (fun _ _ => rfl)) pa_nil))))))) (pss_one (ps_ret pe_bl)) pss_nil)
      (pss_one (ps_ret (pe_h h_law_all (hr.mono (by decide)) pass0 (pa_cons (pe_glob (v := .ref f_law_discs) rfl m_law_discs rfl) (pa_cons (pe_lst (pa_cons pe_non (pa_cons pe_str (pa_cons pe_bl (pa_cons (pe_un un_neg pe_int) (pa_cons (pe_op op_sub (pe_un un_neg pe_int) (pv 2)) (pa_cons (pe_lst (pa_cons pe_int pa_nil)) pa_nil))))))) (pa_cons (pe_lst (pa_cons pe_int (pa_cons pe_non pa_nil))) (pa_cons (pe_ix ix_list (pv 1) pe_int (fun _ _ => rfl)) pa_nil)))))))))), ?_⟩
    try dsimp only [cxOf_K]
    repeat walk_at "s"
    refine new_t fun t0 H1 n1 e1 g1 => ?_
    repeat walk_at "s"
    refine rd_t1 (sqT_of g1) ?_
    refine for_t (xs := [.str "free", .str "line", .str "round"]) (fun i σ H' => ∃ (x3 x4 x5 x6 : Option V), σ = [some (.ref p), some (.ref pu), some (.int far), x3, x4, x5, x6, none] ∧ Same H1 H') ⟨none, none, none, none, rfl, Same.refl _⟩ (fun i σ H' _ ⟨_, _, _, _, _, e⟩ => sqT_mono e (sqT_of g1)) ?_ ?_
    · rintro i x σ H' hx ⟨_, _, _, _, rfl, eH⟩
      have e1H := e1.trans eH
      obtain ⟨r, rfl⟩ : ∃ r : Rule, x = .str r.s := by
        have hx := List.mem_of_getElem? hx
        simp only [List.mem_cons, List.not_mem_nil, or_false] at hx
        rcases hx with rfl | rfl | rfl
        · exact ⟨.free, rfl⟩
        · exact ⟨.line, rfl⟩
        · exact ⟨.round, rfl⟩
      repeat walk_at "s"
      refine ⟨_, rfl, sz_of (Nat.le_trans (s_len r) (by decide)), ?_⟩
      repeat walk_at "s"
      have hg0 : 0 ≤ (far + (r.s.length : Int)) % 3 := Int.emod_nonneg _ (by decide)
      have hg1 : (far + (r.s.length : Int)) % 3 < 3 := Int.emod_lt_of_pos _ (by decide)
      generalize (far + (r.s.length : Int)) % 3 = g at *
      have hg3 : P3 g := P3.of hg0 hg1
      refine ⟨_, _, _, rfl, .inr ⟨r, rfl, .inr ⟨p, s, rfl, e1H.seq hs, by omega, hp, .inr ⟨g, rfl, hg3, fun H2 e2 => ?_⟩⟩⟩⟩
      repeat walk_at "s"
      refine new_l fun l0 H3 n3 e3 g3 => ?_
      repeat walk_at "s"
      refine new_l fun lb H4 n4 e4 g4 => ?_
      repeat walk_at "s"
      refine new_t fun t5 H5 n5 e5 g5 => ?_
      repeat walk_at "s"
      refine new_l fun l6 H6 n6 e6 g6 => ?_
      have E36 := (e4.trans e5).trans e6
      have E := e1H.trans ((e2.trans e3).trans E36)
      repeat walk_at "s"
      refine rd_ixL (E.seq hu) (atI_nat (j := 4) hdq) ?_
      repeat walk_at "s"
      refine ⟨f_law_with_number, l6, lb, dq, TNumber K, .N, _, _, rfl, aN, sqL_of g6, sqL_of ((e5.trans e6) _ _ g4), E.seq hq, (show 8 ≤ 1000 by decide), fun H7 e7 d hd v hv => ?_, fun H7 e7 => ?_⟩
      · have hv : ∃ o, Wh K H7 v o ∧ ∀ i, o = some i → 0 ≤ i → L r s.reverse g < i := by
          simp only [List.mem_cons, List.not_mem_nil, or_false] at hv
          rcases hv with rfl | rfl | rfl | rfl | rfl | rfl | rfl | rfl
          · exact ⟨none, .no .non, fun i z => nomatch z⟩
          · exact ⟨none, .no .str, fun i z => nomatch z⟩
          · exact ⟨none, .bl _, fun i z => nomatch z⟩
          · exact ⟨none, .no (.lst (sqL_of ((E36.trans e7) _ _ g3))), fun i z => nomatch z⟩
          · exact ⟨_, .int _, fun i z h => by cases z; omega⟩
          · exact ⟨_, .int _, fun i z h => by cases z; omega⟩
          · exact ⟨_, .int _, fun i z h => by cases z; omega⟩
          · exact ⟨_, .int _, fun i z h => by cases z; omega⟩
        obtain ⟨o, w1, w2⟩ := hv
        exact ⟨t5, p, r, s, g, o, List.mem_singleton.mp hd, sqT_mono (e6.trans e7) (sqT_of g5), (E.trans e7).seq hs, by omega, hp, hg3, w1, w2⟩
      · repeat walk_at "s"
        exact ⟨_, _, _, _, rfl, eH.trans ((e2.trans e3).trans (E36.trans e7))⟩
    · rintro σ H' ⟨x3, x4, x5, x6, rfl, eH⟩
      have e1H := e1.trans eH
      repeat walk_at "s"
      refine rd_l1 (e1H.seq hs) ?_
      refine for_l (xs := s.map V.int) (fun i σ H2 => ∃ (x4 : Option V), σ = [some (.ref p), some (.ref pu), some (.int far), x3, x4, x5, x6, some (.int (3 ^ i))] ∧ H' = H2) ⟨_, rfl, rfl⟩ (fun i σ H' _ ⟨_, _, e⟩ => e ▸ e1H.seq hs) ?_ ?_
      · rintro i x σ H2 hx ⟨_, rfl, rfl⟩
        repeat walk_at "s"
        refine ⟨some x, ?_, rfl⟩
        rw [Int.pow_succ, Int.mul_comm]
        rfl
      rintro σ H2 ⟨y4, rfl, rfl⟩
      rw [List.length_map]
      repeat walk_at "s"
      refine rd_lenL (e1H.seq hs) ?_
      rw [List.length_map]
      repeat walk_at "s"
      refine new_l fun l1 H2 n2 e2 g2 => ?_
      repeat walk_at "s"
      refine new_l fun l2 H3 n3 e3 g3 => ?_
      repeat walk_at "s"
      refine new_l fun l3 H4 n4 e4 g4 => ?_
      have E24 := e3.trans e4
      have E := e1H.trans (e2.trans E24)
      repeat walk_at "s"
      refine rd_ixL (E.seq hu) (atI_nat (j := 4) hdq) ?_
      repeat walk_at "s"
      refine ⟨f_law_discs, l1, l3, dq, TDiscs K, .N, _, _, rfl, aD, sqL_of (E24 _ _ g2), sqL_of g4, E.seq hq, (show 8 ≤ 1000 by decide), fun H5 e5 d hd v hv => ?_, fun H5 e5 => ?_⟩
      · have hv : ∃ o, Wh K H5 v o ∧ ∀ i, o = some i → 0 ≤ i → 3 ^ s.length ≤ i := by
          simp only [List.mem_cons, List.not_mem_nil, or_false] at hv
          rcases hv with rfl | rfl | rfl | rfl | rfl | rfl | rfl | rfl
          · exact ⟨none, .no .non, fun i z => nomatch z⟩
          · exact ⟨none, .no .str, fun i z => nomatch z⟩
          · exact ⟨none, .bl _, fun i z => nomatch z⟩
          · exact ⟨none, .no (.lst (sqL_of ((e4.trans e5) _ _ g3))), fun i z => nomatch z⟩
          · exact ⟨_, .int _, fun i z h => by cases z; omega⟩
          · exact ⟨_, .int _, fun i z h => by cases z; omega⟩
          · exact ⟨_, .int _, fun i z h => by cases z; exact Int.le_refl _⟩
          · exact ⟨_, .int _, fun i z h => by cases z; exact Int.le_add_of_nonneg_right f0⟩
        obtain ⟨o, w1, w2⟩ := hv
        rw [List.mem_singleton.mp hd]
        refine ⟨_, o, .int _, w1, fun n i z1 z2 h1 h2 => ?_⟩
        cases z1
        rw [Int.toNat_natCast]
        exact ⟨by omega, w2 i z2 h2⟩
      repeat walk_at "s"
      refine new_l fun l6 H6 n6 e6 g6 => ?_
      repeat walk_at "s"
      refine new_l fun l7 H7 n7 e7 g7 => ?_
      repeat walk_at "s"
      refine new_l fun l8 H8 n8 e8 g8 => ?_
      have E68 := e7.trans e8
      have E' := (E.trans e5).trans (e6.trans E68)
      repeat walk_at "s"
      refine rd_ixL (E'.seq hu) (atI_nat (j := 4) hdq) ?_
      refine ⟨f_law_discs, l7, l8, dq, TDiscs K, .N, _, _, rfl, aD, sqL_of (e8 _ _ g7), sqL_of g8, E'.seq hq, (show 2 ≤ 1000 by decide), fun H9 e9 d hd v hv => ?_, fun H9 e9 => q _ (E'.trans e9)⟩
      have hd : ∃ o, Wh K H9 d o ∧ ∀ i, o = some i → ¬ 0 ≤ i := by
        simp only [List.mem_cons, List.not_mem_nil, or_false] at hd
        rcases hd with rfl | rfl | rfl | rfl | rfl | rfl
        · exact ⟨none, .no .non, fun i z => nomatch z⟩
        · exact ⟨none, .no .str, fun i z => nomatch z⟩
        · exact ⟨none, .bl _, fun i z => nomatch z⟩
        · exact ⟨_, .int _, fun i z h => by cases z; omega⟩
        · exact ⟨_, .int _, fun i z h => by cases z; omega⟩
        · exact ⟨none, .no (.lst (sqL_of ((E68.trans e9) _ _ g6))), fun i z => nomatch z⟩
      have hv : ∃ o, Wh K H9 v o := by
        simp only [List.mem_cons, List.not_mem_nil, or_false] at hv
        rcases hv with rfl | rfl
        · exact ⟨_, .int _⟩
        · exact ⟨none, .no .non⟩
      obtain ⟨o, w1, w2⟩ := hd
      obtain ⟨o2, w3⟩ := hv
      exact ⟨o, o2, w1, w3, fun n i z1 z2 h1 h2 => absurd h1 (w2 n z1)⟩
abbrev s_law : Stmt := topS 63
theorem sc_law : FnScope ["script", "far", "due", "k", "state", "many", "kept", "rules", "bad", "at", "some", "ask"] ["script"] (defScope s_law) := ⟨rfl, rfl, rfl, by decide +kernel, rfl, by decide +kernel, by decide +kernel⟩

set_option maxHeartbeats 8000000 in
theorem ok_law {f0 : Addr} {fd0 : FuncData} (D : DefAt K mg "law" s_law ["script"] f0 fd0) (B : Blt mg) {f_law_with_rule f_law_with_state f_law_with_peg f_law_with_moves f_law_two f_law_two_free : Addr} (m_law_with_rule : mg "_law_with_rule" = some (.ref f_law_with_rule)) (m_law_with_state : mg "_law_with_state" = some (.ref f_law_with_state))
    (m_law_with_peg : mg "_law_with_peg" = some (.ref f_law_with_peg)) (m_law_with_moves : mg "_law_with_moves" = some (.ref f_law_with_moves)) (m_law_two : mg "_law_two" = some (.ref f_law_two)) (m_law_two_free : mg "_law_two_free" = some (.ref f_law_two_free))
    (aR : Ask P w K mg base f_law_with_rule (TRule K) (ad .R)) (aS : Ask P w K mg base f_law_with_state (TState K) (ad .S)) (aP : Ask P w K mg base f_law_with_peg (TPeg K) (ad .P)) (aM : Ask P w K mg base f_law_with_moves (TMoves K) (ad .M)) (aU : Ask P w K mg base f_law_two (TTwo K) (ad .U)) (aV : Ask P w K mg base f_law_two_free (TTwo K) (ad .U))
    (h_law_cell_at : Has P w K mg base CX0 1 "_law_cell_at" ["script", "k"] (sp_cell K)) (h_law_state : Has P w K mg base CX0 2 "_law_state" ["script", "by"] (sp_state K)) (h_law_told : Has P w K mg base CX0 9 "_law_told" ["ask", "one", "other"] (sp_toldX P w K mg base ad))
    (h_law_all : Has P w K mg base CX0 10 "_law_all" ["ask", "doors", "things", "due"] (sp_allX P w K mg base ad)) (h_law_numbers_right : Has P w K mg base CX0 11 "_law_numbers_right" ["state", "due", "far"] (sp_numsX K))
    (h_done : Has P w K mg base (L2N.CX P w) 4 "done" ["rule", "state", "some"] (sp_doneX K ad)) (h_left : Has P w K mg base (L2N.CX P w) 5 "left" ["rule", "state", "peg"] (sp_leftX K ad)) : FnOk P w K mg base CX0 12 f0 fd0 ["script"] (sp_law K) := by
  refine D.okF sc_law (fun vs H Q E h => ?_) (fun f cdv A outer s0 H vs Q E hr h => ?_)
  · obtain ⟨a, ns, rfl, _⟩ := h
    rfl
  · obtain ⟨a, ns, rfl, hs, hz, q⟩ := h
    refine ⟨_, pss_cons (ps_set (i := 1) sc_law.nd rfl (by first | exact Or.inl rfl | exact Or.inr rfl) (pe_op op_mod (pe_h h_law_cell_at (hr.mono (by decide)) pass0 (pa_cons (pv 0) (pa_cons pe_int pa_nil))) (pe_op op_pow pe_int pe_int)))
      (pss_cons (ps_set (i := 2) sc_law.nd rfl (by first | exact Or.inl rfl | exact Or.inr rfl) (pe_lst pa_nil))
      (pss_cons (ps_for PassesOwn.never rfl (pi_range1 (by rfl) B.range (pa_cons pe_int pa_nil)) (pg_name (i := 3) sc_law.nd rfl (by first | exact Or.inl rfl | exact Or.inr rfl))
        (pss_one (ps_expr (pe_bm PySem.F.plainAttrs_list PySem.F.slot_list_append PySem.F.type_list_append mt_append (pv 2) (pa_cons (pe_lst (pa_cons (pe_cmpR op_eq (pv 3) pe_int (nomark _)) (pa_cons (pe_cmpR op_eq (pv 3) pe_int (nomark _)) (pa_cons (pe_cmpR op_eq (pv 3) pe_int (nomark _)) (pa_cons (pe_cmpR op_eq (pv 3) pe_int (nomark _)) (pa_cons (pe_cmpR op_eq (pv 3) pe_int (nomark _)) (pa_cons (pe_cmpR op_eq (pv 3) pe_int (nomark _)) (pa_cons pe_bl (pa_cons pe_bl pa_nil))))))))) pa_nil)))))
      (pss_cons (ps_set (i := 4) sc_law.nd rfl (by first | exact Or.inl rfl | exact Or.inr rfl) (pe_h h_law_state (hr.mono (by decide)) pass0 (pa_cons (pv 0) (pa_cons pe_int pa_nil))))
      (pss_cons (ps_par (i := 5) (j := 6) rfl sc_law.nd rfl rfl (by decide) rfl rfl (pa_cons (pe_callB ca_len (by rfl) B.len (by decide +kernel) (pa_cons (pv 4) pa_nil)) (pa_cons (pe_callTy ca_list (by rfl) B.list (by decide +kernel) (pa_cons (pv 4) pa_nil)) pa_nil)) rfl)
      (pss_cons (ps_set (i := 7) sc_law.nd rfl (by first | exact Or.inl rfl | exact Or.inr rfl) (pe_lst (pa_cons pe_non (pa_cons pe_int (pa_cons pe_str (pa_cons pe_str (pa_cons pe_str (pa_cons (pe_lst (pa_cons pe_str pa_nil)) (pa_cons pe_bl (pa_cons pe_str (pa_cons (pe_tup (pa_cons pe_str pa_nil)) pa_nil)))))))))))
      (pss_cons (ps_if (PW.pt (pw_or (pt_not (pt_val (pe_h h_law_all (hr.mono (by decide)) pass0 (pa_cons (pe_glob (v := .ref f_law_with_rule) rfl m_law_with_rule rfl) (pa_cons (pe_listRg rfl rfl B.list (prg_1 (by rfl) B.range pe_int)) (pa_cons (pv 7) (pa_cons (pe_ix ix_list (pv 2) pe_int (fun _ _ => rfl)) pa_nil))))))) (pw_or1 (pt_cmpR (op_neD hr.units) (pe_h h_law_told (hr.mono (by decide)) pass0 (pa_cons (pe_glob (v := .ref f_law_with_rule) rfl m_law_with_rule rfl) (pa_cons pe_int (pa_cons pe_str pa_nil)))) (pe_ix ix_list (pv 2) pe_int (fun _ _ => rfl)) (nomark _))))) (pss_one (ps_ret pe_bl)) pss_nil)
      (pss_cons (ps_set (i := 8) sc_law.nd rfl (by first | exact Or.inl rfl | exact Or.inr rfl) (pe_lst (pa_cons pe_non (pa_cons (pe_tup pa_nil) (pa_cons (pe_tup (pa_cons pe_int pa_nil)) (pa_cons pe_str (pa_cons pe_dnewK (pa_cons pe_int (pa_cons (pe_lst (pa_cons pe_non pa_nil)) (pa_cons (pe_lst (pa_cons pe_str pa_nil)) (pa_cons (pe_lst (pa_cons pe_bl pa_nil)) (pa_cons (pe_lst (pa_cons pe_int pa_nil)) (pa_cons (pe_lst (pa_cons (pe_op op_add pe_int (pv 1)) pa_nil)) (pa_cons (pe_lst (pa_cons (pe_un un_neg pe_int) pa_nil)) (pa_cons (pe_lst (pa_cons (pe_op op_sub (pe_un un_neg pe_int) (pv 1)) pa_nil)) (pa_cons (pe_lst (pa_cons (pe_lst (pa_cons pe_int pa_nil)) pa_nil)) (pa_cons (pe_lst (pa_cons pe_int (pa_cons pe_int (pa_cons pe_int pa_nil)))) pa_nil)))))))))))))))))
      (pss_cons (ps_for PassesOwn.never rfl (pi_range3 (by rfl) B.range (pa_cons pe_int (pa_cons (pv 5) (pa_cons (pe_op op_add pe_int (pe_op op_fdiv (pv 5) pe_int)) pa_nil)))) (pg_name (i := 9) sc_law.nd rfl (by first | exact Or.inl rfl | exact Or.inr rfl))
        (pss_one (ps_expr (pe_bm PySem.F.plainAttrs_list PySem.F.slot_list_append PySem.F.type_list_append mt_append (pv 8) (pa_cons (pe_op op_cat (pe_op op_cat (pe_slice sl_list (pv 4) po_none (po_some (pv 9))) (pe_lst (pa_cons (pe_ix ix_tup (pe_tup (pa_cons pe_non (pa_cons pe_str (pa_cons pe_bl (pa_cons (pe_op op_add pe_int (pv 1)) (pa_cons (pe_un un_neg pe_int) pa_nil)))))) (pe_op op_mod (pv 9) pe_int) (fun _ _ => rfl)) pa_nil))) (pe_slice sl_list (pv 4) (po_some (pe_op op_add (pv 9) pe_int)) po_none)) pa_nil)))))
      (pss_cons (ps_if (pt_not (pt_val (pe_h h_law_all (hr.mono (by decide)) pass0 (pa_cons (pe_glob (v := .ref f_law_with_state) rfl m_law_with_state rfl) (pa_cons (pe_listRg rfl rfl B.list (prg_1 (by rfl) B.range pe_int)) (pa_cons (pv 8) (pa_cons (pe_ix ix_list (pv 2) pe_int (fun _ _ => rfl)) pa_nil))))))) (pss_one (ps_ret pe_bl)) pss_nil)
      (pss_cons (ps_if (pt_not (pt_val (pe_h h_law_all (hr.mono (by decide)) pass0 (pa_cons (pe_glob (v := .ref f_law_with_peg) rfl m_law_with_peg rfl) (pa_cons (pe_lst (pa_cons pe_int (pa_cons pe_int (pa_cons pe_int pa_nil)))) (pa_cons (pe_lst (pa_cons pe_non (pa_cons pe_str (pa_cons pe_bl (pa_cons pe_int (pa_cons (pe_op op_add pe_int (pv 1)) (pa_cons (pe_un un_neg pe_int) (pa_cons (pe_op op_sub (pe_un un_neg pe_int) (pv 1)) (pa_cons (pe_lst (pa_cons pe_int pa_nil)) pa_nil))))))))) (pa_cons (pe_ix ix_list (pv 2) pe_int (fun _ _ => rfl)) pa_nil))))))) (pss_one (ps_ret pe_bl)) pss_nil)
      (pss_cons (ps_set (i := 10) sc_law.nd rfl (by first | exact Or.inl rfl | exact Or.inr rfl) (pe_lst (pa_cons pe_non (pa_cons (pe_tup pa_nil) (pa_cons pe_str (pa_cons pe_int (pa_cons (pe_lst (pa_cons pe_non pa_nil)) (pa_cons (pe_lst (pa_cons pe_int pa_nil)) (pa_cons (pe_lst (pa_cons (pe_tup pa_nil) pa_nil)) (pa_cons (pe_lst (pa_cons (pe_tup (pa_cons pe_int pa_nil)) pa_nil)) (pa_cons (pe_lst (pa_cons (pe_tup (pa_cons pe_int (pa_cons pe_int (pa_cons pe_int pa_nil)))) pa_nil)) (pa_cons (pe_lst (pa_cons (pe_tup (pa_cons pe_int (pa_cons pe_int pa_nil))) pa_nil)) (pa_cons (pe_lst (pa_cons (pe_tup (pa_cons pe_int (pa_cons pe_int pa_nil))) pa_nil)) (pa_cons (pe_lst (pa_cons (pe_tup (pa_cons pe_int (pa_cons pe_int pa_nil))) pa_nil)) (pa_cons (pe_lst (pa_cons (pe_tup (pa_cons pe_int (pa_cons pe_int pa_nil))) pa_nil)) (pa_cons (pe_lst (pa_cons (pe_lst (pa_cons pe_int (pa_cons pe_int pa_nil))) pa_nil)) pa_nil))))))))))))))))
      (pss_cons (ps_set (i := 10) sc_law.nd rfl (by first | exact Or.inl rfl | exact Or.inr rfl) (pe_op op_cat (pv 10) (pe_lst (pa_cons (pe_lst (pa_cons (pe_tup (pa_cons pe_int (pa_cons pe_bl pa_nil))) pa_nil)) (pa_cons (pe_lst (pa_cons (pe_tup (pa_cons pe_bl (pa_cons pe_int pa_nil))) pa_nil)) (pa_cons (pe_lst (pa_cons (pe_tup (pa_cons pe_str (pa_cons pe_int pa_nil))) pa_nil)) (pa_cons (pe_lst (pa_cons (pe_tup (pa_cons pe_int (pa_cons pe_int pa_nil))) (pa_cons (pe_tup (pa_cons pe_int (pa_cons pe_int pa_nil))) pa_nil))) (pa_cons (pe_lst (pa_cons (pe_tup (pa_cons (pe_op op_add pe_int (pv 1)) (pa_cons pe_int pa_nil))) pa_nil)) (pa_cons (pe_lst (pa_cons (pe_tup (pa_cons pe_int (pa_cons (pe_op op_add pe_int (pv 1)) pa_nil))) pa_nil)) pa_nil)))))))))
      (pss_cons (ps_if (PW.pt (pw_or (pt_not (pt_val (pe_h h_law_all (hr.mono (by decide)) pass0 (pa_cons (pe_glob (v := .ref f_law_with_moves) rfl m_law_with_moves rfl) (pa_cons (pe_lst (pa_cons pe_int pa_nil)) (pa_cons (pv 10) (pa_cons (pe_ix ix_list (pv 2) pe_int (fun _ _ => rfl)) pa_nil))))))) (pw_or1 (pt_not (pt_val (pe_h h_law_numbers_right (hr.mono (by decide)) pass0 (pa_cons (pv 4) (pa_cons (pv 2) (pa_cons (pv 1) pa_nil))))))))) (pss_one (ps_ret pe_bl)) pss_nil)
      (pss_cons (ps_for PassesOwn.never rfl (pi_tup (pe_tup (pa_cons (pe_glob (v := .ref f_law_two) rfl m_law_two rfl) (pa_cons (pe_glob (v := .ref f_law_two_free) rfl m_law_two_free rfl) pa_nil)))) (pg_name (i := 11) sc_law.nd rfl (by first | exact Or.inl rfl | exact Or.inr rfl))
        (pss_one (ps_if (pt_not (pt_val (pe_h h_law_all (hr.mono (by decide)) pass0 (pa_cons (pv 11) (pa_cons (pe_lst (pa_cons (pv 4) (pa_cons (pe_op op_cat (pv 4) (pe_lst (pa_cons pe_int pa_nil))) pa_nil))) (pa_cons (pe_lst (pa_cons (pe_op op_cat (pv 4) (pe_lst (pa_cons pe_int (pa_cons pe_int pa_nil)))) (pa_cons (pe_op op_cat (pe_lst (pa_cons pe_int (pa_cons pe_int pa_nil))) (pv 4)) pa_nil))) (pa_cons (pe_ix ix_list (pv 2) pe_int (fun _ _ => rfl)) pa_nil))))))) (pss_one (ps_ret pe_bl)) pss_nil)))
      (pss_one (ps_ret (pe_and (pe_cmpR (op_eqD hr.units) (pv 4) (pv 6) (nomark _)) (pe_and (pe_cmpR (op_eqD hr.units) (pe_h h_done (hr.mono (by decide)) passNL (pa_cons pe_str (pa_cons (pe_lst (pa_cons pe_int (pa_cons pe_int pa_nil))) (pa_cons (pe_lst (pa_cons (pe_tup (pa_cons pe_int (pa_cons pe_int pa_nil))) (pa_cons (pe_tup (pa_cons pe_int (pa_cons pe_int pa_nil))) (pa_cons (pe_tup (pa_cons pe_int (pa_cons pe_int pa_nil))) pa_nil)))) pa_nil)))) (pe_lst (pa_cons pe_int (pa_cons pe_int pa_nil))) (nomark _)) (pe_one (pe_cmpR op_eq (pe_h h_left (hr.mono (by decide)) passNL (pa_cons pe_str (pa_cons (pe_lst (pa_cons pe_int pa_nil)) (pa_cons pe_int pa_nil)))) pe_int (nomark _))))))))))))))))))))), ?_⟩
    try dsimp only [cxOf_K]
    repeat walk_at "s"
    refine rd_cell (by decide) hs fun x0 => ?_
    repeat walk_at "s"
    refine rd_rI ⟨by decide, by decide, by decide⟩ ?_
    have f0 : 0 ≤ x0 % 10 ^ Int.toNat 6 := Int.emod_nonneg _ (by decide)
    have f1 : x0 % 10 ^ Int.toNat 6 < 1000000 := Int.emod_lt_of_pos _ (by decide)
    refine rd_rI (show (0 : Int) < 10 ^ Int.toNat 6 by decide) ?_
    generalize x0 % 10 ^ Int.toNat 6 = far at *
    repeat walk_at "s"
    refine new_l fun pd H1 n1 e1 g1 => ?_
    repeat walk_at "s"
    refine rd_r1i (by decide) ?_
    show ForW (Itr 0 6) _ _ _ _ _
    refine for_r (fun i σ H' => ∃ (x3 : Option V) (vs : List V), σ = [some (.ref a), some (.int far), some (.ref pd), x3, none, none, none, none, none, none, none, none] ∧ Same H H' ∧ H' pd = some (.lst vs) ∧ vs.length = i ∧ ∀ j, j < i → ∃ q, vs[j]? = some (.ref q) ∧ H' q = some (.lst (rowV j)) ∧ q ≠ pd)
      ⟨none, [], rfl, e1, g1, rfl, fun j h => absurd h (Nat.not_lt_zero _)⟩ ?_ ?_
    · rintro i σ H' hi ⟨_, vs, rfl, eH, hd, hl, hr⟩
      repeat walk_at "s"
      refine ⟨tyV_l (sqL_of hd), ?_⟩
      repeat walk_at "s"
      refine new_l fun rq H2 n2 e2 g2 => ?_
      repeat walk_at "s"
      refine rd_app (e2 _ _ hd) (sz_lt (by omega)) ?_
      have hne : rq ≠ pd := (ne_of_none hd n2).symm
      refine ⟨_, vs ++ [.ref rq], rfl, same_mut (eH.trans e2) n1, upd_same, by rw [List.length_append, hl] <;> rfl, fun j hj => ?_⟩
      by_cases h : j < i
      · obtain ⟨q, h1, h2, h3⟩ := hr j h
        exact ⟨q, by rw [List.getElem?_append_left (by omega)]; exact h1, by rw [upd_ne h3]; exact e2 _ _ h2, h3⟩
      · have : j = i := by omega
        subst this
        exact ⟨rq, by rw [List.getElem?_append_right (by omega), hl, Nat.sub_self]; rfl, by rw [upd_ne hne]; exact g2, hne⟩
    rintro σ H2 ⟨x3, vs, rfl, e2, hd, hl, hr⟩
    have rows : ∀ c : Ec, ∃ q, vs[c.ix]? = some (.ref q) ∧ H2 q = some (.lst (c.fl.map V.bl)) := fun c => by
      obtain ⟨q, h1, h2, _⟩ := hr _ (ix_lt c)
      rw [row_fl] at h2
      exact ⟨q, h1, h2⟩
    clear hr hl
    repeat walk_at "s"
    refine ⟨a, ns, 1, rfl, e2.seq hs, hz, fun s p1 H3 hp hsz n3 e3 h3 => ?_⟩
    repeat walk_at "s"
    refine rd_lenL (sqL_of h3) ?_
    repeat walk_at "s"
    rw [List.length_map]
    refine rd_listLN (sqL_of h3) (new_l fun hk H4 n4 e4 h4 => ?_)
    replace h3 := e4 _ _ h3
    replace hd := (e3.trans e4) _ _ hd
    replace rows : ∀ c : Ec, ∃ q, vs[c.ix]? = some (.ref q) ∧ H4 q = some (.lst (c.fl.map V.bl)) := fun c => by
      obtain ⟨q, h1, h2⟩ := rows c
      exact ⟨q, h1, (e3.trans e4) _ _ h2⟩
    obtain ⟨qR, rR, tR⟩ := rows .R
    obtain ⟨qS, rS, tS⟩ := rows .S
    obtain ⟨qP, rP, tP⟩ := rows .P
    obtain ⟨qM, rM, tM⟩ := rows .M
    obtain ⟨qN, rN, tN⟩ := rows .N
    obtain ⟨qU, rU', tU⟩ := rows .U
    have E0' : ∀ {H' : Hp}, Same H4 H' → Same H H' := fun e => e2.trans (e3.trans (e4.trans e))
    clear rows
    repeat walk_at "s"
    refine new_l fun q5 H5 n5 e5 g5 => ?_
    repeat walk_at "s"
    refine new_t fun q6 H6 n6 e6 g6 => ?_
    repeat walk_at "s"
    refine new_l fun q7 H7 n7 e7 g7 => ?_
    repeat walk_at "s"
    refine rd_lRgN (n := 6) (by decide) (new_l fun q8 H8 n8 e8 g8 => ?_)
    have E := (e5.trans e6).trans (e7.trans e8)
    repeat walk_at "s"
    refine rd_ixL (sqL_of (E _ _ hd)) (atI_nat (j := 0) rR) ?_
    repeat walk_at "s"
    refine ⟨f_law_with_rule, q8, q7, qR, TRule K, .R, _, _, rfl, aR, sqL_of g8, sqL_of (e8 _ _ g7), sqL_of (E _ _ tR), (show 9 ≤ 1000 by decide), fun H9 e9 d hd v hv => ?_, fun H9 e9 => ?_⟩
    · obtain ⟨k, hk, rfl⟩ := List.mem_map.mp hd
      refine ⟨k, rfl, List.mem_range.mp hk, .inl ?_⟩
      simp only [List.mem_cons, List.not_mem_nil, or_false] at hv
      rcases hv with rfl | rfl | rfl | rfl | rfl | rfl | rfl | rfl | rfl
      · exact .ty .non
      · exact .ty .int
      · exact .tx (by decide +kernel)
      · exact .tx (by decide +kernel)
      · exact .tx (by decide +kernel)
      · exact .ty (.lst (sqL_of ((e6.trans ((e7.trans e8).trans e9)) _ _ g5)))
      · exact .ty .bl
      · exact .tx (by decide +kernel)
      · exact .ty (.tup (sqT_of (((e7.trans e8).trans e9) _ _ g6)))
    replace E := E.trans e9
    clear e5 e6 e7 e8 e9 g5 g6 g7 g8
    repeat walk_at "s"
    refine ⟨f_law_with_rule, TRule K, .R, .int 5, .str "round", rfl, aR, ⟨5, rfl, by decide, .inr ⟨rfl, rfl⟩⟩, fun p9 HA nA eA gA => ?_⟩
    repeat walk_at "s"
    replace E := E.trans eA
    refine rd_ixL (sqL_of (E _ _ hd)) (atI_nat (j := 0) rR) ?_
    refine rd_neBl (sqL_of gA) (sqL_of (E _ _ tR)) ?_
    clear gA eA
    -- bad states
    repeat walk_at "s"
    have C : Col (BadS K) HA [.non] := Col.nil.put (.ty .non)
    refine new_t fun v1 W1 m1 w1 G => ?_
    replace E := E.trans w1
    replace C := C.add up_S w1 (.ty (.tup (sqT_of G)))
    clear w1 G
    repeat walk_at "s"
    refine new_t fun v2 W2 m2 w2 G => ?_
    replace E := E.trans w2
    replace C := C.add up_S w2 (.ty (.tup (sqT_of G)))
    clear w2 G
    replace C := C.put (v := .str "0") (.ty .str)
    repeat walk_at "s"
    refine new_d fun v3 W3 m3 w3 G => ?_
    replace E := E.trans w3
    replace C := C.add up_S w3 (.ty (.dic G))
    clear w3 G
    replace C := C.put (v := .int 0) (.ty .int)
    repeat walk_at "s"
    refine new_l fun v4 W4 m4 w4 G => ?_
    replace E := E.trans w4
    replace C := C.add up_S w4 (bad1 G (.no .non) rfl)
    clear w4 G
    repeat walk_at "s"
    refine new_l fun v5 W5 m5 w5 G => ?_
    replace E := E.trans w5
    replace C := C.add up_S w5 (bad1 G (.no .str) rfl)
    clear w5 G
    repeat walk_at "s"
    refine new_l fun v6 W6 m6 w6 G => ?_
    replace E := E.trans w6
    replace C := C.add up_S w6 (bad1 G (.bl _) rfl)
    clear w6 G
    repeat walk_at "s"
    refine new_l fun v7 W7 m7 w7 G => ?_
    replace E := E.trans w7
    replace C := C.add up_S w7 (bad1 G (.int _) rfl)
    clear w7 G
    repeat walk_at "s"
    refine new_l fun v8 W8 m8 w8 G => ?_
    replace E := E.trans w8
    replace C := C.add up_S w8 (bad1 G (.int _) (pegO_hi (by omega)))
    clear w8 G
    repeat walk_at "s"
    refine new_l fun v9 W9 m9 w9 G => ?_
    replace E := E.trans w9
    replace C := C.add up_S w9 (bad1 G (.int _) rfl)
    clear w9 G
    repeat walk_at "s"
    refine new_l fun v10 W10 m10 w10 G => ?_
    replace E := E.trans w10
    replace C := C.add up_S w10 (bad1 G (.int _) (pegO_lo (by omega)))
    clear w10 G
    repeat walk_at "s"
    refine new_l fun u11 Y11 a11 b11 G => ?_
    replace E := E.trans b11
    replace C := C.up up_S b11
    clear b11
    repeat walk_at "s"
    refine new_l fun v11 W11 m11 w11 G2 => ?_
    replace E := E.trans w11
    replace C := C.add up_S w11 (bad1 G2 (.no (.lst (sqL_of (w11 _ _ G)))) rfl)
    clear w11 G G2
    repeat walk_at "s"
    refine new_l fun v12 W12 m12 w12 G => ?_
    replace E := E.trans w12
    replace C := C.add up_S w12 (.it (os := [some 0, some 0, some 3]) (sqL_of G) (by decide) (.cons (.int _) (.cons (.int _) (.cons (.int _) .nil))) rfl)
    clear w12 G
    repeat walk_at "s"
    refine new_l fun lb HB nB eB gB => ?_
    have nb4 : H4 lb = none := E.free nB
    replace E := E.trans eB
    replace C := Col.up up_S C ((off_free nB).trans (off_up eB))
    clear eB
    obtain ⟨n, hn, hrg⟩ := rgC_at s.length (by omega)
    repeat walk_at "s"
    refine ⟨_, _, _, n, rfl, hrg, ?_⟩
    refine for_rc (fun i σ H' => ∃ (x9 : Option V) (xs : List V), σ = [some (.ref a), some (.int far), some (.ref pd), x3, some (.ref p1), some (.int s.length), some (.ref hk), some (.ref q7), some (.ref lb), x9, none, none] ∧ Same H4 H' ∧ H' lb = some (.lst xs) ∧ xs.length = 15 + i ∧ Col (BadS K) (off lb H') xs)
      ⟨none, _, rfl, E, gB, rfl, C⟩ ?_ ?_
    · rintro i σ H' hi ⟨_, xs, rfl, eH, hl, hxl, C⟩
      have h3H := eH _ _ h3
      have hc : 0 ≤ (s.length : Int) / 6 := Int.ediv_nonneg (by omega) (by decide)
      have hat0 : 0 ≤ 0 + (i : Int) * (1 + (s.length : Int) / 6) := by
        rw [Int.zero_add]
        exact Int.mul_nonneg (by omega) (by omega)
      obtain ⟨k, hk'⟩ : ∃ k : Nat, 0 + (i : Int) * (1 + (s.length : Int) / 6) = (k : Int) := ⟨_, (Int.toNat_of_nonneg hat0).symm⟩
      rw [hk']
      repeat walk_at "s"
      refine ⟨tyV_l (sqL_of hl), ?_⟩
      repeat walk_at "s"
      refine rd_slLN (sqL_of h3H) (new_l fun p5 H5 n5 e5 g5 => ?_)
      rw [cut_to V.int s k rfl] at g5
      repeat walk_at "s"
      refine new_t fun p6 H6 n6 e6 g6 => ?_
      repeat walk_at "s"
      obtain ⟨x, o, hx, hw, hb⟩ : ∃ x o, atI [V.non, .str "1", .bl true, .int (3 + far), .int (-1)] ((k : Int) % 5) = some x ∧ (∀ H, Wh K H x o) ∧ pegO o = false := by
        have h50 : 0 ≤ (k : Int) % 5 := Int.emod_nonneg _ (by decide)
        have h51 : (k : Int) % 5 < 5 := Int.emod_lt_of_pos _ (by decide)
        generalize (k : Int) % 5 = m at *
        have hm : m = 0 ∨ m = 1 ∨ m = 2 ∨ m = 3 ∨ m = 4 := by omega
        rcases hm with rfl | rfl | rfl | rfl | rfl
        · exact ⟨_, none, rfl, fun _ => .no .non, rfl⟩
        · exact ⟨_, none, rfl, fun _ => .no .str, rfl⟩
        · exact ⟨_, none, rfl, fun _ => .bl _, rfl⟩
        · exact ⟨_, _, rfl, fun _ => .int _, pegO_hi (by omega)⟩
        · exact ⟨_, _, rfl, fun _ => .int _, pegO_lo (by omega)⟩
      refine rd_ixT (sqT_of g6) hx ?_
      repeat walk_at "s"
      refine new_l fun p7 H7 n7 e7 g7 => ?_
      refine rd_catN ((e6.trans e7) _ _ g5) g7 (by rw [List.length_map, List.length_take]; show _ + 1 ≤ _; omega) (new_l fun p8 H8 n8 e8 g8 => ?_)
      have e58 := ((e5.trans e6).trans e7).trans e8
      repeat walk_at "s"
      refine rd_slLN (sqL_of (e58 _ _ h3H)) (new_l fun p9 H9 n9 e9 g9 => ?_)
      rw [cut_from V.int s (k + 1) (by omega)] at g9
      refine rd_catN (e9 _ _ g8) g9 (by rw [List.length_append, List.length_map, List.length_take, List.length_map, List.length_drop]; show _ + 1 + _ ≤ _; omega) (new_l fun pX HX nX eX gX => ?_)
      have EX := (e58.trans e9).trans eX
      repeat walk_at "s"
      refine rd_app (EX _ _ hl) (sz_lt (by omega)) ?_
      have hne : pX ≠ lb := (ne_of_none (e58.trans e9 _ _ hl) nX).symm
      refine ⟨_, xs ++ [.ref pX], rfl, same_mut (eH.trans EX) nb4, upd_same, by rw [List.length_append, hxl]; rfl, ?_⟩
      rw [off_upd]
      exact Col.add up_S C (off_up EX) (badAt (off_at gX hne) (by rw [List.length_take, List.length_drop]; omega) (hw _) hb)
    rintro σ HC ⟨x9, xs, rfl, eC, hl, hxl, C9⟩
    replace C9 := Col.up up_S C9 off_le
    clear C E gB nb4 hrg
    repeat walk_at "s"
    refine rd_lRgN (n := 9) (by decide) (new_l fun qa HD nD eD gD => ?_)
    have E := eC.trans eD
    repeat walk_at "s"
    refine rd_ixL (sqL_of (E _ _ hd)) (atI_nat (j := 1) rS) ?_
    repeat walk_at "s"
    refine ⟨f_law_with_state, qa, lb, qS, TState K, .S, _, _, rfl, aS, sqL_of gD, sqL_of (eD _ _ hl), sqL_of (E _ _ tS), by omega, fun H' e' d hd' v hv => ?_, fun HE eE => ?_⟩
    · obtain ⟨k, hk, rfl⟩ := List.mem_map.mp hd'
      exact ⟨k, rfl, List.mem_range.mp hk, (C9 v hv).up (eD.trans e')⟩
    replace E := E.trans eE
    clear C9 hl eC eD eE gD hxl
    -- bad pegs
    repeat walk_at "s"
    refine new_l fun r1 HF nF eF gF => ?_
    repeat walk_at "s"
    refine new_l fun r2 HG nG eG gG => ?_
    repeat walk_at "s"
    refine new_l fun r3 HI nI eI gI => ?_
    have eFI := (eF.trans eG).trans eI
    replace E := E.trans eFI
    repeat walk_at "s"
    refine rd_ixL (sqL_of (E _ _ hd)) (atI_nat (j := 2) rP) ?_
    repeat walk_at "s"
    refine ⟨f_law_with_peg, r1, r3, qP, TPeg K, .P, _, _, rfl, aP, sqL_of ((eG.trans eI) _ _ gF), sqL_of gI, sqL_of (E _ _ tP), (show 8 ≤ 1000 by decide), fun H' e' d hd' v hv => ?_, fun HE eE => ?_⟩
    · have hb : BadP K H' v := by
        simp only [List.mem_cons, List.not_mem_nil, or_false] at hv
        rcases hv with rfl | rfl | rfl | rfl | rfl | rfl | rfl | rfl
        · exact ⟨_, .no .non, rfl⟩
        · exact ⟨_, .no .str, rfl⟩
        · exact ⟨_, .bl _, rfl⟩
        · exact ⟨_, .int _, rfl⟩
        · exact ⟨_, .int _, pegO_hi (by omega)⟩
        · exact ⟨_, .int _, rfl⟩
        · exact ⟨_, .int _, pegO_lo (by omega)⟩
        · exact ⟨_, .no (.lst (sqL_of ((eI.trans e') _ _ gG))), rfl⟩
      simp only [List.mem_cons, List.not_mem_nil, or_false] at hd'
      rcases hd' with rfl | rfl | rfl
      · exact ⟨0, rfl, by decide, hb⟩
      · exact ⟨1, rfl, by decide, hb⟩
      · exact ⟨2, rfl, by decide, hb⟩
    replace E := E.trans eE
    clear eF eG eI eFI eE gF gG gI
    -- bad moves
    repeat walk_at "s"
    have C : Col (BadM K) HE [.non] := Col.nil.put (.inl .non)
    refine new_t fun v20 W20 m20 w20 G => ?_
    replace E := E.trans w20
    replace C := C.add up_M w20 (.inl (.tup (sqT_of G)))
    clear w20 G
    replace C := C.put (v := .str "") (.inl .str)
    replace C := C.put (v := .int 5) (.inl .int)
    repeat walk_at "s"
    refine new_l fun v21 W21 m21 w21 G => ?_
    replace E := E.trans w21
    replace C := C.add up_M w21 (badM1 G (.no .non) rfl)
    clear w21 G
    repeat walk_at "s"
    refine new_l fun v22 W22 m22 w22 G => ?_
    replace E := E.trans w22
    replace C := C.add up_M w22 (badM1 G (.no .int) rfl)
    clear w22 G
    repeat walk_at "s"
    refine new_t fun u23 Y23 a23 b23 G => ?_
    replace E := E.trans b23
    replace C := C.up up_M b23
    clear b23
    repeat walk_at "s"
    refine new_l fun v23 W23 m23 w23 G2 => ?_
    replace E := E.trans w23
    replace C := C.add up_M w23 (badM1 G2 (.len (sqT_of (w23 _ _ G)) (by decide)) rfl)
    clear w23 G G2
    repeat walk_at "s"
    refine new_t fun u24 Y24 a24 b24 G => ?_
    replace E := E.trans b24
    replace C := C.up up_M b24
    clear b24
    repeat walk_at "s"
    refine new_l fun v24 W24 m24 w24 G2 => ?_
    replace E := E.trans w24
    replace C := C.add up_M w24 (badM1 G2 (.len (sqT_of (w24 _ _ G)) (show (1 : Nat) ≠ 2 by decide)) rfl)
    clear w24 G G2
    repeat walk_at "s"
    refine new_t fun u25 Y25 a25 b25 G => ?_
    replace E := E.trans b25
    replace C := C.up up_M b25
    clear b25
    repeat walk_at "s"
    refine new_l fun v25 W25 m25 w25 G2 => ?_
    replace E := E.trans w25
    replace C := C.add up_M w25 (badM1 G2 (.len (sqT_of (w25 _ _ G)) (show (3 : Nat) ≠ 2 by decide)) rfl)
    clear w25 G G2
    repeat walk_at "s"
    refine new_t fun u26 Y26 a26 b26 G => ?_
    replace E := E.trans b26
    replace C := C.up up_M b26
    clear b26
    repeat walk_at "s"
    refine new_l fun v26 W26 m26 w26 G2 => ?_
    replace E := E.trans w26
    replace C := C.add up_M w26 (badM1 G2 (.two (sqT_of (w26 _ _ G)) (.int 1) (.int 1)) (walk1 (by decide +kernel)))
    clear w26 G G2
    repeat walk_at "s"
    refine new_t fun u27 Y27 a27 b27 G => ?_
    replace E := E.trans b27
    replace C := C.up up_M b27
    clear b27
    repeat walk_at "s"
    refine new_l fun v27 W27 m27 w27 G2 => ?_
    replace E := E.trans w27
    replace C := C.add up_M w27 (badM1 G2 (.two (sqT_of (w27 _ _ G)) (.int 0) (.int 0)) (walk1 (by decide +kernel)))
    clear w27 G G2
    repeat walk_at "s"
    refine new_t fun u28 Y28 a28 b28 G => ?_
    replace E := E.trans b28
    replace C := C.up up_M b28
    clear b28
    repeat walk_at "s"
    refine new_l fun v28 W28 m28 w28 G2 => ?_
    replace E := E.trans w28
    replace C := C.add up_M w28 (badM1 G2 (.two (sqT_of (w28 _ _ G)) (.int 0) (.int 3)) (walk1 (by decide +kernel)))
    clear w28 G G2
    repeat walk_at "s"
    refine new_t fun u29 Y29 a29 b29 G => ?_
    replace E := E.trans b29
    replace C := C.up up_M b29
    clear b29
    repeat walk_at "s"
    refine new_l fun v29 W29 m29 w29 G2 => ?_
    replace E := E.trans w29
    replace C := C.add up_M w29 (badM1 G2 (.two (sqT_of (w29 _ _ G)) (.int 2) (.int 1)) (walk1 (by decide +kernel)))
    clear w29 G G2
    repeat walk_at "s"
    refine new_l fun u30 Y30 a30 b30 G => ?_
    replace E := E.trans b30
    replace C := C.up up_M b30
    clear b30
    repeat walk_at "s"
    refine new_l fun v30 W30 m30 w30 G2 => ?_
    replace E := E.trans w30
    replace C := C.add up_M w30 (badM1 G2 (.no (.lst (sqL_of (w30 _ _ G)))) rfl)
    clear w30 G G2
    repeat walk_at "s"
    refine new_l fun o1 HJ nJ eJ gJ => ?_
    replace E := E.trans eJ
    replace C := Col.up up_M C eJ
    have EJ : Same HJ HJ := Same.refl _
    clear eJ
    repeat walk_at "s"
    refine new_t fun u31 Y31 a31 b31 G => ?_
    replace E := E.trans b31
    replace EJ := EJ.trans b31
    replace C := C.up up_M b31
    clear b31
    repeat walk_at "s"
    refine new_l fun v31 W31 m31 w31 G2 => ?_
    replace E := E.trans w31
    replace EJ := EJ.trans w31
    replace C := C.add up_M w31 (badM1 G2 (.two (sqT_of (w31 _ _ G)) (.int 0) (.bl true)) rfl)
    clear w31 G G2
    repeat walk_at "s"
    refine new_t fun u32 Y32 a32 b32 G => ?_
    replace E := E.trans b32
    replace EJ := EJ.trans b32
    replace C := C.up up_M b32
    clear b32
    repeat walk_at "s"
    refine new_l fun v32 W32 m32 w32 G2 => ?_
    replace E := E.trans w32
    replace EJ := EJ.trans w32
    replace C := C.add up_M w32 (badM1 G2 (.two (sqT_of (w32 _ _ G)) (.bl false) (.int 1)) rfl)
    clear w32 G G2
    repeat walk_at "s"
    refine new_t fun u33 Y33 a33 b33 G => ?_
    replace E := E.trans b33
    replace EJ := EJ.trans b33
    replace C := C.up up_M b33
    clear b33
    repeat walk_at "s"
    refine new_l fun v33 W33 m33 w33 G2 => ?_
    replace E := E.trans w33
    replace EJ := EJ.trans w33
    replace C := C.add up_M w33 (badM1 G2 (.two (sqT_of (w33 _ _ G)) (.no .str) (.int 1)) rfl)
    clear w33 G G2
    repeat walk_at "s"
    refine new_t fun u34 Y34 a34 b34 G => ?_
    replace E := E.trans b34
    replace EJ := EJ.trans b34
    replace C := C.up up_M b34
    clear b34
    repeat walk_at "s"
    refine new_t fun x34 Z34 c34 d34 G0 => ?_
    replace E := E.trans d34
    replace EJ := EJ.trans d34
    replace C := C.up up_M d34
    replace G := d34 _ _ G
    clear d34
    repeat walk_at "s"
    refine new_l fun v34 W34 m34 w34 G2 => ?_
    replace E := E.trans w34
    replace EJ := EJ.trans w34
    replace C := C.add up_M w34 (.inr ⟨v34, _, [some (0, 1), some (1, 1)], rfl, sqL_of G2, .cons (.two (sqT_of (w34 _ _ G)) (.int 0) (.int 1)) (.cons (.two (sqT_of (w34 _ _ G0)) (.int 1) (.int 1)) .nil), by decide +kernel⟩)
    clear w34 G G0 G2
    repeat walk_at "s"
    refine new_t fun u35 Y35 a35 b35 G => ?_
    replace E := E.trans b35
    replace EJ := EJ.trans b35
    replace C := C.up up_M b35
    clear b35
    repeat walk_at "s"
    refine new_l fun v35 W35 m35 w35 G2 => ?_
    replace E := E.trans w35
    replace EJ := EJ.trans w35
    replace C := C.add up_M w35 (badM1 G2 (.two (sqT_of (w35 _ _ G)) (.int _) (.int 1)) (walk1 (stepL_big (show (2 : Int) ≤ 2 + far by omega))))
    clear w35 G G2
    repeat walk_at "s"
    refine new_t fun u36 Y36 a36 b36 G => ?_
    replace E := E.trans b36
    replace EJ := EJ.trans b36
    replace C := C.up up_M b36
    clear b36
    repeat walk_at "s"
    refine new_l fun v36 W36 m36 w36 G2 => ?_
    replace E := E.trans w36
    replace EJ := EJ.trans w36
    replace C := C.add up_M w36 (badM1 G2 (.two (sqT_of (w36 _ _ G)) (.int 0) (.int _)) (walk1 (stepL_bad (show ¬ P3 (3 + far) by unfold P3; omega))))
    clear w36 G G2
    repeat walk_at "s"
    refine new_l fun o2 HK nK eK gK => ?_
    replace EJ := EJ.trans eK
    refine rd_catN (EJ _ _ gJ) gK (show 14 + 6 ≤ 100000 by decide) (new_l fun o3 HL nL eL gL => ?_)
    replace E := E.trans (eK.trans eL)
    replace C := Col.up up_M C (eK.trans eL)
    clear EJ eK eL gJ gK
    repeat walk_at "s"
    refine new_l fun o4 HM nM eM gM => ?_
    replace E := E.trans eM
    repeat walk_at "s"
    refine rd_ixL (sqL_of (E _ _ hd)) (atI_nat (j := 3) rM) ?_
    repeat walk_at "s"
    refine ⟨f_law_with_moves, o4, o3, qM, TMoves K, .M, _, _, rfl, aM, sqL_of gM, sqL_of (eM _ _ gL), sqL_of (E _ _ tM), (show 20 ≤ 1000 by decide), fun H' e' d hd' v hv => up_M _ _ _ (eM.trans e') (C v hv), fun HN eN => ?_⟩
    replace E := E.trans eN
    clear C eM eN gM gL
    repeat walk_at "s"
    refine ⟨p1, pd, vs, s, far, rfl, sqL_of (E _ _ h3), by omega, hp, sqL_of (E _ _ hd), ⟨qN, rN, sqL_of (E _ _ tN)⟩, f0, f1, fun HO eO => ?_⟩
    replace E := E.trans eO
    clear eO
    repeat walk_at "s"
    -- other counts
    refine new_t fun t1 HP nP eP gP => ?_
    replace E := E.trans eP
    clear eP
    repeat walk_at "s"
    refine rd_t1 (sqT_of gP) ?_
    refine for_t (xs := [.ref f_law_two, .ref f_law_two_free]) (fun i σ H' => ∃ (x11 : Option V), σ = [some (.ref a), some (.int far), some (.ref pd), x3, some (.ref p1), some (.int s.length), some (.ref hk), some (.ref q7), some (.ref lb), x9, some (.ref o3), x11] ∧ Same HP H') ⟨none, rfl, Same.refl _⟩ (fun i σ H' _ ⟨_, _, e⟩ => sqT_mono e (sqT_of gP)) ?_ ?_
    · rintro i x σ H' hx ⟨_, rfl, eH⟩
      have hA : ∃ f, x = .ref f ∧ Ask P w K mg base f (TTwo K) (ad .U) := by
        have hx := List.mem_of_getElem? hx
        simp only [List.mem_cons, List.not_mem_nil, or_false] at hx
        rcases hx with rfl | rfl
        · exact ⟨_, rfl, aU⟩
        · exact ⟨_, rfl, aV⟩
      obtain ⟨fx, rfl, hA⟩ := hA
      have E' := E.trans eH
      repeat walk_at "s"
      refine new_l fun l1 H1' n1' e1' g1' => ?_
      refine rd_catN ((E'.trans e1') _ _ h3) g1' (by rw [List.length_map]; show _ + 1 ≤ _; omega) (new_l fun l2 H2' n2' e2' g2' => ?_)
      repeat walk_at "s"
      refine new_l fun l3 H3' n3' e3' g3' => ?_
      have e13 := (e1'.trans e2').trans e3'
      repeat walk_at "s"
      refine new_l fun l4 H4' n4' e4' g4' => ?_
      refine rd_catN ((E'.trans (e13.trans e4')) _ _ h3) g4' (by rw [List.length_map]; show _ + 2 ≤ _; omega) (new_l fun l5 H5' n5' e5' g5' => ?_)
      have e15 := (e13.trans e4').trans e5'
      repeat walk_at "s"
      refine new_l fun l6 H6' n6' e6' g6' => ?_
      repeat walk_at "s"
      refine rd_catN g6' ((E'.trans (e15.trans e6')) _ _ h3) (by rw [List.length_map]; show 2 + _ ≤ _; omega) (new_l fun l7 H7' n7' e7' g7' => ?_)
      repeat walk_at "s"
      refine new_l fun l8 H8' n8' e8' g8' => ?_
      have e58' := (e6'.trans e7').trans e8'
      have e38' := (e4'.trans e5').trans e58'
      have e18 := e15.trans e58'
      have E8 := E'.trans e18
      repeat walk_at "s"
      refine rd_ixL (sqL_of (E8 _ _ hd)) (atI_nat (j := 5) rU') ?_
      repeat walk_at "s"
      refine ⟨fx, l3, l8, qU, TTwo K, .U, _, _, rfl, hA, sqL_of (e38' _ _ g3'), sqL_of g8', sqL_of (E8 _ _ tU), (show 2 ≤ 1000 by decide), fun H9 e9 d hd' v hv => ?_, fun H9 e9 => ?_⟩
      · have hp1 : ∀ t : List Int, AllP t → AllP (s ++ t) := fun t ht p hp' => by
          rcases List.mem_append.mp hp' with h | h
          · exact hp p h
          · exact ht p h
        have a1 : AllP ([1] : List Int) := fun p hp => by
          rw [List.mem_singleton.mp hp]
          exact .inr (.inl rfl)
        have hd2 : ∃ (p : Addr) (t : List Int), d = .ref p ∧ SqL K H9 p (t.map V.int) ∧ AllP t ∧ t.length ≤ s.length + 1 := by
          simp only [List.mem_cons, List.not_mem_nil, or_false] at hd'
          rcases hd' with rfl | rfl
          · exact ⟨p1, s, rfl, sqL_of ((E8.trans e9) _ _ h3), hp, by omega⟩
          · refine ⟨l2, s ++ [1], rfl, sqL_of ?_, hp1 _ a1, by rw [List.length_append]; exact Nat.le_refl _⟩
            rw [List.map_append]
            exact ((e3'.trans e38').trans e9) _ _ g2'
        have hv2 : ∃ (p : Addr) (t : List Int), v = .ref p ∧ SqL K H9 p (t.map V.int) ∧ AllP t ∧ t.length = s.length + 2 := by
          simp only [List.mem_cons, List.not_mem_nil, or_false] at hv
          rcases hv with rfl | rfl
          · refine ⟨l5, s ++ [0, 0], rfl, sqL_of ?_, hp1 _ all00, by rw [List.length_append] <;> rfl⟩
            rw [List.map_append]
            exact (e58'.trans e9) _ _ g5'
          · refine ⟨l7, [0, 0] ++ s, rfl, sqL_of ?_, fun p hp' => ?_, by rw [List.length_append, Nat.add_comm] <;> rfl⟩
            · rw [List.map_append]
              exact (e8'.trans e9) _ _ g7'
            · rcases List.mem_append.mp hp' with h | h
              · exact all00 p h
              · exact hp p h
        obtain ⟨p, t, y1, y2, y3, y4⟩ := hd2
        obtain ⟨p', t', z1, z2, z3, z4⟩ := hv2
        exact ⟨p, p', t, t', y1, z1, y2, z2, by omega, by omega, y3, z3, by omega⟩
      · repeat walk_at "s"
        exact ⟨_, rfl, eH.trans (e18.trans e9)⟩
    rintro σ HQ ⟨x11, rfl, eQ⟩
    replace E := E.trans eQ
    clear eQ
    repeat walk_at "s"
    refine rd_eqD (p := True) (dp_ints (sqL_of (E _ _ h3))) (dp_ints (sqL_of (E _ _ h4))) (good_ints 0 _).good (good_ints 0 _).good (by simp) ?_
    repeat walk_at "s"
    refine new_l fun y1 K1 z1 c1 g1 => ?_
    repeat walk_at "s"
    refine new_t fun y2 K2 z2 c2 g2 => ?_
    repeat walk_at "s"
    refine new_t fun y3 K3 z3 c3 g3 => ?_
    repeat walk_at "s"
    refine new_t fun y4 K4 z4 c4 g4 => ?_
    repeat walk_at "s"
    refine new_l fun y5 K5 z5 c5 g5 => ?_
    repeat walk_at "s"
    refine ⟨_, _, _, rfl, .inr ⟨.free, rfl, .inr ⟨y1, [0, 0], rfl, sqL_of (((c2.trans c3).trans (c4.trans c5)) _ _ g1), by decide, all00, .inr ⟨y5, _, [some (0, 1), some (1, 2), some (0, 2)], rfl, sqL_of g5, ?_, fun s' e dp K6 z6 c6 g6 => ?_, fun e => absurd e (by decide +kernel)⟩⟩⟩⟩
    · exact .cons (.two (sqT_of ((c3.trans (c4.trans c5)) _ _ g2)) (.int 0) (.int 1)) (.cons (.two (sqT_of ((c4.trans c5) _ _ g3)) (.int 1) (.int 2)) (.cons (.two (sqT_of (c5 _ _ g4)) (.int 0) (.int 2)) .nil))
    have e22 : walkO .free [0, 0] [some (0, 1), some (1, 2), some (0, 2)] = some [2, 2] := by decide +kernel
    cases e22.symm.trans e
    repeat walk_at "s"
    refine new_l fun y7 K7 z7 c7 g7 => ?_
    refine rd_eqD (p := True) (dp_ints (sqL_of (c7 _ _ g6))) (dp_ints (ns := [2, 2]) (sqL_of g7)) (good_ints 0 _).good (good_ints 0 _).good (by simp) ?_
    repeat walk_at "s"
    refine new_l fun y8 K8 z8 c8 g8 => ?_
    repeat walk_at "s"
    refine ⟨_, _, _, rfl, .inr ⟨.round, rfl, .inr ⟨y8, [0], rfl, sqL_of g8, by decide, all0, .inr ⟨2, rfl, by unfold P3; omega, fun K9 c9 => ?_⟩⟩⟩⟩
    have e2 : L .round ([0] : List Int).reverse 2 = 2 := by decide +kernel
    rw [e2]
    repeat walk_at "s"
    exact q _
end
end Peg

namespace Peg
open PySem PyProof.Rows L2
theorem rules_of {K : PySem.W.Frag} {mg : Str → Option Value} {h : Heap} {r : Addr} {o : Obj} {its : Array Value} {n : Nat} (X : K.In h) (G : h.Ns mainGlobals mg) (a : PySem.W.nsIn K mainGlobals "RULES" = some (some (.ref r))) (l : K.lookup r = some o)
    (h1 : o.cls = .type "list") (h2 : o.dict = none) (h3 : o.data = .seq its n) (h4 : its.size ≤ sizeLine) (h5 : Vals [.str "free", .str "line", .str "round"] its.toList) : ∃ aR : Addr, mg "RULES" = some (.ref aR) ∧ ∀ H, SqL K H aR [.str "free", .str "line", .str "round"] :=
  ⟨r, PySem.W.mg_of X G a, fun H => .inr ⟨o, its, n, l, h1, h2, h3, h4, h5⟩⟩
theorem errs_go {K : PySem.W.Frag} {mg : Str → Option Value} {C : Prop} {h : Heap} {x : Str} {c : Addr} (X : K.In h) (G : h.Ns mainGlobals mg) (a : PySem.W.nsIn K mainGlobals x = some (some (.ref c))) (go : mg x = some (.ref c) → C) : C := go (PySem.W.mg_of X G a)
theorem exc_go {K : PySem.W.Frag} {mg : Str → Option Value} {Q : Prop} {h : Heap} {x : Str} {C : Addr} (X : K.In h) (g : mg x = some (.ref C)) (e : PySem.W.excIn K C [.type "ValueError", .type "Exception", .type "BaseException", .type "object"] "ValueError.__new__" = true)
    (k : PySem.W.keepIn K (.ref C) = true) (b : PySem.W.subIn K (.ref C) (.type "BaseException") = some true) (t : PySem.W.typeIn K (.ref C) = some (.type "type")) (go : Exc K mg x C → Q) : Q := go ⟨g, e, k, b, t⟩
theorem ec_go {K : PySem.W.Frag} {mg : Str → Option Value} {Q : Prop} {h : Heap} {x : Str} {D : Addr} (X : K.In h) (g : mg x = some (.ref D)) (hg : PySem.W.findIn K (.ref D) "__getattribute__" = some (some (.builtin "BaseException.__getattribute__")))
    (hk : PySem.W.findIn K (.ref D) "__getattr__" = some none) (hs : PySem.W.subIn K (.ref D) (.type "BaseException") = some true) (hd : PySem.W.hasDictIn K D = true) (ha : PySem.W.findIn K (.ref D) "__class__" = some (some (.builtin "object.__class__")))
    (hn : PySem.W.specialIn K (.builtin "object.__class__") "__get__" = some (some (.builtin "getset_descriptor.__get__"))) (ht : PySem.W.takesIn K (.builtin "object.__class__") = some true) (hm : PySem.W.mroIn K D (.type "object") = some true) (go : ExcC K D → Q) : Q := go ⟨hg, hk, hs, hd, ha, hn, ht, hm⟩
theorem exm_go {K : PySem.W.Frag} {mg : Str → Option Value} {Q : Prop} {h : Heap} {x y : Str} {D C : Addr} (X : K.In h) (g : mg x = some (.ref D)) (g2 : mg y = some (.ref C)) (h1 : PySem.W.subIn K (.ref C) (.type "BaseException") = some true) (hd : PySem.W.hasDictIn K C = true) (ht : PySem.W.typeIn K (.ref C) = some (.type "type"))
    (h4 : PySem.W.subIn K (.ref D) (.ref C) = some true) (go : PySem.W.exmOne K (.ref D) (.ref C) = some true → Q) : Q := go (PySem.W.exm_ref h1 hd ht h4)
theorem kit_go {K : PySem.W.Frag} {mg : Str → Option Value} {Q : Prop} {h : Heap} {x y : Str} {D C : Addr} (b : Bool) (X : K.In h) (g : mg x = some (.ref D)) (g2 : mg y = some (.ref C)) (hd : PySem.W.hasDictIn K C = true) (ht : PySem.W.typeIn K (.ref C) = some (.type "type")) (h4 : PySem.W.subIn K (.ref D) (.ref C) = some b) (ne : (D == C) = false)
    (go : PySem.W.kitOne K (.ref D) (.ref C) = some b → Q) : Q := go (kit_ref hd ht h4 ne)
theorem kitT_go {K : PySem.W.Frag} {mg : Str → Option Value} {Q : Prop} {h : Heap} {x : Str} {c : String} {D : Addr} (b : Bool) (X : K.In h) (g : mg x = some (.ref D)) (hm : PySem.W.kitMeta c = true) (h4 : PySem.W.subIn K (.ref D) (.type c) = some b) (go : PySem.W.kitOne K (.ref D) (.type c) = some b → Q) : Q := go (kit_typ hm h4)
def adr (r s p m n u : Addr) : Ec → Addr
  | .R => r
  | .S => s
  | .P => p
  | .M => m
  | .N => n
  | .U => u
theorem errF_mk {K : PySem.W.Frag} {cT cR cS cP cM cN cU cX : Addr} (tR : PySem.W.exmOne K (.ref cR) (.ref cT) = some true) (tS : PySem.W.exmOne K (.ref cS) (.ref cT) = some true) (tP : PySem.W.exmOne K (.ref cP) (.ref cT) = some true) (tM : PySem.W.exmOne K (.ref cM) (.ref cT) = some true) (tN : PySem.W.exmOne K (.ref cN) (.ref cT) = some true) (tU : PySem.W.exmOne K (.ref cU) (.ref cT) = some true) (eR : ExcC K cR) (eS : ExcC K cS) (eP : ExcC K cP) (eM : ExcC K cM) (eN : ExcC K cN) (eU : ExcC K cU) (kRS : PySem.W.kitOne K (.ref cR) (.ref cS) = some false) (kRP : PySem.W.kitOne K (.ref cR) (.ref cP) = some false) (kRM : PySem.W.kitOne K (.ref cR) (.ref cM) = some false) (kRN : PySem.W.kitOne K (.ref cR) (.ref cN) = some false) (kRU : PySem.W.kitOne K (.ref cR) (.ref cU) = some false) (kSR : PySem.W.kitOne K (.ref cS) (.ref cR) = some false) (kSP : PySem.W.kitOne K (.ref cS) (.ref cP) = some false) (kSM : PySem.W.kitOne K (.ref cS) (.ref cM) = some false) (kSN : PySem.W.kitOne K (.ref cS) (.ref cN) = some false) (kSU : PySem.W.kitOne K (.ref cS) (.ref cU) = some false) (kPR : PySem.W.kitOne K (.ref cP) (.ref cR) = some false) (kPS : PySem.W.kitOne K (.ref cP) (.ref cS) = some false) (kPM : PySem.W.kitOne K (.ref cP) (.ref cM) = some false) (kPN : PySem.W.kitOne K (.ref cP) (.ref cN) = some false) (kPU : PySem.W.kitOne K (.ref cP) (.ref cU) = some false) (kMR : PySem.W.kitOne K (.ref cM) (.ref cR) = some false) (kMS : PySem.W.kitOne K (.ref cM) (.ref cS) = some false) (kMP : PySem.W.kitOne K (.ref cM) (.ref cP) = some false) (kMN : PySem.W.kitOne K (.ref cM) (.ref cN) = some false) (kMU : PySem.W.kitOne K (.ref cM) (.ref cU) = some false) (kNR : PySem.W.kitOne K (.ref cN) (.ref cR) = some false) (kNS : PySem.W.kitOne K (.ref cN) (.ref cS) = some false) (kNP : PySem.W.kitOne K (.ref cN) (.ref cP) = some false) (kNM : PySem.W.kitOne K (.ref cN) (.ref cM) = some false) (kNU : PySem.W.kitOne K (.ref cN) (.ref cU) = some false) (kUR : PySem.W.kitOne K (.ref cU) (.ref cR) = some false) (kUS : PySem.W.kitOne K (.ref cU) (.ref cS) = some false) (kUP : PySem.W.kitOne K (.ref cU) (.ref cP) = some false) (kUM : PySem.W.kitOne K (.ref cU) (.ref cM) = some false) (kUN : PySem.W.kitOne K (.ref cU) (.ref cN) = some false) (xR : PySem.W.kitOne K (.ref cR) (.ref cX) = some false) (xS : PySem.W.kitOne K (.ref cS) (.ref cX) = some false) (xP : PySem.W.kitOne K (.ref cP) (.ref cX) = some false) (xM : PySem.W.kitOne K (.ref cM) (.ref cX) = some false) (xN : PySem.W.kitOne K (.ref cN) (.ref cX) = some false) (xU : PySem.W.kitOne K (.ref cU) (.ref cX) = some false) (vR : PySem.W.kitOne K (.ref cR) (.type "ValueError") = some true) (vS : PySem.W.kitOne K (.ref cS) (.type "ValueError") = some true) (vP : PySem.W.kitOne K (.ref cP) (.type "ValueError") = some true) (vM : PySem.W.kitOne K (.ref cM) (.type "ValueError") = some true) (vN : PySem.W.kitOne K (.ref cN) (.type "ValueError") = some true) (vU : PySem.W.kitOne K (.ref cU) (.type "ValueError") = some true) : ErrF K (adr cR cS cP cM cN cU) cT cX where
  tow := fun c => match c with
    | .R => tR
    | .S => tS
    | .P => tP
    | .M => tM
    | .N => tN
    | .U => tU
  ec := fun c => match c with
    | .R => eR
    | .S => eS
    | .P => eP
    | .M => eM
    | .N => eN
    | .U => eU
  txt := fun c => match c with
    | .R => xR
    | .S => xS
    | .P => xP
    | .M => xM
    | .N => xN
    | .U => xU
  val := fun c => match c with
    | .R => vR
    | .S => vS
    | .P => vP
    | .M => vM
    | .N => vN
    | .U => vU
  one := fun c d => match c, d with
    | .R, .R => kit_self
    | .R, .S => kRS
    | .R, .P => kRP
    | .R, .M => kRM
    | .R, .N => kRN
    | .R, .U => kRU
    | .S, .R => kSR
    | .S, .S => kit_self
    | .S, .P => kSP
    | .S, .M => kSM
    | .S, .N => kSN
    | .S, .U => kSU
    | .P, .R => kPR
    | .P, .S => kPS
    | .P, .P => kit_self
    | .P, .M => kPM
    | .P, .N => kPN
    | .P, .U => kPU
    | .M, .R => kMR
    | .M, .S => kMS
    | .M, .P => kMP
    | .M, .M => kit_self
    | .M, .N => kMN
    | .M, .U => kMU
    | .N, .R => kNR
    | .N, .S => kNS
    | .N, .P => kNP
    | .N, .M => kNM
    | .N, .N => kit_self
    | .N, .U => kNU
    | .U, .R => kUR
    | .U, .S => kUS
    | .U, .P => kUP
    | .U, .M => kUM
    | .U, .N => kUN
    | .U, .U => kit_self
theorem all7 {P : Program} {w : World} {K : PySem.W.Frag} {mg : Str → Option Value} {base : Heap} (B : Blt mg) (BV : mg "ValueError" = none) {cT cR cS cP cM cN cU cX aR : Addr} (XE0 : Errs mg cT cR cS cP cM cN cU cX) (EF : ErrF K (adr cR cS cP cM cN cU) cT cX) (yR : Exc K mg "BadRule" cR) (yS : Exc K mg "BadState" cS) (yP : Exc K mg "BadPeg" cP) (yM : Exc K mg "BadMove" cM) (yN : Exc K mg "BadNumber" cN) (yU : Exc K mg "Unlike" cU) (TR : mg "RULES" = some (.ref aR)) (hR : ∀ H, SqL K H aR [.str "free", .str "line", .str "round"])
    (D_towers : Df K mg "towers" s_towers ["rule", "many"]) (D_is_near : Df K mg "is_near" s_is_near ["rule", "start", "end"]) (D_tower : Df K mg "tower" s_tower ["rule", "counts", "start", "end"]) (D_steps_of : Df K mg "steps_of" s_steps_of ["rule", "start", "end"]) (D_is_whole : Df K mg "is_whole" s_is_whole ["thing"]) (D_is_peg : Df K mg "is_peg" s_is_peg ["thing"]) (D_check_rule : Df K mg "check_rule" s_check_rule ["rule"]) (D_check_state : Df K mg "check_state" s_check_state ["state"]) (D_check_peg : Df K mg "check_peg" s_check_peg ["peg"]) (D_is_allowed : Df K mg "is_allowed" s_is_allowed ["rule", "start", "end"]) (D_moves_of : Df K mg "moves_of" s_moves_of ["rule", "state"]) (D_moves : Df K mg "moves" s_moves ["rule", "state"]) (D_is_move : Df K mg "is_move" s_is_move ["thing"]) (D_done : Df K mg "done" s_done ["rule", "state", "some"]) (D_goals_of : Df K mg "goals_of" s_goals_of ["rule", "state", "peg"]) (D_left_of : Df K mg "left_of" s_left_of ["rule", "state", "peg", "table"]) (D_behind_first : Df K mg "behind_first" s_behind_first ["rule", "start", "end", "ahead"]) (D_left : Df K mg "left" s_left ["rule", "state", "peg"]) (D_next_move : Df K mg "next_move" s_next_move ["rule", "state", "peg"]) (D_led : Df K mg "led" s_led ["rule", "state", "peg", "number", "table"]) (D_behind : Df K mg "behind" s_behind ["rule", "state", "peg", "number"]) (D_number_by_line : Df K mg "number_by_line" s_number_by_line ["state"]) (D_number_of : Df K mg "number_of" s_number_of ["state"]) (D_state_of : Df K mg "state_of" s_state_of ["discs", "number"]) (D_apart_free : Df K mg "apart_free" s_apart_free ["one", "other"]) (D_apart : Df K mg "apart" s_apart ["rule", "one", "other"]) (D_written : Df K mg "written" s_written ["state"]) (D_law_cell_at : Df K mg "_law_cell_at" s_law_cell_at ["script", "k"]) (D_law_draw : Df K mg "_law_draw" s_law_draw ["cell", "k", "many"]) (D_law_state : Df K mg "_law_state" s_law_state ["script", "by"]) (D_law_kinds : Df K mg "_law_kinds" s_law_kinds ["error"]) (D_law_with_rule : Df K mg "_law_with_rule" s_law_with_rule ["door", "rule"]) (D_law_with_state : Df K mg "_law_with_state" s_law_with_state ["door", "state"]) (D_law_with_peg : Df K mg "_law_with_peg" s_law_with_peg ["door", "peg"]) (D_law_with_moves : Df K mg "_law_with_moves" s_law_with_moves ["door", "some"]) (D_law_with_number : Df K mg "_law_with_number" s_law_with_number ["told", "number"]) (D_law_discs : Df K mg "_law_discs" s_law_discs ["discs", "number"]) (D_law_two : Df K mg "_law_two" s_law_two ["one", "other"]) (D_law_two_free : Df K mg "_law_two_free" s_law_two_free ["one", "other"]) (D_law_told : Df K mg "_law_told" s_law_told ["ask", "one", "other"]) (D_law_all : Df K mg "_law_all" s_law_all ["ask", "doors", "things", "due"]) (D_law_numbers_right : Df K mg "_law_numbers_right" s_law_numbers_right ["state", "due", "far"])
    {f0 : Addr} {fd0 : FuncData} (D : DefAt K mg "law" s_law ["script"] f0 fd0) : FnOk P w K mg base CX0 12 f0 fd0 ["script"] (sp_law K) := by
  generalize had : adr cR cS cP cM cN cU = ad at EF
  have hR1 : ad .R = cR := by rw [← had]; rfl
  have hS1 : ad .S = cS := by rw [← had]; rfl
  have hP1 : ad .P = cP := by rw [← had]; rfl
  have hM1 : ad .M = cM := by rw [← had]; rfl
  have hN1 : ad .N = cN := by rw [← had]; rfl
  have hU1 : ad .U = cU := by rw [← had]; rfl
  clear had
  subst hR1 hS1 hP1 hM1 hN1 hU1
  have h_is_near := ok_is_near (P := P) (w := w) (base := base) D_is_near B
  have h_tower := ok_tower D_tower h_is_near
  have h_steps_of := ok_steps_of D_steps_of h_is_near
  have h_towers := ok_towers (P := P) (w := w) (base := base) D_towers B
  have h_behind_first := ok_behind_first D_behind_first h_steps_of h_tower
  have h_goals_of := ok_goals_of D_goals_of B h_steps_of
  have h_left_of := ok_left_of D_left_of B h_goals_of h_behind_first
  have h_is_allowed := ok_is_allowed (P := P) (w := w) (base := base) D_is_allowed B
  have h_moves_of := ok_moves_of D_moves_of B h_is_allowed
  have h_is_whole := ok_is_whole (P := P) (w := w) (base := base) D_is_whole B
  have h_is_peg := ok_is_peg D_is_peg h_is_whole
  have h_check_rule := ok_check_rule (P := P) (w := w) (base := base) (ad := ad) (cT := cT) (cX := cX) D_check_rule B yR TR hR
  have h_check_peg := ok_check_peg (ad := ad) D_check_peg yP h_is_peg
  have h_check_state := ok_check_state (ad := ad) D_check_state B yS h_is_peg
  have h_is_move := ok_is_move D_is_move B h_is_whole
  have h_line := ok_no_line (P := P) (w := w) (base := base) D_number_by_line
  have h_free := ok_no_free (P := P) (w := w) (base := base) D_apart_free
  have h_led := ok_no_led (P := P) (w := w) (base := base) D_led
  have h_moves := ok_moves D_moves h_check_rule h_check_state h_moves_of
  have h_number_of := ok_number_of D_number_of h_check_state h_line
  have h_written := ok_written D_written B h_check_state
  have h_left := ok_left D_left B h_check_rule h_check_state h_check_peg h_left_of h_towers
  have h_next_move := ok_next_move D_next_move B h_check_rule h_check_state h_check_peg h_goals_of h_steps_of
  have h_behind := ok_behind D_behind B yN h_is_whole h_check_rule h_check_state h_check_peg h_left_of h_towers h_led
  have h_state_of := ok_state_of D_state_of B yN h_is_whole
  have h_apart := ok_apart D_apart B yR yU h_check_rule h_check_state h_line h_free
  have h_done := ok_done D_done B yM h_check_rule h_check_state h_moves_of h_is_move
  have hk0 := fun c => ok_kinds (P := P) (w := w) (base := base) D_law_kinds B BV XE0 EF c
  have h_told := ok_toldX D_law_told B BV XE0 EF hk0
  have h_all := ok_allX D_law_all B h_told
  obtain ⟨f1, m1, a1⟩ := ask_of (ok_with_rule D_law_with_rule h_moves h_done h_left h_next_move h_behind h_apart)
  obtain ⟨f2, m2, a2⟩ := ask_of (ok_with_state D_law_with_state h_moves h_done h_left h_next_move h_behind h_number_of h_written h_apart)
  obtain ⟨f3, m3, a3⟩ := ask_of (ok_with_peg D_law_with_peg h_left h_next_move h_behind)
  obtain ⟨f4, m4, a4⟩ := ask_of (ok_with_moves D_law_with_moves h_done)
  obtain ⟨f5, m5, a5⟩ := ask_of (ok_with_number D_law_with_number h_behind)
  obtain ⟨f6, m6, a6⟩ := ask_of (ok_discs D_law_discs h_state_of)
  obtain ⟨f7, m7, a7⟩ := ask_of (ok_two D_law_two h_apart)
  obtain ⟨f8, m8, a8⟩ := ask_of (ok_two_free D_law_two_free h_apart)
  have h_cell := ok_cell (P := P) (w := w) (base := base) D_law_cell_at B
  have h_draw := ok_draw (P := P) (w := w) (base := base) D_law_draw
  have h_state := ok_state D_law_state B h_cell h_draw
  have h_nums := ok_nums D_law_numbers_right B m5 m6 a5 a6 h_left h_all
  exact ok_law D B m1 m2 m3 m4 m7 m8 a1 a2 a3 a4 a7 a8 h_cell h_state h_told h_all h_nums h_done h_left
end Peg
open PySem PySem.W PyProof.Rows
set_option maxHeartbeats 0 in
theorem PySem.Challenge.cw_pegtowers_k07_refused_holds : PySem.Challenge.rw_pegtowers_k07_refused.Holds := by
  w_on; o_law; k_head; (case hw => w_witness2)
  k_fill
  refine L2.walk_of (l := PySem.Challenge.rw_pegtowers_k07_refused) (n := 63) (k := 12) (x := "script") (CX := fun _ => L2.CX0) (sp := fun w => Peg.sp_law _) rfl (by decide) rfl ⟨rfl, by decide, by decide⟩ (fun w h Y => PySem.W.kIn_of Y) ?F (fun _ _ a ns hl _ hS => ⟨a, ns, rfl, hS, hl, fun _ => rfl⟩) (fun _ _ _ _ _ h => h)
  case F =>
    intro w mg fa h KX G hmg
    have B : Peg.Blt mg := by
      constructor <;> (refine' PySem.W.mg_none_of KX G ?z; (case z => k_is))
    refine' (Peg.rules_of KX G ?a ?l ?h1 ?h2 ?h3 ?h4 ?h5).elim ?go
    (case a => k_is); (case l => k_is); (case h1 => rfl); (case h2 => rfl); (case h3 => rfl); (case h4 => decide)
    (case h5 => exact .cons ⟨_, rfl⟩ (.cons ⟨_, rfl⟩ (.cons ⟨_, rfl⟩ .nil)))
    rintro aR ⟨TR, hR⟩
    refine' Peg.df_go (x := "towers") (st := Peg.s_towers) (ps := ["rule", "many"]) KX G ?a0 ?l0 ?c0 ?k0 (fun _ _ _ _ _ _ us hl => match us, hl with | [_, _], _ => rfl) ?go0
    (case a0 => k_is); (case l0 => k_is); (case c0 => k_is); (case k0 => k_is)
    intro D_towers
    refine' Peg.df_go (x := "is_near") (st := Peg.s_is_near) (ps := ["rule", "start", "end"]) KX G ?a1 ?l1 ?c1 ?k1 (fun _ _ _ _ _ _ us hl => match us, hl with | [_, _, _], _ => rfl) ?go1
    (case a1 => k_is); (case l1 => k_is); (case c1 => k_is); (case k1 => k_is)
    intro D_is_near
    refine' Peg.df_go (x := "tower") (st := Peg.s_tower) (ps := ["rule", "counts", "start", "end"]) KX G ?a2 ?l2 ?c2 ?k2 (fun _ _ _ _ _ _ us hl => match us, hl with | [_, _, _, _], _ => rfl) ?go2
    (case a2 => k_is); (case l2 => k_is); (case c2 => k_is); (case k2 => k_is)
    intro D_tower
    refine' Peg.df_go (x := "steps_of") (st := Peg.s_steps_of) (ps := ["rule", "start", "end"]) KX G ?a3 ?l3 ?c3 ?k3 (fun _ _ _ _ _ _ us hl => match us, hl with | [_, _, _], _ => rfl) ?go3
    (case a3 => k_is); (case l3 => k_is); (case c3 => k_is); (case k3 => k_is)
    intro D_steps_of
    refine' Peg.df_go (x := "is_whole") (st := Peg.s_is_whole) (ps := ["thing"]) KX G ?a4 ?l4 ?c4 ?k4 (fun _ _ _ _ _ _ us hl => match us, hl with | [_], _ => rfl) ?go4
    (case a4 => k_is); (case l4 => k_is); (case c4 => k_is); (case k4 => k_is)
    intro D_is_whole
    refine' Peg.df_go (x := "is_peg") (st := Peg.s_is_peg) (ps := ["thing"]) KX G ?a5 ?l5 ?c5 ?k5 (fun _ _ _ _ _ _ us hl => match us, hl with | [_], _ => rfl) ?go5
    (case a5 => k_is); (case l5 => k_is); (case c5 => k_is); (case k5 => k_is)
    intro D_is_peg
    refine' Peg.df_go (x := "check_rule") (st := Peg.s_check_rule) (ps := ["rule"]) KX G ?a6 ?l6 ?c6 ?k6 (fun _ _ _ _ _ _ us hl => match us, hl with | [_], _ => rfl) ?go6
    (case a6 => k_is); (case l6 => k_is); (case c6 => k_is); (case k6 => k_is)
    intro D_check_rule
    refine' Peg.df_go (x := "check_state") (st := Peg.s_check_state) (ps := ["state"]) KX G ?a7 ?l7 ?c7 ?k7 (fun _ _ _ _ _ _ us hl => match us, hl with | [_], _ => rfl) ?go7
    (case a7 => k_is); (case l7 => k_is); (case c7 => k_is); (case k7 => k_is)
    intro D_check_state
    refine' Peg.df_go (x := "check_peg") (st := Peg.s_check_peg) (ps := ["peg"]) KX G ?a8 ?l8 ?c8 ?k8 (fun _ _ _ _ _ _ us hl => match us, hl with | [_], _ => rfl) ?go8
    (case a8 => k_is); (case l8 => k_is); (case c8 => k_is); (case k8 => k_is)
    intro D_check_peg
    refine' Peg.df_go (x := "is_allowed") (st := Peg.s_is_allowed) (ps := ["rule", "start", "end"]) KX G ?a9 ?l9 ?c9 ?k9 (fun _ _ _ _ _ _ us hl => match us, hl with | [_, _, _], _ => rfl) ?go9
    (case a9 => k_is); (case l9 => k_is); (case c9 => k_is); (case k9 => k_is)
    intro D_is_allowed
    refine' Peg.df_go (x := "moves_of") (st := Peg.s_moves_of) (ps := ["rule", "state"]) KX G ?a10 ?l10 ?c10 ?k10 (fun _ _ _ _ _ _ us hl => match us, hl with | [_, _], _ => rfl) ?go10
    (case a10 => k_is); (case l10 => k_is); (case c10 => k_is); (case k10 => k_is)
    intro D_moves_of
    refine' Peg.df_go (x := "moves") (st := Peg.s_moves) (ps := ["rule", "state"]) KX G ?a11 ?l11 ?c11 ?k11 (fun _ _ _ _ _ _ us hl => match us, hl with | [_, _], _ => rfl) ?go11
    (case a11 => k_is); (case l11 => k_is); (case c11 => k_is); (case k11 => k_is)
    intro D_moves
    refine' Peg.df_go (x := "is_move") (st := Peg.s_is_move) (ps := ["thing"]) KX G ?a12 ?l12 ?c12 ?k12 (fun _ _ _ _ _ _ us hl => match us, hl with | [_], _ => rfl) ?go12
    (case a12 => k_is); (case l12 => k_is); (case c12 => k_is); (case k12 => k_is)
    intro D_is_move
    refine' Peg.df_go (x := "done") (st := Peg.s_done) (ps := ["rule", "state", "some"]) KX G ?a13 ?l13 ?c13 ?k13 (fun _ _ _ _ _ _ us hl => match us, hl with | [_, _, _], _ => rfl) ?go13
    (case a13 => k_is); (case l13 => k_is); (case c13 => k_is); (case k13 => k_is)
    intro D_done
    refine' Peg.df_go (x := "goals_of") (st := Peg.s_goals_of) (ps := ["rule", "state", "peg"]) KX G ?a14 ?l14 ?c14 ?k14 (fun _ _ _ _ _ _ us hl => match us, hl with | [_, _, _], _ => rfl) ?go14
    (case a14 => k_is); (case l14 => k_is); (case c14 => k_is); (case k14 => k_is)
    intro D_goals_of
    refine' Peg.df_go (x := "left_of") (st := Peg.s_left_of) (ps := ["rule", "state", "peg", "table"]) KX G ?a15 ?l15 ?c15 ?k15 (fun _ _ _ _ _ _ us hl => match us, hl with | [_, _, _, _], _ => rfl) ?go15
    (case a15 => k_is); (case l15 => k_is); (case c15 => k_is); (case k15 => k_is)
    intro D_left_of
    refine' Peg.df_go (x := "behind_first") (st := Peg.s_behind_first) (ps := ["rule", "start", "end", "ahead"]) KX G ?a16 ?l16 ?c16 ?k16 (fun _ _ _ _ _ _ us hl => match us, hl with | [_, _, _, _], _ => rfl) ?go16
    (case a16 => k_is); (case l16 => k_is); (case c16 => k_is); (case k16 => k_is)
    intro D_behind_first
    refine' Peg.df_go (x := "left") (st := Peg.s_left) (ps := ["rule", "state", "peg"]) KX G ?a17 ?l17 ?c17 ?k17 (fun _ _ _ _ _ _ us hl => match us, hl with | [_, _, _], _ => rfl) ?go17
    (case a17 => k_is); (case l17 => k_is); (case c17 => k_is); (case k17 => k_is)
    intro D_left
    refine' Peg.df_go (x := "next_move") (st := Peg.s_next_move) (ps := ["rule", "state", "peg"]) KX G ?a18 ?l18 ?c18 ?k18 (fun _ _ _ _ _ _ us hl => match us, hl with | [_, _, _], _ => rfl) ?go18
    (case a18 => k_is); (case l18 => k_is); (case c18 => k_is); (case k18 => k_is)
    intro D_next_move
    refine' Peg.df_go (x := "led") (st := Peg.s_led) (ps := ["rule", "state", "peg", "number", "table"]) KX G ?a21 ?l21 ?c21 ?k21 (fun _ _ _ _ _ _ us hl => match us, hl with | [_, _, _, _, _], _ => rfl) ?go21
    (case a21 => k_is); (case l21 => k_is); (case c21 => k_is); (case k21 => k_is)
    intro D_led
    refine' Peg.df_go (x := "behind") (st := Peg.s_behind) (ps := ["rule", "state", "peg", "number"]) KX G ?a22 ?l22 ?c22 ?k22 (fun _ _ _ _ _ _ us hl => match us, hl with | [_, _, _, _], _ => rfl) ?go22
    (case a22 => k_is); (case l22 => k_is); (case c22 => k_is); (case k22 => k_is)
    intro D_behind
    refine' Peg.df_go (x := "number_by_line") (st := Peg.s_number_by_line) (ps := ["state"]) KX G ?a23 ?l23 ?c23 ?k23 (fun _ _ _ _ _ _ us hl => match us, hl with | [_], _ => rfl) ?go23
    (case a23 => k_is); (case l23 => k_is); (case c23 => k_is); (case k23 => k_is)
    intro D_number_by_line
    refine' Peg.df_go (x := "number_of") (st := Peg.s_number_of) (ps := ["state"]) KX G ?a24 ?l24 ?c24 ?k24 (fun _ _ _ _ _ _ us hl => match us, hl with | [_], _ => rfl) ?go24
    (case a24 => k_is); (case l24 => k_is); (case c24 => k_is); (case k24 => k_is)
    intro D_number_of
    refine' Peg.df_go (x := "state_of") (st := Peg.s_state_of) (ps := ["discs", "number"]) KX G ?a25 ?l25 ?c25 ?k25 (fun _ _ _ _ _ _ us hl => match us, hl with | [_, _], _ => rfl) ?go25
    (case a25 => k_is); (case l25 => k_is); (case c25 => k_is); (case k25 => k_is)
    intro D_state_of
    refine' Peg.df_go (x := "apart_free") (st := Peg.s_apart_free) (ps := ["one", "other"]) KX G ?a26 ?l26 ?c26 ?k26 (fun _ _ _ _ _ _ us hl => match us, hl with | [_, _], _ => rfl) ?go26
    (case a26 => k_is); (case l26 => k_is); (case c26 => k_is); (case k26 => k_is)
    intro D_apart_free
    refine' Peg.df_go (x := "apart") (st := Peg.s_apart) (ps := ["rule", "one", "other"]) KX G ?a27 ?l27 ?c27 ?k27 (fun _ _ _ _ _ _ us hl => match us, hl with | [_, _, _], _ => rfl) ?go27
    (case a27 => k_is); (case l27 => k_is); (case c27 => k_is); (case k27 => k_is)
    intro D_apart
    refine' Peg.df_go (x := "written") (st := Peg.s_written) (ps := ["state"]) KX G ?a28 ?l28 ?c28 ?k28 (fun _ _ _ _ _ _ us hl => match us, hl with | [_], _ => rfl) ?go28
    (case a28 => k_is); (case l28 => k_is); (case c28 => k_is); (case k28 => k_is)
    intro D_written
    refine' Peg.df_go (x := "_law_cell_at") (st := Peg.s_law_cell_at) (ps := ["script", "k"]) KX G ?a29 ?l29 ?c29 ?k29 (fun _ _ _ _ _ _ us hl => match us, hl with | [_, _], _ => rfl) ?go29
    (case a29 => k_is); (case l29 => k_is); (case c29 => k_is); (case k29 => k_is)
    intro D_law_cell_at
    refine' Peg.df_go (x := "_law_draw") (st := Peg.s_law_draw) (ps := ["cell", "k", "many"]) KX G ?a30 ?l30 ?c30 ?k30 (fun _ _ _ _ _ _ us hl => match us, hl with | [_, _, _], _ => rfl) ?go30
    (case a30 => k_is); (case l30 => k_is); (case c30 => k_is); (case k30 => k_is)
    intro D_law_draw
    refine' Peg.df_go (x := "_law_state") (st := Peg.s_law_state) (ps := ["script", "by"]) KX G ?a31 ?l31 ?c31 ?k31 (fun _ _ _ _ _ _ us hl => match us, hl with | [_, _], _ => rfl) ?go31
    (case a31 => k_is); (case l31 => k_is); (case c31 => k_is); (case k31 => k_is)
    intro D_law_state
    refine' Peg.df_go (x := "_law_kinds") (st := Peg.s_law_kinds) (ps := ["error"]) KX G ?a35 ?l35 ?c35 ?k35 (fun _ _ _ _ _ _ us hl => match us, hl with | [_], _ => rfl) ?go35
    (case a35 => k_is); (case l35 => k_is); (case c35 => k_is); (case k35 => k_is)
    intro D_law_kinds
    refine' Peg.df_go (x := "_law_with_rule") (st := Peg.s_law_with_rule) (ps := ["door", "rule"]) KX G ?a36 ?l36 ?c36 ?k36 (fun _ _ _ _ _ _ us hl => match us, hl with | [_, _], _ => rfl) ?go36
    (case a36 => k_is); (case l36 => k_is); (case c36 => k_is); (case k36 => k_is)
    intro D_law_with_rule
    refine' Peg.df_go (x := "_law_with_state") (st := Peg.s_law_with_state) (ps := ["door", "state"]) KX G ?a37 ?l37 ?c37 ?k37 (fun _ _ _ _ _ _ us hl => match us, hl with | [_, _], _ => rfl) ?go37
    (case a37 => k_is); (case l37 => k_is); (case c37 => k_is); (case k37 => k_is)
    intro D_law_with_state
    refine' Peg.df_go (x := "_law_with_peg") (st := Peg.s_law_with_peg) (ps := ["door", "peg"]) KX G ?a38 ?l38 ?c38 ?k38 (fun _ _ _ _ _ _ us hl => match us, hl with | [_, _], _ => rfl) ?go38
    (case a38 => k_is); (case l38 => k_is); (case c38 => k_is); (case k38 => k_is)
    intro D_law_with_peg
    refine' Peg.df_go (x := "_law_with_moves") (st := Peg.s_law_with_moves) (ps := ["door", "some"]) KX G ?a39 ?l39 ?c39 ?k39 (fun _ _ _ _ _ _ us hl => match us, hl with | [_, _], _ => rfl) ?go39
    (case a39 => k_is); (case l39 => k_is); (case c39 => k_is); (case k39 => k_is)
    intro D_law_with_moves
    refine' Peg.df_go (x := "_law_with_number") (st := Peg.s_law_with_number) (ps := ["told", "number"]) KX G ?a40 ?l40 ?c40 ?k40 (fun _ _ _ _ _ _ us hl => match us, hl with | [_, _], _ => rfl) ?go40
    (case a40 => k_is); (case l40 => k_is); (case c40 => k_is); (case k40 => k_is)
    intro D_law_with_number
    refine' Peg.df_go (x := "_law_discs") (st := Peg.s_law_discs) (ps := ["discs", "number"]) KX G ?a41 ?l41 ?c41 ?k41 (fun _ _ _ _ _ _ us hl => match us, hl with | [_, _], _ => rfl) ?go41
    (case a41 => k_is); (case l41 => k_is); (case c41 => k_is); (case k41 => k_is)
    intro D_law_discs
    refine' Peg.df_go (x := "_law_two") (st := Peg.s_law_two) (ps := ["one", "other"]) KX G ?a42 ?l42 ?c42 ?k42 (fun _ _ _ _ _ _ us hl => match us, hl with | [_, _], _ => rfl) ?go42
    (case a42 => k_is); (case l42 => k_is); (case c42 => k_is); (case k42 => k_is)
    intro D_law_two
    refine' Peg.df_go (x := "_law_two_free") (st := Peg.s_law_two_free) (ps := ["one", "other"]) KX G ?a43 ?l43 ?c43 ?k43 (fun _ _ _ _ _ _ us hl => match us, hl with | [_, _], _ => rfl) ?go43
    (case a43 => k_is); (case l43 => k_is); (case c43 => k_is); (case k43 => k_is)
    intro D_law_two_free
    refine' Peg.df_go (x := "_law_told") (st := Peg.s_law_told) (ps := ["ask", "one", "other"]) KX G ?a44 ?l44 ?c44 ?k44 (fun _ _ _ _ _ _ us hl => match us, hl with | [_, _, _], _ => rfl) ?go44
    (case a44 => k_is); (case l44 => k_is); (case c44 => k_is); (case k44 => k_is)
    intro D_law_told
    refine' Peg.df_go (x := "_law_all") (st := Peg.s_law_all) (ps := ["ask", "doors", "things", "due"]) KX G ?a45 ?l45 ?c45 ?k45 (fun _ _ _ _ _ _ us hl => match us, hl with | [_, _, _, _], _ => rfl) ?go45
    (case a45 => k_is); (case l45 => k_is); (case c45 => k_is); (case k45 => k_is)
    intro D_law_all
    refine' Peg.df_go (x := "_law_numbers_right") (st := Peg.s_law_numbers_right) (ps := ["state", "due", "far"]) KX G ?a46 ?l46 ?c46 ?k46 (fun _ _ _ _ _ _ us hl => match us, hl with | [_, _, _], _ => rfl) ?go46
    (case a46 => k_is); (case l46 => k_is); (case c46 => k_is); (case k46 => k_is)
    intro D_law_numbers_right
    refine' Peg.df_go (x := "law") (st := Peg.s_law) (ps := ["script"]) KX G ?a47 ?l47 ?c47 ?k47 (fun _ _ _ _ _ _ us hl => match us, hl with | [_], _ => rfl) ?go47
    (case a47 => k_is); (case l47 => k_is); (case c47 => k_is); (case k47 => k_is)
    intro D_law
    refine' Peg.errs_go (x := "TowerError") KX G ?nT ?gT
    (case nT => k_is)
    intro gT
    refine' Peg.errs_go (x := "BadRule") KX G ?nR ?gR
    (case nR => k_is)
    intro gR
    refine' Peg.errs_go (x := "BadState") KX G ?nS ?gS
    (case nS => k_is)
    intro gS
    refine' Peg.errs_go (x := "BadPeg") KX G ?nP ?gP
    (case nP => k_is)
    intro gP
    refine' Peg.errs_go (x := "BadMove") KX G ?nM ?gM
    (case nM => k_is)
    intro gM
    refine' Peg.errs_go (x := "BadNumber") KX G ?nN ?gN
    (case nN => k_is)
    intro gN
    refine' Peg.errs_go (x := "Unlike") KX G ?nU ?gU
    (case nU => k_is)
    intro gU
    refine' Peg.errs_go (x := "BadText") KX G ?nX ?gX
    (case nX => k_is)
    intro gX
    have BV : mg "ValueError" = none := by
      refine' PySem.W.mg_none_of KX G ?z
      case z => k_is
    refine' Peg.exc_go KX gR ?exR ?ekR ?ebR ?etR ?egR
    (case exR => k_exc); (case ekR => k_is); (case ebR => k_is); (case etR => k_is)
    intro yR
    refine' Peg.ec_go KX gR ?c1R ?c2R ?c3R ?c4R ?c5R ?c6R ?c7R ?c8R ?c9R
    (case c1R => k_is); (case c2R => k_is); (case c3R => k_is); (case c4R => k_is); (case c5R => k_is); (case c6R => k_is); (case c7R => k_is); (case c8R => k_is)
    intro ecR
    refine' Peg.exm_go KX gR gT ?m1R ?m2R ?m3R ?m4R ?m5R
    (case m1R => k_is); (case m2R => k_is); (case m3R => k_is); (case m4R => k_is)
    intro tmR
    refine' Peg.kitT_go (c := "ValueError") true KX gR (by decide +kernel) ?k1vR ?k2vR
    (case k1vR => k_is)
    intro vaR
    refine' Peg.kit_go false KX gR gS ?k1RS ?k2RS ?k3RS (by decide) ?k4RS
    (case k1RS => k_is); (case k2RS => k_is); (case k3RS => k_is)
    intro kRS
    refine' Peg.kit_go false KX gR gP ?k1RP ?k2RP ?k3RP (by decide) ?k4RP
    (case k1RP => k_is); (case k2RP => k_is); (case k3RP => k_is)
    intro kRP
    refine' Peg.kit_go false KX gR gM ?k1RM ?k2RM ?k3RM (by decide) ?k4RM
    (case k1RM => k_is); (case k2RM => k_is); (case k3RM => k_is)
    intro kRM
    refine' Peg.kit_go false KX gR gN ?k1RN ?k2RN ?k3RN (by decide) ?k4RN
    (case k1RN => k_is); (case k2RN => k_is); (case k3RN => k_is)
    intro kRN
    refine' Peg.kit_go false KX gR gU ?k1RU ?k2RU ?k3RU (by decide) ?k4RU
    (case k1RU => k_is); (case k2RU => k_is); (case k3RU => k_is)
    intro kRU
    refine' Peg.kit_go false KX gR gX ?k1RX ?k2RX ?k3RX (by decide) ?k4RX
    (case k1RX => k_is); (case k2RX => k_is); (case k3RX => k_is)
    intro kRX
    refine' Peg.exc_go KX gS ?exS ?ekS ?ebS ?etS ?egS
    (case exS => k_exc); (case ekS => k_is); (case ebS => k_is); (case etS => k_is)
    intro yS
    refine' Peg.ec_go KX gS ?c1S ?c2S ?c3S ?c4S ?c5S ?c6S ?c7S ?c8S ?c9S
    (case c1S => k_is); (case c2S => k_is); (case c3S => k_is); (case c4S => k_is); (case c5S => k_is); (case c6S => k_is); (case c7S => k_is); (case c8S => k_is)
    intro ecS
    refine' Peg.exm_go KX gS gT ?m1S ?m2S ?m3S ?m4S ?m5S
    (case m1S => k_is); (case m2S => k_is); (case m3S => k_is); (case m4S => k_is)
    intro tmS
    refine' Peg.kitT_go (c := "ValueError") true KX gS (by decide +kernel) ?k1vS ?k2vS
    (case k1vS => k_is)
    intro vaS
    refine' Peg.kit_go false KX gS gR ?k1SR ?k2SR ?k3SR (by decide) ?k4SR
    (case k1SR => k_is); (case k2SR => k_is); (case k3SR => k_is)
    intro kSR
    refine' Peg.kit_go false KX gS gP ?k1SP ?k2SP ?k3SP (by decide) ?k4SP
    (case k1SP => k_is); (case k2SP => k_is); (case k3SP => k_is)
    intro kSP
    refine' Peg.kit_go false KX gS gM ?k1SM ?k2SM ?k3SM (by decide) ?k4SM
    (case k1SM => k_is); (case k2SM => k_is); (case k3SM => k_is)
    intro kSM
    refine' Peg.kit_go false KX gS gN ?k1SN ?k2SN ?k3SN (by decide) ?k4SN
    (case k1SN => k_is); (case k2SN => k_is); (case k3SN => k_is)
    intro kSN
    refine' Peg.kit_go false KX gS gU ?k1SU ?k2SU ?k3SU (by decide) ?k4SU
    (case k1SU => k_is); (case k2SU => k_is); (case k3SU => k_is)
    intro kSU
    refine' Peg.kit_go false KX gS gX ?k1SX ?k2SX ?k3SX (by decide) ?k4SX
    (case k1SX => k_is); (case k2SX => k_is); (case k3SX => k_is)
    intro kSX
    refine' Peg.exc_go KX gP ?exP ?ekP ?ebP ?etP ?egP
    (case exP => k_exc); (case ekP => k_is); (case ebP => k_is); (case etP => k_is)
    intro yP
    refine' Peg.ec_go KX gP ?c1P ?c2P ?c3P ?c4P ?c5P ?c6P ?c7P ?c8P ?c9P
    (case c1P => k_is); (case c2P => k_is); (case c3P => k_is); (case c4P => k_is); (case c5P => k_is); (case c6P => k_is); (case c7P => k_is); (case c8P => k_is)
    intro ecP
    refine' Peg.exm_go KX gP gT ?m1P ?m2P ?m3P ?m4P ?m5P
    (case m1P => k_is); (case m2P => k_is); (case m3P => k_is); (case m4P => k_is)
    intro tmP
    refine' Peg.kitT_go (c := "ValueError") true KX gP (by decide +kernel) ?k1vP ?k2vP
    (case k1vP => k_is)
    intro vaP
    refine' Peg.kit_go false KX gP gR ?k1PR ?k2PR ?k3PR (by decide) ?k4PR
    (case k1PR => k_is); (case k2PR => k_is); (case k3PR => k_is)
    intro kPR
    refine' Peg.kit_go false KX gP gS ?k1PS ?k2PS ?k3PS (by decide) ?k4PS
    (case k1PS => k_is); (case k2PS => k_is); (case k3PS => k_is)
    intro kPS
    refine' Peg.kit_go false KX gP gM ?k1PM ?k2PM ?k3PM (by decide) ?k4PM
    (case k1PM => k_is); (case k2PM => k_is); (case k3PM => k_is)
    intro kPM
    refine' Peg.kit_go false KX gP gN ?k1PN ?k2PN ?k3PN (by decide) ?k4PN
    (case k1PN => k_is); (case k2PN => k_is); (case k3PN => k_is)
    intro kPN
    refine' Peg.kit_go false KX gP gU ?k1PU ?k2PU ?k3PU (by decide) ?k4PU
    (case k1PU => k_is); (case k2PU => k_is); (case k3PU => k_is)
    intro kPU
    refine' Peg.kit_go false KX gP gX ?k1PX ?k2PX ?k3PX (by decide) ?k4PX
    (case k1PX => k_is); (case k2PX => k_is); (case k3PX => k_is)
    intro kPX
    refine' Peg.exc_go KX gM ?exM ?ekM ?ebM ?etM ?egM
    (case exM => k_exc); (case ekM => k_is); (case ebM => k_is); (case etM => k_is)
    intro yM
    refine' Peg.ec_go KX gM ?c1M ?c2M ?c3M ?c4M ?c5M ?c6M ?c7M ?c8M ?c9M
    (case c1M => k_is); (case c2M => k_is); (case c3M => k_is); (case c4M => k_is); (case c5M => k_is); (case c6M => k_is); (case c7M => k_is); (case c8M => k_is)
    intro ecM
    refine' Peg.exm_go KX gM gT ?m1M ?m2M ?m3M ?m4M ?m5M
    (case m1M => k_is); (case m2M => k_is); (case m3M => k_is); (case m4M => k_is)
    intro tmM
    refine' Peg.kitT_go (c := "ValueError") true KX gM (by decide +kernel) ?k1vM ?k2vM
    (case k1vM => k_is)
    intro vaM
    refine' Peg.kit_go false KX gM gR ?k1MR ?k2MR ?k3MR (by decide) ?k4MR
    (case k1MR => k_is); (case k2MR => k_is); (case k3MR => k_is)
    intro kMR
    refine' Peg.kit_go false KX gM gS ?k1MS ?k2MS ?k3MS (by decide) ?k4MS
    (case k1MS => k_is); (case k2MS => k_is); (case k3MS => k_is)
    intro kMS
    refine' Peg.kit_go false KX gM gP ?k1MP ?k2MP ?k3MP (by decide) ?k4MP
    (case k1MP => k_is); (case k2MP => k_is); (case k3MP => k_is)
    intro kMP
    refine' Peg.kit_go false KX gM gN ?k1MN ?k2MN ?k3MN (by decide) ?k4MN
    (case k1MN => k_is); (case k2MN => k_is); (case k3MN => k_is)
    intro kMN
    refine' Peg.kit_go false KX gM gU ?k1MU ?k2MU ?k3MU (by decide) ?k4MU
    (case k1MU => k_is); (case k2MU => k_is); (case k3MU => k_is)
    intro kMU
    refine' Peg.kit_go false KX gM gX ?k1MX ?k2MX ?k3MX (by decide) ?k4MX
    (case k1MX => k_is); (case k2MX => k_is); (case k3MX => k_is)
    intro kMX
    refine' Peg.exc_go KX gN ?exN ?ekN ?ebN ?etN ?egN
    (case exN => k_exc); (case ekN => k_is); (case ebN => k_is); (case etN => k_is)
    intro yN
    refine' Peg.ec_go KX gN ?c1N ?c2N ?c3N ?c4N ?c5N ?c6N ?c7N ?c8N ?c9N
    (case c1N => k_is); (case c2N => k_is); (case c3N => k_is); (case c4N => k_is); (case c5N => k_is); (case c6N => k_is); (case c7N => k_is); (case c8N => k_is)
    intro ecN
    refine' Peg.exm_go KX gN gT ?m1N ?m2N ?m3N ?m4N ?m5N
    (case m1N => k_is); (case m2N => k_is); (case m3N => k_is); (case m4N => k_is)
    intro tmN
    refine' Peg.kitT_go (c := "ValueError") true KX gN (by decide +kernel) ?k1vN ?k2vN
    (case k1vN => k_is)
    intro vaN
    refine' Peg.kit_go false KX gN gR ?k1NR ?k2NR ?k3NR (by decide) ?k4NR
    (case k1NR => k_is); (case k2NR => k_is); (case k3NR => k_is)
    intro kNR
    refine' Peg.kit_go false KX gN gS ?k1NS ?k2NS ?k3NS (by decide) ?k4NS
    (case k1NS => k_is); (case k2NS => k_is); (case k3NS => k_is)
    intro kNS
    refine' Peg.kit_go false KX gN gP ?k1NP ?k2NP ?k3NP (by decide) ?k4NP
    (case k1NP => k_is); (case k2NP => k_is); (case k3NP => k_is)
    intro kNP
    refine' Peg.kit_go false KX gN gM ?k1NM ?k2NM ?k3NM (by decide) ?k4NM
    (case k1NM => k_is); (case k2NM => k_is); (case k3NM => k_is)
    intro kNM
    refine' Peg.kit_go false KX gN gU ?k1NU ?k2NU ?k3NU (by decide) ?k4NU
    (case k1NU => k_is); (case k2NU => k_is); (case k3NU => k_is)
    intro kNU
    refine' Peg.kit_go false KX gN gX ?k1NX ?k2NX ?k3NX (by decide) ?k4NX
    (case k1NX => k_is); (case k2NX => k_is); (case k3NX => k_is)
    intro kNX
    refine' Peg.exc_go KX gU ?exU ?ekU ?ebU ?etU ?egU
    (case exU => k_exc); (case ekU => k_is); (case ebU => k_is); (case etU => k_is)
    intro yU
    refine' Peg.ec_go KX gU ?c1U ?c2U ?c3U ?c4U ?c5U ?c6U ?c7U ?c8U ?c9U
    (case c1U => k_is); (case c2U => k_is); (case c3U => k_is); (case c4U => k_is); (case c5U => k_is); (case c6U => k_is); (case c7U => k_is); (case c8U => k_is)
    intro ecU
    refine' Peg.exm_go KX gU gT ?m1U ?m2U ?m3U ?m4U ?m5U
    (case m1U => k_is); (case m2U => k_is); (case m3U => k_is); (case m4U => k_is)
    intro tmU
    refine' Peg.kitT_go (c := "ValueError") true KX gU (by decide +kernel) ?k1vU ?k2vU
    (case k1vU => k_is)
    intro vaU
    refine' Peg.kit_go false KX gU gR ?k1UR ?k2UR ?k3UR (by decide) ?k4UR
    (case k1UR => k_is); (case k2UR => k_is); (case k3UR => k_is)
    intro kUR
    refine' Peg.kit_go false KX gU gS ?k1US ?k2US ?k3US (by decide) ?k4US
    (case k1US => k_is); (case k2US => k_is); (case k3US => k_is)
    intro kUS
    refine' Peg.kit_go false KX gU gP ?k1UP ?k2UP ?k3UP (by decide) ?k4UP
    (case k1UP => k_is); (case k2UP => k_is); (case k3UP => k_is)
    intro kUP
    refine' Peg.kit_go false KX gU gM ?k1UM ?k2UM ?k3UM (by decide) ?k4UM
    (case k1UM => k_is); (case k2UM => k_is); (case k3UM => k_is)
    intro kUM
    refine' Peg.kit_go false KX gU gN ?k1UN ?k2UN ?k3UN (by decide) ?k4UN
    (case k1UN => k_is); (case k2UN => k_is); (case k3UN => k_is)
    intro kUN
    refine' Peg.kit_go false KX gU gX ?k1UX ?k2UX ?k3UX (by decide) ?k4UX
    (case k1UX => k_is); (case k2UX => k_is); (case k3UX => k_is)
    intro kUX
    have EF := Peg.errF_mk tmR tmS tmP tmM tmN tmU ecR ecS ecP ecM ecN ecU kRS kRP kRM kRN kRU kSR kSP kSM kSN kSU kPR kPS kPM kPN kPU kMR kMS kMP kMN kMU kNR kNS kNP kNM kNU kUR kUS kUP kUM kUN kRX kSX kPX kMX kNX kUX vaR vaS vaP vaM vaN vaU
    have XE : Peg.Errs mg _ _ _ _ _ _ _ _ := ⟨gT, gR, gS, gP, gM, gN, gU, gX⟩
    obtain ⟨f0, fd0, D⟩ := D_law
    have e := hmg.symm.trans D.gl
    cases e
    refine ⟨fd0, fun s v => .of_eq (D.ba [v] rfl), fun base _ _ => ?_⟩
    exact Peg.all7 B BV XE EF yR yS yP yM yN yU TR hR D_towers D_is_near D_tower D_steps_of D_is_whole D_is_peg D_check_rule D_check_state D_check_peg D_is_allowed D_moves_of D_moves D_is_move D_done D_goals_of D_left_of D_behind_first D_left D_next_move D_led D_behind D_number_by_line D_number_of D_state_of D_apart_free D_apart D_written D_law_cell_at D_law_draw D_law_state D_law_kinds D_law_with_rule D_law_with_state D_law_with_peg D_law_with_moves D_law_with_number D_law_discs D_law_two D_law_two_free D_law_told D_law_all D_law_numbers_right D
#print axioms PySem.Challenge.cw_pegtowers_k07_refused_holds
