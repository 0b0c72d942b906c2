import PyProof.Rows.All
import Wide.All
import OpenK.AllK
import Wide.FinOn
import HandS.ForMost
import HandS.ForExc
import HandS.Lambda
import HandS.IsInst
import HandS.ExcIs
import HandS.Wide
import HandS.Style
import HandS.RaiseMore
import HandS.Codes
import HandS.Head0
import HandS.Head1
import HandS.Head2
import HandS.HeadEnd
import HandS.HeadHook1
import HandS.HeadHook2
import HandS.HeadHook3
import HandS.HeadHook4
import HandS.HeadWalk
import PySem.Challenge.RW_fieldplots_k19_whole_signs_of_great_numb
set_option Elab.async false
set_option linter.all false
set_option maxRecDepth 100000
set_option maxHeartbeats 4000000

/-! # The walk's kit: a def by its name, readings from the left, heaps that only grow -/
namespace Fp
open PySem PySem.Spec PyProof.Rows L2

/-! ### heaps -/
/-- all that was tracked is as it was -/
abbrev Ex (H H' : Hp) : Prop := Same H H'
theorem ex_upd {H H1 : Hp} {p : Addr} {o : HO} (h : H p = none) (e : Ex H H1) : Ex H (upd H1 p o) := fun a u ha => by
  rw [upd_ne (ne_of_none ha h)]
  exact e a u ha
theorem ex_new {H : Hp} {p : Addr} {o : HO} (h : H p = none) : Ex H (upd H p o) := ex_upd h (Same.refl H)
theorem ex_at {H H' : Hp} {a : Addr} {o : HO} (e : Ex H H') (h : H a = some o) : H' a = some o := e a o h
theorem ex_no {H H' : Hp} {a : Addr} (e : Ex H H') (h : H' a = none) : H a = none := Same.free e h
theorem sql_of {K : PySem.W.Frag} {H : Hp} {a : Addr} {xs : List V} (h : H a = some (.lst xs)) : SqL K H a xs := .inl (.inl h)
theorem sqt_of {K : PySem.W.Frag} {H : Hp} {a : Addr} {xs : List V} (h : H a = some (.tup xs)) : SqT K H a xs := .inl (.inl h)
theorem sz {n : Nat} (h : n ≤ 100000 := by decide) : n ≤ sizeLine := Nat.le_trans h (by decide)
theorem lz {n : Nat} (h : Nat.ble n 100000 = true) : n ≤ 100000 := Nat.le_of_ble_eq_true h
theorem szl {n : Nat} (h : n < 100000) : n < sizeLine := Nat.lt_of_lt_of_le h (by decide)

/-! ### a def by its name -/
/-- the def stands at a name of the module -/
structure Dn (K : PySem.W.Frag) (mg : Str → Option Value) (x : Str) (st : Stmt) (ps : List Str) (f : Addr) (fd : FuncData) : Prop where
  fn : Fun K x x st f fd
  gl : mg x = some (.ref f)
  bn : Binds K fd ps []
/-- the def at the name x keeps the promise sp, to the depth k -/
structure Ok (P : Program) (w : World) (K : PySem.W.Frag) (mg : Str → Option Value) (base : Heap) (k : Nat) (x : Str) (ps : List Str) (sp : Sp) (f : Addr) (fd : FuncData) : Prop where
  gl : mg x = some (.ref f)
  kp : PySem.W.keepIn K (.ref f) = true
  bn : Binds K fd ps []
  ok : FnOk P w K mg base (L2.CX P w) k f fd ps sp
  lk : ∃ (oc : Value) (od : Option Addr) (osl : Array (Option Value)), K.lookup f = some ⟨oc, od, .func fd, osl⟩
abbrev OkE (P : Program) (w : World) (K : PySem.W.Frag) (mg : Str → Option Value) (base : Heap) (k : Nat) (x : Str) (ps : List Str) (sp : Sp) : Prop := ∃ f fd, Ok P w K mg base k x ps sp f fd
theorem _root_.L2.Fun.lkS {K : PySem.W.Frag} {x qual : Str} {st : Stmt} {f : Addr} {fd : FuncData} (F : Fun K x qual st f fd) : ∃ (oc : Value) (od : Option Addr) (osl : Array (Option Value)), K.lookup f = some ⟨oc, od, .func fd, osl⟩ := by
  obtain ⟨oc, od, kV, doc, pm, an, cdv, ct, osl, _, lk, _⟩ := F.ex
  exact ⟨oc, od, osl, lk⟩
/-- the promise of the def that the head tells of -/
theorem OkE.fn {P : Program} {w : World} {K : PySem.W.Frag} {mg : Str → Option Value} {base : Heap} {k : Nat} {x : Str} {ps : List Str} {sp : Sp} (F : OkE P w K mg base k x ps sp) {st : Stmt} {f : Addr} {fd : FuncData} (D : Dn K mg x st ps f fd) : FnOk P w K mg base (L2.CX P w) k f fd ps sp := by
  obtain ⟨f', fd', O⟩ := F
  have e := O.gl.symm.trans D.gl
  cases e
  obtain ⟨_, _, _, l1⟩ := O.lk
  obtain ⟨_, _, _, l2⟩ := D.fn.lkS
  rw [l1] at l2
  cases l2
  exact O.ok
theorem Dn.ok {P : Program} {w : World} {K : PySem.W.Frag} {mg : Str → Option Value} {base : Heap} {x : Str} {st : Stmt} {ps N : List Str} {f : Addr} {fd : FuncData} {k : Nat} {sp : Sp} (D : Dn K mg x st ps f fd) (S : FnScope N ps (defScope st)) (len : ∀ vs H Q E, sp vs H Q E → vs.length = ps.length)
    (hbody : ∀ (cdv : Value) (A : Around) (outer : List Env) (s : Shared) (H : Hp) (vs : List V) (Q : VK) (E : XK), Room k (A.deeper (envOfC x (defScope st) s.heap.objs.size f cdv)) → sp vs H Q E →
      ∃ t, PSs (cxOf (L2.CX P w) P w K mg base N x (defScope st) f cdv A outer s H E) (defBody st) t ∧ t { nx := fun _ H' => Q .non H', rt := Q } (start N vs) H) : OkE P w K mg base (k + 1) x ps sp :=
  ⟨f, fd, D.gl, D.fn.kp, D.bn, D.fn.okX S len hbody, D.fn.lkS⟩
/-- what the body of a def lets out is what is wanted of it -/
theorem passB {P : Program} {w : World} {K : PySem.W.Frag} {mg : Str → Option Value} {base : Heap} {N : List Str} {q : Str} {sc : Scope} {f : Addr} {cdv : Value} {A : Around} {outer : List Env} {s : Shared} {H : Hp} {E : XK} :
    Passes (L2.CX P w) (cxOf (L2.CX P w) P w K mg base N q sc f cdv A outer s H E) E := passes_call (takes_of rfl rfl rfl rfl) (fun _ _ _ _ h => h)
def tCallO (sp : Sp) (E : XK) (t : TA) : TE := fun σ H Q => t σ H fun vs H1 => sp vs H1 Q E
section
variable {X : Cx} {k j : Nat} {x : Str} {ps : List Str} {sp : Sp} {E : XK} {p pos : Pos} {e : Expr} {es : List Expr} {t : TA}
theorem pe_callO (F : OkE X.prog X.w X.K X.mg X.base j x ps sp) (hr : Room k X.A) (hj : j ≤ k) (hg : Gl X x) (hx : Passes (L2.CX X.prog X.w) X E) (ha : PA X (e :: es) t) (hdb : (x == ("__debug__" : Str)) = false := by decide)
    (he : starEach (e :: es) X.env = (false, eval e X.env) :: starEach es X.env := by rfl) (hpl : (backTo pos (starEach es X.env)).any (·.1) = false := by rfl) :
    PE X (.Call (.Name x p) (e :: es) [] pos) (tCallO sp E t) := by
  obtain ⟨f, fd, O⟩ := F
  have h := pe_call (dvs := []) (ds := []) (p := p) (pos := pos) O.ok (hr.mono hj) hg O.gl O.kp O.bn .nil hx ha hdb he hpl
  refine ⟨fun pins s σ H Q I q => h.run pins s σ H Q I ?_⟩
  have e : tCall sp [] E t = tCallO sp E t := by
    funext σ H Q
    unfold tCall tCallO
    simp only [List.append_nil]
  rw [e]
  exact q
/-- .. in a body around which an exception is met -/
def tCallW (sp : Sp) (W : WX) (t : TA) : TE := fun σ H Q => t σ H fun vs H1 => sp vs H1 Q (fun cls d H2 => W cls d σ H2)
theorem pe_callW {W : WX} (F : OkE X.prog X.w X.K X.mg X.base j x ps sp) (hr : Room k X.A) (hj : j ≤ k) (hg : Gl X x) (tk : Takes X W) (ha : PA X (e :: es) t) (hdb : (x == ("__debug__" : Str)) = false := by decide)
    (he : starEach (e :: es) X.env = (false, eval e X.env) :: starEach es X.env := by rfl) (hpl : (backTo pos (starEach es X.env)).any (·.1) = false := by rfl) :
    PE X (.Call (.Name x p) (e :: es) [] pos) (tCallW sp W t) := by
  obtain ⟨f, fd, O⟩ := F
  exact pe_callS (p := p) (pos := pos) (E := WE W) O.ok (hr.mono hj) hg O.gl O.kp O.bn (fun σ => passAt tk σ) ha hdb he hpl
end

/-! ### readings from the left -/
section
variable {K : PySem.W.Frag} {σ : L2.St} {H : Hp} {Q : VK} {D : Ends} {te ta tb tc : TE} {tt tu : TT} {t u : TS} {tas : TA} {g : TG} {r r' : R2} {v x y : V} {i j : Nat}
theorem i_var (h : σ[i]? = some (some v)) (q : Q v H) : tVar i σ H Q := ⟨v, h, q⟩
theorem i_c (q : Q v H) : tC v σ H Q := q
theorem i_seq (h : t { D with nx := u D } σ H) : tSeq t u D σ H := h
theorem i_cut (M : L2.St → Hp → Prop) (h : t { D with nx := M } σ H) (k : ∀ σ' H', M σ' H' → u D σ' H') : C8.tCut t u D σ H := ⟨M, h, k⟩
theorem i_asg (h : te σ H fun x H1 => g x σ H1 D.nx) : tAsg te g D σ H := h
theorem i_gname {R : L2.St → Hp → Prop} (h : R (σ.set i (some v)) H) : gName i v σ H R := h
theorem i_ret (h : te σ H D.rt) : tRet te D σ H := h
theorem i_retn (h : D.rt .non H) : tRetN D σ H := h
theorem i_drop (h : te σ H fun _ H1 => D.nx σ H1) : tDrop te D σ H := h
theorem i_next (h : D.nx σ H) : tNext D σ H := h
theorem i_brk (h : D.bk σ H) : tBreak D σ H := h
theorem i_cont (h : D.ct σ H) : tCont D σ H := h
theorem i_ifs (h : tt σ H fun b H1 => if b = true then t D σ H1 else u D σ H1) : tIfS tt t u D σ H := h
theorem i_op (h : ta σ H fun x H1 => tb σ H1 fun y H2 => r x y H2 Q) : tOp r ta tb σ H Q := h
theorem i_un {r : V → Hp → VK → Prop} (h : ta σ H fun x H1 => r x H1 Q) : tUn r ta σ H Q := h
theorem i_nil {R : List V → Hp → Prop} (h : R [] H) : tNil σ H R := h
theorem i_cons {R : List V → Hp → Prop} (h : ta σ H fun x H1 => tas σ H1 fun xs H2 => R (x :: xs) H2) : tCons ta tas σ H R := h
theorem i_B {R : Bool → Hp → Prop} (h : te σ H fun x H1 => ∃ c, x = .bl c ∧ R c H1) : tB te σ H R := h
theorem i_test {R : Bool → Hp → Prop} (h : te σ H fun x H1 => ∃ c, x = .bl c ∧ R c H1) : tTest te σ H R := h
theorem i_not {R : Bool → Hp → Prop} (h : tt σ H fun c H1 => R (!c) H1) : tNot tt σ H R := h
theorem i_and {R : Bool → Hp → Prop} (h : tt σ H fun c H1 => if c = true then tu σ H1 R else R false H1) : tAnd tt tu σ H R := h
theorem i_or {R : Bool → Hp → Prop} (h : tt σ H fun c H1 => if c = true then R true H1 else tu σ H1 R) : tOr tt tu σ H R := h
theorem i_andv (h : ta σ H fun x H1 => ∃ c, x = .bl c ∧ if c = true then tb σ H1 Q else Q (.bl false) H1) : tAndV ta tb σ H Q := h
theorem i_orv (h : ta σ H fun x H1 => ∃ c, x = .bl c ∧ if c = true then Q (.bl true) H1 else tb σ H1 Q) : tOrV ta tb σ H Q := h
theorem i_notv (h : ta σ H fun x H1 => ∃ c, x = .bl c ∧ Q (.bl (!c)) H1) : tNotV ta σ H Q := h
theorem i_if (h : tt σ H fun c H1 => if c = true then ta σ H1 Q else tb σ H1 Q) : tIf tt ta tb σ H Q := h
theorem i_isn (h : ta σ H fun x H1 => Q (.bl (decide (x = .non))) H1) : tIsN ta σ H Q := h
theorem i_notn (h : ta σ H fun x H1 => Q (.bl (!decide (x = .non))) H1) : tNotN ta σ H Q := h
theorem i_chain (h : ta σ H fun x H1 => tb σ H1 fun y H2 => r x y H2 fun z H3 => ∃ k, z = .bl k ∧ (if k = true then tc σ H3 fun w' H4 => r' y w' H4 Q else Q (.bl false) H3)) : tChain r r' ta tb tc σ H Q := h
theorem i_cb {r : List V → Hp → VK → Prop} (h : tas σ H fun vs H1 => r vs H1 Q) : tCB r tas σ H Q := h
theorem i_callO {sp : Sp} {E : XK} (h : tas σ H fun vs H1 => sp vs H1 Q E) : tCallO sp E tas σ H Q := h
theorem i_callW {sp : Sp} {W : WX} (h : tas σ H fun vs H1 => sp vs H1 Q (fun cls d H2 => W cls d σ H2)) : tCallW sp W tas σ H Q := h
theorem i_exbl {R : Bool → Prop} {b : Bool} (h : R b) : ∃ c, V.bl b = .bl c ∧ R c := ⟨b, rfl, h⟩
theorem i_par (h : tas σ H fun vs H1 => ∃ v w, vs = [v, w] ∧ D.nx ((σ.set i (some v)).set j (some w)) H1) : tPar i j tas D σ H := h
theorem i_par3 {l : Nat} (h : tas σ H fun vs H1 => ∃ u v w, vs = [u, v, w] ∧ D.nx (((σ.set i (some u)).set j (some v)).set l (some w)) H1) : L2.tPar3 i j l tas D σ H := h
theorem i_ex2 {R : V → V → Prop} {a b : V} (h : R a b) : ∃ v w, [a, b] = [v, w] ∧ R v w := ⟨a, b, rfl, h⟩
theorem i_ex3 {R : V → V → V → Prop} {a b c : V} (h : R a b c) : ∃ u v w, [a, b, c] = [u, v, w] ∧ R u v w := ⟨a, b, c, rfl, h⟩
def NewT (xs : List V) (H : Hp) (Q : VK) : Prop := xs.length ≤ sizeLine ∧ ∀ p, H p = none → Q (.ref p) (upd H p (.tup xs))
def NewL (xs : List V) (H : Hp) (Q : VK) : Prop := xs.length ≤ sizeLine ∧ ∀ p, H p = none → Q (.ref p) (upd H p (.lst xs))
theorem i_tup (h : tas σ H fun xs H1 => NewT xs H1 Q) : tTup tas σ H Q := h
theorem i_lst (h : tas σ H fun xs H1 => NewL xs H1 Q) : tLst tas σ H Q := h
theorem i_newT {xs : List V} (hl : xs.length ≤ 100000) (h : ∀ p H', H p = none → Ex H H' → H' p = some (.tup xs) → Q (.ref p) H') : NewT xs H Q :=
  ⟨sz hl, fun p hp => h p _ hp (ex_new hp) upd_same⟩
theorem i_newL {xs : List V} (hl : xs.length ≤ 100000) (h : ∀ p H', H p = none → Ex H H' → H' p = some (.lst xs) → Q (.ref p) H') : NewL xs H Q :=
  ⟨sz hl, fun p hp => h p _ hp (ex_new hp) upd_same⟩
-- operators
theorem i_I0 {f : Int → Int → V} {a b : Int} (q : Q (f a b) H) : rI0 f (.int a) (.int b) H Q := ⟨a, b, rfl, rfl, q⟩
theorem i_I {C : Int → Int → Prop} {f : Int → Int → V} {a b : Int} (hc : C a b) (q : Q (f a b) H) : rI C f (.int a) (.int b) H Q := ⟨a, b, rfl, rfl, hc, q⟩
theorem i_U {f : Int → V} {a : Int} (q : Q (f a) H) : rU f (.int a) H Q := ⟨a, rfl, q⟩
def CMulU (i j : Int) : Prop := L2.CMul i j ∨ L2.CMulW i j
theorem op_mulU {X : Cx} : OpR X (binaryOp .Mult) (rI CMulU fun i j => .int (i * j)) := by
  intro pins s σ H x y u v Q I r1 r2 h
  obtain ⟨i, j, e1, e2, hc, q⟩ := h
  rcases hc with hc | hc
  · exact op_mul pins s σ H x y u v Q I r1 r2 ⟨i, j, e1, e2, hc, q⟩
  · exact op_mulW pins s σ H x y u v Q I r1 r2 ⟨i, j, e1, e2, hc, q⟩
theorem mwl {i j : Int} (h1 : -(2 ^ 64) < i) (h2 : i < 2 ^ 64) : CMulU i j := .inl (.inl ⟨h1, h2⟩)
theorem mwr {i j : Int} (h1 : -(2 ^ 64) < j) (h2 : j < 2 ^ 64) : CMulU i j := .inl (.inr ⟨h1, h2⟩)
theorem mw {i j : Int} (h1 : -(10 ^ 60) < i) (h2 : i < 10 ^ 60) (h3 : -(10 ^ 60) < j) (h4 : j < 10 ^ 60) : CMulU i j :=
  .inr <| wide_mul (a := 200) (b := 200) (by omega) (by omega) (by decide) (by decide) (by decide)
theorem dw {i j : Int} (h1 : 0 < j) (h2 : j < 10 ^ 60) : L2.CDivW i j := wide_div (b := 200) h1 (by omega) (by decide) (by decide)
theorem i_pow {a b c : Int} (hc : L2.CPow a b) (e : a ^ b.toNat = c) (q : Q (.int c) H) : rI L2.CPow (fun i j => .int (i ^ j.toNat)) (.int a) (.int b) H Q := ⟨a, b, rfl, rfl, hc, by subst e; exact q⟩
-- branches
theorem i_ite {p A B : Prop} [Decidable p] (h1 : p → A) (h2 : ¬ p → B) : if decide p = true then A else B := by
  by_cases h : p
  · rw [decide_eq_true h]; exact h1 h
  · rw [decide_eq_false h]; exact h2 h
theorem i_iteN {p A B : Prop} [Decidable p] (h1 : ¬ p → A) (h2 : p → B) : if (!decide p) = true then A else B := by
  by_cases h : p
  · rw [decide_eq_true h]; exact h2 h
  · rw [decide_eq_false h]; exact h1 h
theorem i_iteb {b : Bool} {A B : Prop} (h1 : b = true → A) (h2 : b = false → B) : if b = true then A else B := by
  cases b
  · exact h2 rfl
  · exact h1 rfl
theorem i_iteNb {b : Bool} {A B : Prop} (h1 : b = false → A) (h2 : b = true → B) : if (!b) = true then A else B := by
  cases b
  · exact h1 rfl
  · exact h2 rfl
theorem i_iteNN {b : Bool} {A B : Prop} (h : if b = true then A else B) : if (!(!b)) = true then A else B := by
  cases b <;> exact h
theorem i_T {A B : Prop} (h : A) : if true = true then A else B := h
theorem i_F {A B : Prop} (h : B) : if false = true then A else B := h
theorem i_NT {A B : Prop} (h : B) : if (!true) = true then A else B := h
theorem i_NF {A B : Prop} (h : A) : if (!false) = true then A else B := h
-- an int compared
theorem i_eqI {a b : Int} (q : Q (.bl (decide (a = b))) H) : rEq (.int a) (.int b) H Q := ⟨rfl, by
  have e : decide (V.int a = V.int b) = decide (a = b) := by
    by_cases h : a = b
    · rw [h]; simp
    · have h2 : ¬ V.int a = V.int b := fun z => h (V.int.inj z)
      rw [decide_eq_false h, decide_eq_false h2]
  rw [e]; exact q⟩
theorem i_neI {a b : Int} (q : Q (.bl (!decide (a = b))) H) : rNe (.int a) (.int b) H Q := ⟨rfl, by
  have e : decide (V.int a = V.int b) = decide (a = b) := by
    by_cases h : a = b
    · rw [h]; simp
    · have h2 : ¬ V.int a = V.int b := fun z => h (V.int.inj z)
      rw [decide_eq_false h, decide_eq_false h2]
  rw [e]; exact q⟩
theorem i_eqS {a b : Str} (q : Q (.bl (decide (a = b))) H) : rEq (.str a) (.str b) H Q := ⟨rfl, by
  have e : decide (V.str a = V.str b) = decide (a = b) := by
    by_cases h : a = b
    · rw [h]; simp
    · have h2 : ¬ V.str a = V.str b := fun z => h (V.str.inj z)
      rw [decide_eq_false h, decide_eq_false h2]
  rw [e]; exact q⟩
theorem i_neS {a b : Str} (q : Q (.bl (!decide (a = b))) H) : rNe (.str a) (.str b) H Q := ⟨rfl, by
  have e : decide (V.str a = V.str b) = decide (a = b) := by
    by_cases h : a = b
    · rw [h]; simp
    · have h2 : ¬ V.str a = V.str b := fun z => h (V.str.inj z)
      rw [decide_eq_false h, decide_eq_false h2]
  rw [e]; exact q⟩
-- built-ins of ints
def rAbs : List V → Hp → VK → Prop := fun xs H Q => ∃ i : Int, xs = [.int i] ∧ Q (.int (i.natAbs : Int)) H
theorem i_abs {a : Int} (q : Q (.int (a.natAbs : Int)) H) : rAbs [.int a] H Q := ⟨a, rfl, q⟩
theorem cr_abs {X : Cx} : CallR X (.builtin "abs") rAbs := fun pins s σ H xs us Q I r ⟨a, e, q⟩ => call_abs pins s σ H xs us Q I r ⟨a, e, by
  have e : (if a < 0 then -a else a) = (a.natAbs : Int) := by split <;> omega
  rw [e]; exact q⟩
def rInt1 : List V → Hp → VK → Prop := fun xs H Q => ∃ i : Int, xs = [.int i] ∧ Q (.int i) H
theorem i_int {a : Int} (q : Q (.int a) H) : rInt1 [.int a] H Q := ⟨a, rfl, q⟩
theorem cr_int1 {X : Cx} : CallR X (.type "int") rInt1 := fun pins s σ H xs us Q I r ⟨a, e, q⟩ => call_int1 pins s σ H xs us Q I r (.inl ⟨a, e, q⟩)
def rLenS (K : PySem.W.Frag) : List V → Hp → VK → Prop := fun xs H Q => ∃ p ys, xs = [.ref p] ∧ (SqL K H p ys ∨ SqT K H p ys) ∧ Q (.int ((ys.length : Nat) : Int)) H
theorem i_lenL {p : Addr} {ys : List V} (h : H p = some (.lst ys)) (q : Q (.int ((ys.length : Nat) : Int)) H) : rLenS K [.ref p] H Q := ⟨p, ys, rfl, .inl (sql_of h), q⟩
theorem i_lenLK {p : Addr} {ys : List V} (h : SqL K H p ys) (q : Q (.int ((ys.length : Nat) : Int)) H) : rLenS K [.ref p] H Q := ⟨p, ys, rfl, .inl h, q⟩
theorem i_lenT {p : Addr} {ys : List V} (h : H p = some (.tup ys)) (q : Q (.int ((ys.length : Nat) : Int)) H) : rLenS K [.ref p] H Q := ⟨p, ys, rfl, .inr (sqt_of h), q⟩
theorem cr_lenS {X : Cx} : CallR X (.builtin "len") (rLenS X.K) := call_len_seq
def rListOf (K : PySem.W.Frag) : List V → Hp → VK → Prop := fun xs H Q => ∃ p ys, xs = [.ref p] ∧ (SqL K H p ys ∨ SqT K H p ys) ∧ ∀ l, H l = none → Q (.ref l) (upd H l (.lst ys))
theorem cr_listOf {X : Cx} : CallR X (.type "list") (rListOf X.K) := call_list_of
theorem i_listL {p : Addr} {ys : List V} (h : H p = some (.lst ys)) (q : ∀ l H', H l = none → Ex H H' → H' l = some (.lst ys) → Q (.ref l) H') : rListOf K [.ref p] H Q := ⟨p, ys, rfl, .inl (sql_of h), fun l hl => q l _ hl (ex_new hl) upd_same⟩
theorem i_listT {p : Addr} {ys : List V} (h : H p = some (.tup ys)) (q : ∀ l H', H l = none → Ex H H' → H' l = some (.lst ys) → Q (.ref l) H') : rListOf K [.ref p] H Q := ⟨p, ys, rfl, .inr (sqt_of h), fun l hl => q l _ hl (ex_new hl) upd_same⟩
def rTupOf (K : PySem.W.Frag) : List V → Hp → VK → Prop := fun xs H Q => ∃ p ys, xs = [.ref p] ∧ ((SqL K H p ys ∧ ∀ l, H l = none → Q (.ref l) (upd H l (.tup ys))) ∨ (SqT K H p ys ∧ Q (.ref p) H))
theorem cr_tupOf {X : Cx} : CallR X (.type "tuple") (rTupOf X.K) := call_tuple_of
theorem i_tupL {p : Addr} {ys : List V} (h : H p = some (.lst ys)) (q : ∀ l H', H l = none → Ex H H' → H' l = some (.tup ys) → Q (.ref l) H') : rTupOf K [.ref p] H Q := ⟨p, ys, rfl, .inl ⟨sql_of h, fun l hl => q l _ hl (ex_new hl) upd_same⟩⟩
theorem i_tupT {p : Addr} {ys : List V} (h : H p = some (.tup ys)) (q : Q (.ref p) H) : rTupOf K [.ref p] H Q := ⟨p, ys, rfl, .inr ⟨sqt_of h, q⟩⟩
theorem i_all {a : Addr} {bs : List Bool} (h : H a = some (.lst (bs.map V.bl))) (q : Q (.bl (bs.all id)) H) : L2.rAll K [.ref a] H Q := ⟨a, bs, rfl, sql_of h, q⟩
theorem i_any {a : Addr} {bs : List Bool} (h : H a = some (.lst (bs.map V.bl))) (q : Q (.bl (bs.any id)) H) : L2.rAny K [.ref a] H Q := ⟨a, bs, rfl, sql_of h, q⟩
theorem i_sum {a : Addr} {ns : List Int} (h : H a = some (.lst (ns.map V.int))) (q : Q (.int ns.sum) H) : L2.rSum K [.ref a] H Q := ⟨a, ns, rfl, sql_of h, q⟩
-- items
theorem i_ixL {p : Addr} {xs : List V} {k : Int} {z : V} (h : H p = some (.lst xs)) (hx : L2.atI xs k = some z) (q : Q z H) : L2.rIx K (.ref p) (.int k) H Q := .inl ⟨p, xs, k, z, rfl, rfl, sql_of h, hx, q⟩
theorem i_ixT {p : Addr} {xs : List V} {k : Int} {z : V} (h : H p = some (.tup xs)) (hx : L2.atI xs k = some z) (q : Q z H) : L2.rIx K (.ref p) (.int k) H Q := .inr (.inl ⟨p, xs, k, z, rfl, rfl, sqt_of h, hx, q⟩)
theorem i_setL {p : Addr} {xs : List V} {k : Int} {j : Nat} {z : V} {R : Hp → Prop} (h : H p = some (.lst xs)) (hj : L2.ixN xs.length k = some j) (q : R (upd H p (.lst (xs.set j z)))) : L2.rSetL (.ref p) (.int k) z H R := ⟨p, xs, k, j, rfl, rfl, h, hj, q⟩
theorem i_gsub {to ti : TE} {t : TSet} {z : V} {R : L2.St → Hp → Prop} (h : to σ H fun o H1 => ti σ H1 fun i H2 => t o i z H2 fun H3 => R σ H3) : gSub to ti t z σ H R := h
theorem i_gtup {n : Nat} {ts : TGs} {p : Addr} {xs : List V} {R : L2.St → Hp → Prop} (h : H p = some (.tup xs)) (hn : xs.length = n) (q : ts xs σ H R) : gTup K n ts (.ref p) σ H R := ⟨p, xs, rfl, sqt_of h, hn, q⟩
theorem i_gcons {t : TG} {us : TGs} {z : V} {zs : List V} {R : L2.St → Hp → Prop} (h : t z σ H fun σ' H' => us zs σ' H' R) : gCons t us (z :: zs) σ H R := ⟨z, zs, rfl, h⟩
theorem i_gnil {R : L2.St → Hp → Prop} (h : R σ H) : gNil [] σ H R := ⟨rfl, h⟩
end
/-! ### loops, by what is carried -/
section
variable {K : PySem.W.Frag} {σ : L2.St} {H : Hp} {Q : VK} {D : Ends} {tt : TT} {tb : TS} {g : TG} {a : Addr} {xs : List V} {α : Type}
def WhB (f : α → L2.St) (P : α → Hp → Prop) (μ : α → Nat) (m : Nat) (tb : TS) (D : Ends) (σ : L2.St) (H : Hp) : Prop :=
  ∃ N : L2.St → Hp → Prop, (∀ σ' H', N σ' H' → ∃ m', m' < m ∧ ∃ a, σ' = f a ∧ P a H' ∧ m' = μ a) ∧ tb { D with nx := N, ct := N, bk := D.nx } σ H
theorem i_body {f : α → L2.St} {P : α → Hp → Prop} {μ : α → Nat} {m : Nat} (h : tb { D with nx := fun σ' H' => ∃ a', σ' = f a' ∧ P a' H' ∧ μ a' < m, ct := fun σ' H' => ∃ a', σ' = f a' ∧ P a' H' ∧ μ a' < m, bk := D.nx } σ H) : WhB f P μ m tb D σ H :=
  ⟨_, fun _ _ ⟨a', e, p', l⟩ => ⟨_, l, a', e, p', rfl⟩, h⟩
theorem i_while (f : α → L2.St) (P : α → Hp → Prop) (μ : α → Nat) (a0 : α) (h0 : σ = f a0) (p0 : P a0 H)
    (hs : ∀ a H, P a H → tt (f a) H fun b H1 => if b = true then WhB f P μ (μ a) tb D (f a) H1 else D.nx (f a) H1) : tWhile tt tb D σ H := by
  refine ⟨fun m σ H => ∃ a, σ = f a ∧ P a H ∧ m = μ a, ⟨_, a0, h0, p0, rfl⟩, ?_⟩
  rintro m σ H ⟨a, rfl, p, rfl⟩
  exact hs a H p
def ForG (J : It) (g : TG) (tb : TS) (D : Ends) (σ : L2.St) (H : Hp) : Prop := ∃ W : Nat → Nat → L2.St → Hp → Prop, (∃ m, W 0 m σ H) ∧ ∀ i m σ H, W i m σ H →
    (J.stop i H ∧ D.nx σ H) ∨ (J.go i H ∧ ∃ N : L2.St → Hp → Prop, (∀ σ' H', N σ' H' → ∃ m', m' < m ∧ W (i + 1) m' σ' H') ∧ ∀ x H', J.yld i H x H' → g x σ H' fun σ2 H2 => tb { D with nx := N, ct := N, bk := D.nx } σ2 H2)
theorem i_for {wi : TI} (h : wi σ H fun J H1 => ForG J g tb D σ H1) : tFor wi g tb D σ H := h
theorem i_rng1 {ta : TA} {R : It → Hp → Prop} (h : ta σ H fun vs H1 => ∃ j : Int, vs = [.int j] ∧ -(2 ^ 62) ≤ j ∧ j < 2 ^ 62 ∧ R (Itr 0 j.toNat) H1) : iRng1 ta σ H R := h
theorem i_rng2 {ta : TA} {R : It → Hp → Prop} (h : ta σ H fun vs H1 => ∃ i j : Int, vs = [.int i, .int j] ∧ (-(2 ^ 62) ≤ i ∧ i < 2 ^ 62 ∧ -(2 ^ 62) ≤ j ∧ j < 2 ^ 62) ∧ R (Itr i (j - i).toNat) H1) : iRng2 ta σ H R := h
theorem i_ilist {tl : TE} {R : It → Hp → Prop} (h : tl σ H fun x H1 => ∃ a, x = .ref a ∧ (∃ xs, SqL K H1 a xs) ∧ R (Itl K a) H1) : iList K tl σ H R := h
theorem i_itup {tl : TE} {R : It → Hp → Prop} (h : tl σ H fun x H1 => ∃ a, x = .ref a ∧ (∃ xs, SqT K H1 a xs) ∧ R (Itt K a) H1) : iTup K tl σ H R := h
theorem i_exI1 {n : Int} {R : Int → Prop} (h : R n) : ∃ j, [V.int n] = [V.int j] ∧ R j := ⟨n, rfl, h⟩
theorem i_exI2 {n m : Int} {R : Int → Int → Prop} (h : R n m) : ∃ i j, [V.int n, V.int m] = [V.int i, V.int j] ∧ R i j := ⟨n, m, rfl, h⟩
theorem i_exL {b : Addr} {R : Addr → Prop} (hx : SqL K H b xs) (h : R b) : ∃ a, V.ref b = .ref a ∧ (∃ xs, SqL K H a xs) ∧ R a := ⟨b, rfl, ⟨xs, hx⟩, h⟩
theorem i_exT {b : Addr} {R : Addr → Prop} (hx : SqT K H b xs) (h : R b) : ∃ a, V.ref b = .ref a ∧ (∃ xs, SqT K H a xs) ∧ R a := ⟨b, rfl, ⟨xs, hx⟩, h⟩
theorem forR {lo : Int} {n : Nat} (f : Nat → α → L2.St) (P : Nat → α → Hp → Prop) (a0 : α) (h0 : σ = f 0 a0) (p0 : P 0 a0 H)
    (hs : ∀ i a H, i < n → P i a H → g (.int (lo + i)) (f i a) H fun σ2 H2 => tb { D with nx := fun σ' H' => ∃ a', σ' = f (i + 1) a' ∧ P (i + 1) a' H', ct := fun σ' H' => ∃ a', σ' = f (i + 1) a' ∧ P (i + 1) a' H', bk := D.nx } σ2 H2)
    (hd : ∀ a H, P n a H → D.nx (f n a) H) : ForG (Itr lo n) g tb D σ H :=
  for_range (fun i σ H => ∃ a, σ = f i a ∧ P i a H) ⟨a0, h0, p0⟩ (fun i σ H hi ⟨a, e, p⟩ => by subst e; exact hs i a H hi p) fun σ H ⟨a, e, p⟩ => by subst e; exact hd a H p
theorem forL {b : Addr} (f : Nat → α → L2.St) (P : Nat → α → Hp → Prop) (a0 : α) (h0 : σ = f 0 a0) (p0 : P 0 a0 H) (hl : ∀ i a H, P i a H → SqL K H b xs)
    (hs : ∀ i x a H, xs[i]? = some x → P i a H → g x (f i a) H fun σ2 H2 => tb { D with nx := fun σ' H' => ∃ a', σ' = f (i + 1) a' ∧ P (i + 1) a' H', ct := fun σ' H' => ∃ a', σ' = f (i + 1) a' ∧ P (i + 1) a' H', bk := D.nx } σ2 H2)
    (hd : ∀ a H, P xs.length a H → D.nx (f xs.length a) H) : ForG (Itl K b) g tb D σ H :=
  for_list (fun i σ H => ∃ a, σ = f i a ∧ P i a H) ⟨a0, h0, p0⟩ (fun i σ H _ ⟨a, e, p⟩ => hl i a H p) (fun i x σ H hi ⟨a, e, p⟩ => by subst e; exact hs i x a H hi p) fun σ H ⟨a, e, p⟩ => by subst e; exact hd a H p
theorem forT {b : Addr} (f : Nat → α → L2.St) (P : Nat → α → Hp → Prop) (a0 : α) (h0 : σ = f 0 a0) (p0 : P 0 a0 H) (hl : ∀ i a H, P i a H → SqT K H b xs)
    (hs : ∀ i x a H, xs[i]? = some x → P i a H → g x (f i a) H fun σ2 H2 => tb { D with nx := fun σ' H' => ∃ a', σ' = f (i + 1) a' ∧ P (i + 1) a' H', ct := fun σ' H' => ∃ a', σ' = f (i + 1) a' ∧ P (i + 1) a' H', bk := D.nx } σ2 H2)
    (hd : ∀ a H, P xs.length a H → D.nx (f xs.length a) H) : ForG (Itt K b) g tb D σ H :=
  for_tup (fun i σ H => ∃ a, σ = f i a ∧ P i a H) ⟨a0, h0, p0⟩ (fun i σ H _ ⟨a, e, p⟩ => hl i a H p) (fun i x σ H hi ⟨a, e, p⟩ => by subst e; exact hs i x a H hi p) fun σ H ⟨a, e, p⟩ => by subst e; exact hd a H p
/-! ### comprehensions -/
def LcG (J : It) (g : TG) (tt : TT) (te : TE) (vs : List Nat) (σ : L2.St) (Q : VK) (H : Hp) : Prop := ∀ D, H D = none → ∃ W : Nat → Nat → Hp → Prop, (∃ m, W 0 m (upd H D (.lst []))) ∧ ∀ i m H, W i m H →
    (J.stop i H ∧ Q (.ref D) H) ∨ (J.go i H ∧ ∃ Nx : Hp → Prop, (∀ H', Nx H' → ∃ m', m' < m ∧ W (i + 1) m' H') ∧ ∀ x H', J.yld i H x H' → g x (wipe σ vs) H' fun σ2 H2 => wipe σ2 vs = wipe σ vs ∧ tt σ2 H2 fun b H3 =>
      if b = true then te σ2 H3 fun y H4 => ∃ acc, H4 D = some (.lst acc) ∧ acc.length < sizeLine ∧ Nx (upd H4 D (.lst (acc ++ [y]))) else Nx H3)
theorem i_lc {wi : TI} {te : TE} {vs : List Nat} (h : wi σ H fun J H1 => LcG J g tt te vs σ Q H1) : tLc wi g tt te vs σ H Q := h
/-- each item gives one, what stood stands -/
theorem lcL {b : Addr} {te : TE} {vs : List Nat} (F : Nat → V → V) (hl : SqL K H b xs) (hn : xs.length ≤ 50000)
    (hs : ∀ i x H' R, xs[i]? = some x → Ex H H' → (∀ H4, Ex H' H4 → R (F i x) H4) → g x (wipe σ vs) H' fun σ2 H2 => wipe σ2 vs = wipe σ vs ∧ te σ2 H2 R)
    (hd : ∀ p H', H p = none → Ex H H' → H' p = some (.lst (xs.mapIdx F)) → Q (.ref p) H') : LcG (Itl K b) g tYes te vs σ Q H := fun Dp hp => by
  refine lc_list (K := K) (a := b) (xs := xs) (fun i H' => Ex H H' ∧ H' Dp = some (.lst ((xs.mapIdx F).take i))) ⟨ex_new hp, by rw [upd_same]; rfl⟩ (fun i H' _ p => p.1.seq hl) (fun i x H' hi p => ?_) (fun H' p => hd Dp H' hp p.1 (by rw [p.2, List.take_of_length_le (by rw [List.length_mapIdx]; exact Nat.le_refl _)]))
  have hlt : i < xs.length := (List.getElem?_eq_some_iff.mp hi).1
  have key := hs i x H' (fun y H4 => ∃ acc, H4 Dp = some (.lst acc) ∧ acc.length < sizeLine ∧ (Ex H (upd H4 Dp (.lst (acc ++ [y]))) ∧ (upd H4 Dp (.lst (acc ++ [y]))) Dp = some (.lst ((xs.mapIdx F).take (i + 1))))) hi p.1
    (fun H4 e4 => ⟨_, e4 _ _ p.2, szl (by rw [List.length_take, List.length_mapIdx]; omega), ex_upd hp (p.1.trans e4), by
      rw [upd_same, List.take_add_one, List.getElem?_mapIdx, hi]; rfl⟩)
  exact key
theorem lcR {lo : Int} {n : Nat} {te : TE} {vs : List Nat} (F : Nat → V) (hn : n ≤ 50000)
    (hs : ∀ i H' R, i < n → Ex H H' → (∀ H4, Ex H' H4 → R (F i) H4) → g (.int (lo + i)) (wipe σ vs) H' fun σ2 H2 => wipe σ2 vs = wipe σ vs ∧ te σ2 H2 R)
    (hd : ∀ p H', H p = none → Ex H H' → H' p = some (.lst ((List.range n).map F)) → Q (.ref p) H') : LcG (Itr lo n) g tYes te vs σ Q H := fun Dp hp => by
  refine lc_range (lo := lo) (n := n) (fun i H' => Ex H H' ∧ H' Dp = some (.lst ((List.range i).map F))) ⟨ex_new hp, by rw [upd_same]; rfl⟩ (fun i H' hi p => ?_) (fun H' p => hd Dp H' hp p.1 p.2)
  have key := hs i H' (fun y H4 => ∃ acc, H4 Dp = some (.lst acc) ∧ acc.length < sizeLine ∧ (Ex H (upd H4 Dp (.lst (acc ++ [y]))) ∧ (upd H4 Dp (.lst (acc ++ [y]))) Dp = some (.lst ((List.range (i + 1)).map F)))) hi p.1
    (fun H4 e4 => ⟨_, e4 _ _ p.2, szl (by rw [List.length_map, List.length_range]; omega), ex_upd hp (p.1.trans e4), by
      rw [upd_same, List.range_succ, List.map_append]; rfl⟩)
  exact key
theorem lcT {b : Addr} {te : TE} {vs : List Nat} (F : Nat → V → V) (hl : SqT K H b xs) (hn : xs.length ≤ 50000)
    (hs : ∀ i x H' R, xs[i]? = some x → Ex H H' → (∀ H4, Ex H' H4 → R (F i x) H4) → g x (wipe σ vs) H' fun σ2 H2 => wipe σ2 vs = wipe σ vs ∧ te σ2 H2 R)
    (hd : ∀ p H', H p = none → Ex H H' → H' p = some (.lst (xs.mapIdx F)) → Q (.ref p) H') : LcG (Itt K b) g tYes te vs σ Q H := fun Dp hp => by
  have hq : ∀ {H' : Hp}, Ex H H' → SqT K H' b xs := fun e => by
    rcases hl with (h | ⟨o, h⟩) | h
    · exact .inl (.inl (e _ _ h))
    · exact .inl (.inr ⟨o, e _ _ h⟩)
    · exact .inr h
  refine lc_tup (K := K) (a := b) (xs := xs) (fun i H' => Ex H H' ∧ H' Dp = some (.lst ((xs.mapIdx F).take i))) ⟨ex_new hp, by rw [upd_same]; rfl⟩ (fun i H' _ p => hq p.1) (fun i x H' hi p => ?_) (fun H' p => hd Dp H' hp p.1 (by rw [p.2, List.take_of_length_le (by rw [List.length_mapIdx]; exact Nat.le_refl _)]))
  have hlt : i < xs.length := (List.getElem?_eq_some_iff.mp hi).1
  have key := hs i x H' (fun y H4 => ∃ acc, H4 Dp = some (.lst acc) ∧ acc.length < sizeLine ∧ (Ex H (upd H4 Dp (.lst (acc ++ [y]))) ∧ (upd H4 Dp (.lst (acc ++ [y]))) Dp = some (.lst ((xs.mapIdx F).take (i + 1))))) hi p.1
    (fun H4 e4 => ⟨_, e4 _ _ p.2, szl (by rw [List.length_take, List.length_mapIdx]; omega), ex_upd hp (p.1.trans e4), by
      rw [upd_same, List.take_add_one, List.getElem?_mapIdx, hi]; rfl⟩)
  exact key
end
theorem Same.seqT {K : PySem.W.Frag} {H H' : Hp} {a : Addr} {xs : List V} (e : Ex H H') (h : SqT K H a xs) : SqT K H' a xs := by
  rcases h with (h | ⟨o, h⟩) | h
  · exact .inl (.inl (e _ _ h))
  · exact .inl (.inr ⟨o, e _ _ h⟩)
  · exact .inr h
/-! ### errors -/
/-- an error's class of the text, without a maker of its own -/
structure ErrC (K : PySem.W.Frag) (mg : Str → Option Value) (x : Str) (C : Addr) : Prop where
  gl : mg x = some (.ref C)
  exc : PySem.W.excIn K C [.type "ValueError", .type "Exception", .type "BaseException", .type "object"] "ValueError.__new__" = true
  kp : PySem.W.keepIn K (.ref C) = true
  sub : PySem.W.subIn K (.ref C) (.type "BaseException") = some true
  ty : PySem.W.typeIn K (.ref C) = some (.type "type")
section
variable {X : Cx} {C : Addr}
theorem pmk_own0 {x : Str} {p pos : Pos} (F : ErrC X.K X.mg x C) (hg : Gl X x) (hdb : (x == ("__debug__" : Str)) = false := by decide) : PMk X (.Call (.Name x p) [] [] pos) (fun _ H Q => Q (.ref C) none H) := by
  intro pins s σ H Q I h
  refine wpAny_Call_Name_kw (ld_glob I hg F.gl ?_ hdb)
  refine PySem.W.callWith_K0 I.kIn F.kp ?_
  obtain ⟨bm, N, nm, qn, bs, hdct, sn, sub, ab, col, dd, k0, k1, k2, k3, k5, mN, hC, hN, hni, T⟩ := exc_obj I.kIn F.exc
  refine wpAny_call_exc_subT PySem.F.excBase_ValueError T hC hN hni (fun h' e hm => ?_) (by show 0 ≤ sizeLine; rw [sizeLine_eq]; omega)
  exact mk_of I hm (raises_own F.sub F.ty) h (I.hok.gone hm.new)
end
/-! ### data compared -/
section
variable {K : PySem.W.Frag} {H : Hp} {Q : VK}
theorem dp_ints : ∀ ns : List Int, L2.DpAll K H (ns.map V.int) (ns.map PyData.int)
  | [] => .nil
  | n :: ns => .cons (.int n) (dp_ints ns)
theorem eqv_ints : ∀ xs ys : List Int, PyData.eqvAll (xs.map PyData.int) (ys.map PyData.int) = decide (xs = ys)
  | [], [] => rfl
  | [], _ :: _ => rfl
  | _ :: _, [] => rfl
  | x :: xs, y :: ys => by
    show (PyData.eqv (.int x) (.int y) && PyData.eqvAll (xs.map PyData.int) (ys.map PyData.int)) = _
    rw [eqv_ints xs ys]
    show (x == y && decide (xs = ys)) = decide (x :: xs = y :: ys)
    by_cases h1 : x = y
    · subst h1
      by_cases h2 : xs = ys
      · subst h2; simp
      · simp [h2]
    · simp [h1]
theorem lay_ints : ∀ ns : List Int, PyData.canLayAll0 (ns.map PyData.int) = true
  | [] => rfl
  | n :: ns => by
    show (PyData.canLay0 (.int n) && PyData.canLayAll0 (ns.map PyData.int)) = true
    rw [lay_ints ns]; rfl
theorem depth_ints : ∀ ns : List Int, PyData.depthAll (ns.map PyData.int) = 0
  | [] => rfl
  | n :: ns => by
    show max (PyData.depth (.int n)) (PyData.depthAll (ns.map PyData.int)) = 0
    rw [depth_ints ns]; rfl
theorem shaped_listI (ns : List Int) : SeqAt.shaped (.list (ns.map PyData.int)) = true := by
  unfold SeqAt.shaped
  rw [Bool.and_eq_true, decide_eq_true_eq]
  refine ⟨lay_ints ns, ?_⟩
  show PyData.depthAll (ns.map PyData.int) + 1 ≤ 64
  rw [depth_ints]; decide
theorem shaped_tupI (ns : List Int) : SeqAt.shaped (.tuple (ns.map PyData.int)) = true := by
  unfold SeqAt.shaped
  rw [Bool.and_eq_true, decide_eq_true_eq]
  refine ⟨lay_ints ns, ?_⟩
  show PyData.depthAll (ns.map PyData.int) + 1 ≤ 64
  rw [depth_ints]; decide
theorem i_eqLI {a b : Addr} {xs ys : List Int} (hx : H a = some (.lst (xs.map V.int))) (hy : H b = some (.lst (ys.map V.int))) (q : Q (.bl (decide (xs = ys))) H) : L2.rEqD K (.ref a) (.ref b) H Q :=
  ⟨_, _, .lst (sql_of hx) (dp_ints xs), .lst (sql_of hy) (dp_ints ys), shaped_listI xs, shaped_listI ys, by rw [show PyData.eqv (.list (xs.map PyData.int)) (.list (ys.map PyData.int)) = _ from eqv_ints xs ys]; exact q⟩
theorem i_eqTI {a b : Addr} {xs ys : List Int} (hx : H a = some (.tup (xs.map V.int))) (hy : H b = some (.tup (ys.map V.int))) (q : Q (.bl (decide (xs = ys))) H) : L2.rEqD K (.ref a) (.ref b) H Q :=
  ⟨_, _, .tup (sqt_of hx) (dp_ints xs), .tup (sqt_of hy) (dp_ints ys), shaped_tupI xs, shaped_tupI ys, by rw [show PyData.eqv (.tuple (xs.map PyData.int)) (.tuple (ys.map PyData.int)) = _ from eqv_ints xs ys]; exact q⟩
theorem i_neTI {a b : Addr} {xs ys : List Int} (hx : H a = some (.tup (xs.map V.int))) (hy : H b = some (.tup (ys.map V.int))) (q : Q (.bl (!decide (xs = ys))) H) : L2.rNeD K (.ref a) (.ref b) H Q :=
  ⟨_, _, .tup (sqt_of hx) (dp_ints xs), .tup (sqt_of hy) (dp_ints ys), shaped_tupI xs, shaped_tupI ys, by rw [show PyData.eqv (.tuple (xs.map PyData.int)) (.tuple (ys.map PyData.int)) = _ from eqv_ints xs ys]; exact q⟩
theorem i_neLI {a b : Addr} {xs ys : List Int} (hx : H a = some (.lst (xs.map V.int))) (hy : H b = some (.lst (ys.map V.int))) (q : Q (.bl (!decide (xs = ys))) H) : L2.rNeD K (.ref a) (.ref b) H Q :=
  ⟨_, _, .lst (sql_of hx) (dp_ints xs), .lst (sql_of hy) (dp_ints ys), shaped_listI xs, shaped_listI ys, by rw [show PyData.eqv (.list (xs.map PyData.int)) (.list (ys.map PyData.int)) = _ from eqv_ints xs ys]; exact q⟩
/-! ### methods of lists -/
theorem i_bm {T : String} {r : V → List V → Hp → VK → Prop} {to : TE} {t : TA} {σ : L2.St} (h : to σ H fun x H1 => L2.tyV K T x H1 ∧ t σ H1 fun xs H2 => r x xs H2 Q) : L2.tBM K T r to t σ H Q := h
theorem i_bm0 {T : String} {r : V → List V → Hp → VK → Prop} {to : TE} {σ : L2.St} (h : to σ H fun x H1 => L2.tyV K T x H1 ∧ r x [] H1 Q) : L2.tBM0 K T r to σ H Q := h
theorem i_tyL {l : Addr} {xs : List V} {R : Prop} (h : H l = some (.lst xs)) (q : R) : L2.tyV K "list" (.ref l) H ∧ R := ⟨.inl ⟨rfl, _, sql_of h⟩, q⟩
theorem i_append {l : Addr} {xs : List V} {y : V} (h : H l = some (.lst xs)) (hn : xs.length ≤ 100000) (q : Q .non (upd H l (.lst (xs ++ [y])))) : L2.rAppend (.ref l) [y] H Q :=
  ⟨l, xs, y, rfl, rfl, h, Nat.lt_of_le_of_lt hn (by decide), q⟩
theorem i_cat {a b : Addr} {xs ys : List V} (hx : H a = some (.lst xs)) (hy : H b = some (.lst ys)) (hn : xs.length + ys.length ≤ 100000) (q : ∀ p H', H p = none → Ex H H' → H' p = some (.lst (xs ++ ys)) → Q (.ref p) H') : L2.rCat (.ref a) (.ref b) H Q :=
  ⟨a, b, xs, ys, rfl, rfl, hx, hy, sz hn, fun p hp => q p _ hp (ex_new hp) upd_same⟩
theorem i_rep {a : Addr} {xs : List V} {k : Int} (hx : H a = some (.lst xs)) (hk : 0 ≤ k ∧ k < 2 ^ 62) (hn : xs.length * k.toNat ≤ 100000) (q : ∀ p H', H p = none → Ex H H' → H' p = some (.lst (List.replicate k.toNat xs).flatten) → Q (.ref p) H') : L2.rRep (.ref a) (.int k) H Q :=
  ⟨a, k, xs, rfl, rfl, hx, by omega, by omega, sz hn, fun p hp => q p _ hp (ex_new hp) upd_same⟩
end
/-! ### repr of flat things -/
def rRepr : List V → Hp → VK → Prop := fun xs H Q => (∃ i : Int, xs = [.int i] ∧ i.natAbs.log2 < 1920 ∧ Q (.str (toString i)) H) ∨ (xs = [.non] ∧ Q (.str "None") H) ∨ ∃ b : Bool, xs = [.bl b] ∧ Q (.str (if b then "True" else "False")) H
theorem call_repr {X : Cx} : CallR X (.builtin "repr") rRepr := by
  intro pins s σ H xs us Q I r h
  rcases h with ⟨i, rfl, hz, q⟩ | ⟨rfl, q⟩ | ⟨b, rfl, q⟩
  · obtain ⟨u, rfl, t, rfl⟩ := vals1 r
    exact PySem.P.repr_of_int hz ⟨.str _, H, I.tok _, ⟨_, rfl⟩, q⟩
  · obtain ⟨u, rfl, e⟩ := vals1 r
    cases e
    exact PySem.P.repr_of_none ⟨.str _, H, I.tok _, ⟨_, rfl⟩, q⟩
  · obtain ⟨u, rfl, e⟩ := vals1 r
    cases e
    exact PySem.P.repr_of_bool ⟨.str _, H, I.tok _, ⟨_, rfl⟩, q⟩
section
variable {H : Hp} {Q : VK}
theorem log_small {i : Int} (h1 : -(10 ^ 60) < i) (h2 : i < 10 ^ 60) : i.natAbs.log2 < 1920 := Nat.lt_of_lt_of_le (PySem.Flt.log2_lt_of (k := 200) (by decide) (show i.natAbs < 2 ^ 200 by omega)) (by decide)
theorem i_reprI {i : Int} (h : i.natAbs.log2 < 1920) (q : Q (.str (toString i)) H) : rRepr [.int i] H Q := .inl ⟨i, rfl, h, q⟩
theorem i_reprN (q : Q (.str "None") H) : rRepr [.non] H Q := .inr (.inl ⟨rfl, q⟩)
theorem i_reprB {b : Bool} (q : Q (.str (if b then "True" else "False")) H) : rRepr [.bl b] H Q := .inr (.inr ⟨b, rfl, q⟩)
end
/-! ### slots -/
section
variable {H : Hp} {Q : VK} {v : V} {R : L2.St → Hp → Prop}
theorem v_0 {l : L2.St} (q : Q v H) : tVar 0 (some v :: l) H Q := ⟨v, rfl, q⟩
theorem g_0 {y : Option V} {l : L2.St} (q : R (some v :: l) H) : gName 0 v (y :: l) H R := q
theorem v_1 {x0 : Option V} {l : L2.St} (q : Q v H) : tVar 1 (x0 :: some v :: l) H Q := ⟨v, rfl, q⟩
theorem g_1 {x0 : Option V} {y : Option V} {l : L2.St} (q : R (x0 :: some v :: l) H) : gName 1 v (x0 :: y :: l) H R := q
theorem v_2 {x0 x1 : Option V} {l : L2.St} (q : Q v H) : tVar 2 (x0 :: x1 :: some v :: l) H Q := ⟨v, rfl, q⟩
theorem g_2 {x0 x1 : Option V} {y : Option V} {l : L2.St} (q : R (x0 :: x1 :: some v :: l) H) : gName 2 v (x0 :: x1 :: y :: l) H R := q
theorem v_3 {x0 x1 x2 : Option V} {l : L2.St} (q : Q v H) : tVar 3 (x0 :: x1 :: x2 :: some v :: l) H Q := ⟨v, rfl, q⟩
theorem g_3 {x0 x1 x2 : Option V} {y : Option V} {l : L2.St} (q : R (x0 :: x1 :: x2 :: some v :: l) H) : gName 3 v (x0 :: x1 :: x2 :: y :: l) H R := q
theorem v_4 {x0 x1 x2 x3 : Option V} {l : L2.St} (q : Q v H) : tVar 4 (x0 :: x1 :: x2 :: x3 :: some v :: l) H Q := ⟨v, rfl, q⟩
theorem g_4 {x0 x1 x2 x3 : Option V} {y : Option V} {l : L2.St} (q : R (x0 :: x1 :: x2 :: x3 :: some v :: l) H) : gName 4 v (x0 :: x1 :: x2 :: x3 :: y :: l) H R := q
theorem v_5 {x0 x1 x2 x3 x4 : Option V} {l : L2.St} (q : Q v H) : tVar 5 (x0 :: x1 :: x2 :: x3 :: x4 :: some v :: l) H Q := ⟨v, rfl, q⟩
theorem g_5 {x0 x1 x2 x3 x4 : Option V} {y : Option V} {l : L2.St} (q : R (x0 :: x1 :: x2 :: x3 :: x4 :: some v :: l) H) : gName 5 v (x0 :: x1 :: x2 :: x3 :: x4 :: y :: l) H R := q
theorem v_6 {x0 x1 x2 x3 x4 x5 : Option V} {l : L2.St} (q : Q v H) : tVar 6 (x0 :: x1 :: x2 :: x3 :: x4 :: x5 :: some v :: l) H Q := ⟨v, rfl, q⟩
theorem g_6 {x0 x1 x2 x3 x4 x5 : Option V} {y : Option V} {l : L2.St} (q : R (x0 :: x1 :: x2 :: x3 :: x4 :: x5 :: some v :: l) H) : gName 6 v (x0 :: x1 :: x2 :: x3 :: x4 :: x5 :: y :: l) H R := q
theorem v_7 {x0 x1 x2 x3 x4 x5 x6 : Option V} {l : L2.St} (q : Q v H) : tVar 7 (x0 :: x1 :: x2 :: x3 :: x4 :: x5 :: x6 :: some v :: l) H Q := ⟨v, rfl, q⟩
theorem g_7 {x0 x1 x2 x3 x4 x5 x6 : Option V} {y : Option V} {l : L2.St} (q : R (x0 :: x1 :: x2 :: x3 :: x4 :: x5 :: x6 :: some v :: l) H) : gName 7 v (x0 :: x1 :: x2 :: x3 :: x4 :: x5 :: x6 :: y :: l) H R := q
theorem v_8 {x0 x1 x2 x3 x4 x5 x6 x7 : Option V} {l : L2.St} (q : Q v H) : tVar 8 (x0 :: x1 :: x2 :: x3 :: x4 :: x5 :: x6 :: x7 :: some v :: l) H Q := ⟨v, rfl, q⟩
theorem g_8 {x0 x1 x2 x3 x4 x5 x6 x7 : Option V} {y : Option V} {l : L2.St} (q : R (x0 :: x1 :: x2 :: x3 :: x4 :: x5 :: x6 :: x7 :: some v :: l) H) : gName 8 v (x0 :: x1 :: x2 :: x3 :: x4 :: x5 :: x6 :: x7 :: y :: l) H R := q
theorem v_9 {x0 x1 x2 x3 x4 x5 x6 x7 x8 : Option V} {l : L2.St} (q : Q v H) : tVar 9 (x0 :: x1 :: x2 :: x3 :: x4 :: x5 :: x6 :: x7 :: x8 :: some v :: l) H Q := ⟨v, rfl, q⟩
theorem g_9 {x0 x1 x2 x3 x4 x5 x6 x7 x8 : Option V} {y : Option V} {l : L2.St} (q : R (x0 :: x1 :: x2 :: x3 :: x4 :: x5 :: x6 :: x7 :: x8 :: some v :: l) H) : gName 9 v (x0 :: x1 :: x2 :: x3 :: x4 :: x5 :: x6 :: x7 :: x8 :: y :: l) H R := q
theorem v_10 {x0 x1 x2 x3 x4 x5 x6 x7 x8 x9 : Option V} {l : L2.St} (q : Q v H) : tVar 10 (x0 :: x1 :: x2 :: x3 :: x4 :: x5 :: x6 :: x7 :: x8 :: x9 :: some v :: l) H Q := ⟨v, rfl, q⟩
theorem g_10 {x0 x1 x2 x3 x4 x5 x6 x7 x8 x9 : Option V} {y : Option V} {l : L2.St} (q : R (x0 :: x1 :: x2 :: x3 :: x4 :: x5 :: x6 :: x7 :: x8 :: x9 :: some v :: l) H) : gName 10 v (x0 :: x1 :: x2 :: x3 :: x4 :: x5 :: x6 :: x7 :: x8 :: x9 :: y :: l) H R := q
theorem v_11 {x0 x1 x2 x3 x4 x5 x6 x7 x8 x9 x10 : Option V} {l : L2.St} (q : Q v H) : tVar 11 (x0 :: x1 :: x2 :: x3 :: x4 :: x5 :: x6 :: x7 :: x8 :: x9 :: x10 :: some v :: l) H Q := ⟨v, rfl, q⟩
theorem g_11 {x0 x1 x2 x3 x4 x5 x6 x7 x8 x9 x10 : Option V} {y : Option V} {l : L2.St} (q : R (x0 :: x1 :: x2 :: x3 :: x4 :: x5 :: x6 :: x7 :: x8 :: x9 :: x10 :: some v :: l) H) : gName 11 v (x0 :: x1 :: x2 :: x3 :: x4 :: x5 :: x6 :: x7 :: x8 :: x9 :: x10 :: y :: l) H R := q
theorem v_12 {x0 x1 x2 x3 x4 x5 x6 x7 x8 x9 x10 x11 : Option V} {l : L2.St} (q : Q v H) : tVar 12 (x0 :: x1 :: x2 :: x3 :: x4 :: x5 :: x6 :: x7 :: x8 :: x9 :: x10 :: x11 :: some v :: l) H Q := ⟨v, rfl, q⟩
theorem g_12 {x0 x1 x2 x3 x4 x5 x6 x7 x8 x9 x10 x11 : Option V} {y : Option V} {l : L2.St} (q : R (x0 :: x1 :: x2 :: x3 :: x4 :: x5 :: x6 :: x7 :: x8 :: x9 :: x10 :: x11 :: some v :: l) H) : gName 12 v (x0 :: x1 :: x2 :: x3 :: x4 :: x5 :: x6 :: x7 :: x8 :: x9 :: x10 :: x11 :: y :: l) H R := q
theorem v_13 {x0 x1 x2 x3 x4 x5 x6 x7 x8 x9 x10 x11 x12 : Option V} {l : L2.St} (q : Q v H) : tVar 13 (x0 :: x1 :: x2 :: x3 :: x4 :: x5 :: x6 :: x7 :: x8 :: x9 :: x10 :: x11 :: x12 :: some v :: l) H Q := ⟨v, rfl, q⟩
theorem g_13 {x0 x1 x2 x3 x4 x5 x6 x7 x8 x9 x10 x11 x12 : Option V} {y : Option V} {l : L2.St} (q : R (x0 :: x1 :: x2 :: x3 :: x4 :: x5 :: x6 :: x7 :: x8 :: x9 :: x10 :: x11 :: x12 :: some v :: l) H) : gName 13 v (x0 :: x1 :: x2 :: x3 :: x4 :: x5 :: x6 :: x7 :: x8 :: x9 :: x10 :: x11 :: x12 :: y :: l) H R := q
theorem v_14 {x0 x1 x2 x3 x4 x5 x6 x7 x8 x9 x10 x11 x12 x13 : Option V} {l : L2.St} (q : Q v H) : tVar 14 (x0 :: x1 :: x2 :: x3 :: x4 :: x5 :: x6 :: x7 :: x8 :: x9 :: x10 :: x11 :: x12 :: x13 :: some v :: l) H Q := ⟨v, rfl, q⟩
theorem g_14 {x0 x1 x2 x3 x4 x5 x6 x7 x8 x9 x10 x11 x12 x13 : Option V} {y : Option V} {l : L2.St} (q : R (x0 :: x1 :: x2 :: x3 :: x4 :: x5 :: x6 :: x7 :: x8 :: x9 :: x10 :: x11 :: x12 :: x13 :: some v :: l) H) : gName 14 v (x0 :: x1 :: x2 :: x3 :: x4 :: x5 :: x6 :: x7 :: x8 :: x9 :: x10 :: x11 :: x12 :: x13 :: y :: l) H R := q
theorem v_15 {x0 x1 x2 x3 x4 x5 x6 x7 x8 x9 x10 x11 x12 x13 x14 : Option V} {l : L2.St} (q : Q v H) : tVar 15 (x0 :: x1 :: x2 :: x3 :: x4 :: x5 :: x6 :: x7 :: x8 :: x9 :: x10 :: x11 :: x12 :: x13 :: x14 :: some v :: l) H Q := ⟨v, rfl, q⟩
theorem g_15 {x0 x1 x2 x3 x4 x5 x6 x7 x8 x9 x10 x11 x12 x13 x14 : Option V} {y : Option V} {l : L2.St} (q : R (x0 :: x1 :: x2 :: x3 :: x4 :: x5 :: x6 :: x7 :: x8 :: x9 :: x10 :: x11 :: x12 :: x13 :: x14 :: some v :: l) H) : gName 15 v (x0 :: x1 :: x2 :: x3 :: x4 :: x5 :: x6 :: x7 :: x8 :: x9 :: x10 :: x11 :: x12 :: x13 :: x14 :: y :: l) H R := q
theorem v_16 {x0 x1 x2 x3 x4 x5 x6 x7 x8 x9 x10 x11 x12 x13 x14 x15 : Option V} {l : L2.St} (q : Q v H) : tVar 16 (x0 :: x1 :: x2 :: x3 :: x4 :: x5 :: x6 :: x7 :: x8 :: x9 :: x10 :: x11 :: x12 :: x13 :: x14 :: x15 :: some v :: l) H Q := ⟨v, rfl, q⟩
theorem g_16 {x0 x1 x2 x3 x4 x5 x6 x7 x8 x9 x10 x11 x12 x13 x14 x15 : Option V} {y : Option V} {l : L2.St} (q : R (x0 :: x1 :: x2 :: x3 :: x4 :: x5 :: x6 :: x7 :: x8 :: x9 :: x10 :: x11 :: x12 :: x13 :: x14 :: x15 :: some v :: l) H) : gName 16 v (x0 :: x1 :: x2 :: x3 :: x4 :: x5 :: x6 :: x7 :: x8 :: x9 :: x10 :: x11 :: x12 :: x13 :: x14 :: x15 :: y :: l) H R := q
theorem v_17 {x0 x1 x2 x3 x4 x5 x6 x7 x8 x9 x10 x11 x12 x13 x14 x15 x16 : Option V} {l : L2.St} (q : Q v H) : tVar 17 (x0 :: x1 :: x2 :: x3 :: x4 :: x5 :: x6 :: x7 :: x8 :: x9 :: x10 :: x11 :: x12 :: x13 :: x14 :: x15 :: x16 :: some v :: l) H Q := ⟨v, rfl, q⟩
theorem g_17 {x0 x1 x2 x3 x4 x5 x6 x7 x8 x9 x10 x11 x12 x13 x14 x15 x16 : Option V} {y : Option V} {l : L2.St} (q : R (x0 :: x1 :: x2 :: x3 :: x4 :: x5 :: x6 :: x7 :: x8 :: x9 :: x10 :: x11 :: x12 :: x13 :: x14 :: x15 :: x16 :: some v :: l) H) : gName 17 v (x0 :: x1 :: x2 :: x3 :: x4 :: x5 :: x6 :: x7 :: x8 :: x9 :: x10 :: x11 :: x12 :: x13 :: x14 :: x15 :: x16 :: y :: l) H R := q
theorem v_18 {x0 x1 x2 x3 x4 x5 x6 x7 x8 x9 x10 x11 x12 x13 x14 x15 x16 x17 : Option V} {l : L2.St} (q : Q v H) : tVar 18 (x0 :: x1 :: x2 :: x3 :: x4 :: x5 :: x6 :: x7 :: x8 :: x9 :: x10 :: x11 :: x12 :: x13 :: x14 :: x15 :: x16 :: x17 :: some v :: l) H Q := ⟨v, rfl, q⟩
theorem g_18 {x0 x1 x2 x3 x4 x5 x6 x7 x8 x9 x10 x11 x12 x13 x14 x15 x16 x17 : Option V} {y : Option V} {l : L2.St} (q : R (x0 :: x1 :: x2 :: x3 :: x4 :: x5 :: x6 :: x7 :: x8 :: x9 :: x10 :: x11 :: x12 :: x13 :: x14 :: x15 :: x16 :: x17 :: some v :: l) H) : gName 18 v (x0 :: x1 :: x2 :: x3 :: x4 :: x5 :: x6 :: x7 :: x8 :: x9 :: x10 :: x11 :: x12 :: x13 :: x14 :: x15 :: x16 :: x17 :: y :: l) H R := q
theorem v_19 {x0 x1 x2 x3 x4 x5 x6 x7 x8 x9 x10 x11 x12 x13 x14 x15 x16 x17 x18 : Option V} {l : L2.St} (q : Q v H) : tVar 19 (x0 :: x1 :: x2 :: x3 :: x4 :: x5 :: x6 :: x7 :: x8 :: x9 :: x10 :: x11 :: x12 :: x13 :: x14 :: x15 :: x16 :: x17 :: x18 :: some v :: l) H Q := ⟨v, rfl, q⟩
theorem g_19 {x0 x1 x2 x3 x4 x5 x6 x7 x8 x9 x10 x11 x12 x13 x14 x15 x16 x17 x18 : Option V} {y : Option V} {l : L2.St} (q : R (x0 :: x1 :: x2 :: x3 :: x4 :: x5 :: x6 :: x7 :: x8 :: x9 :: x10 :: x11 :: x12 :: x13 :: x14 :: x15 :: x16 :: x17 :: x18 :: some v :: l) H) : gName 19 v (x0 :: x1 :: x2 :: x3 :: x4 :: x5 :: x6 :: x7 :: x8 :: x9 :: x10 :: x11 :: x12 :: x13 :: x14 :: x15 :: x16 :: x17 :: x18 :: y :: l) H R := q
theorem v_20 {x0 x1 x2 x3 x4 x5 x6 x7 x8 x9 x10 x11 x12 x13 x14 x15 x16 x17 x18 x19 : Option V} {l : L2.St} (q : Q v H) : tVar 20 (x0 :: x1 :: x2 :: x3 :: x4 :: x5 :: x6 :: x7 :: x8 :: x9 :: x10 :: x11 :: x12 :: x13 :: x14 :: x15 :: x16 :: x17 :: x18 :: x19 :: some v :: l) H Q := ⟨v, rfl, q⟩
theorem g_20 {x0 x1 x2 x3 x4 x5 x6 x7 x8 x9 x10 x11 x12 x13 x14 x15 x16 x17 x18 x19 : Option V} {y : Option V} {l : L2.St} (q : R (x0 :: x1 :: x2 :: x3 :: x4 :: x5 :: x6 :: x7 :: x8 :: x9 :: x10 :: x11 :: x12 :: x13 :: x14 :: x15 :: x16 :: x17 :: x18 :: x19 :: some v :: l) H) : gName 20 v (x0 :: x1 :: x2 :: x3 :: x4 :: x5 :: x6 :: x7 :: x8 :: x9 :: x10 :: x11 :: x12 :: x13 :: x14 :: x15 :: x16 :: x17 :: x18 :: x19 :: y :: l) H R := q
theorem v_21 {x0 x1 x2 x3 x4 x5 x6 x7 x8 x9 x10 x11 x12 x13 x14 x15 x16 x17 x18 x19 x20 : Option V} {l : L2.St} (q : Q v H) : tVar 21 (x0 :: x1 :: x2 :: x3 :: x4 :: x5 :: x6 :: x7 :: x8 :: x9 :: x10 :: x11 :: x12 :: x13 :: x14 :: x15 :: x16 :: x17 :: x18 :: x19 :: x20 :: some v :: l) H Q := ⟨v, rfl, q⟩
theorem g_21 {x0 x1 x2 x3 x4 x5 x6 x7 x8 x9 x10 x11 x12 x13 x14 x15 x16 x17 x18 x19 x20 : Option V} {y : Option V} {l : L2.St} (q : R (x0 :: x1 :: x2 :: x3 :: x4 :: x5 :: x6 :: x7 :: x8 :: x9 :: x10 :: x11 :: x12 :: x13 :: x14 :: x15 :: x16 :: x17 :: x18 :: x19 :: x20 :: some v :: l) H) : gName 21 v (x0 :: x1 :: x2 :: x3 :: x4 :: x5 :: x6 :: x7 :: x8 :: x9 :: x10 :: x11 :: x12 :: x13 :: x14 :: x15 :: x16 :: x17 :: x18 :: x19 :: x20 :: y :: l) H R := q
theorem v_22 {x0 x1 x2 x3 x4 x5 x6 x7 x8 x9 x10 x11 x12 x13 x14 x15 x16 x17 x18 x19 x20 x21 : Option V} {l : L2.St} (q : Q v H) : tVar 22 (x0 :: x1 :: x2 :: x3 :: x4 :: x5 :: x6 :: x7 :: x8 :: x9 :: x10 :: x11 :: x12 :: x13 :: x14 :: x15 :: x16 :: x17 :: x18 :: x19 :: x20 :: x21 :: some v :: l) H Q := ⟨v, rfl, q⟩
theorem g_22 {x0 x1 x2 x3 x4 x5 x6 x7 x8 x9 x10 x11 x12 x13 x14 x15 x16 x17 x18 x19 x20 x21 : Option V} {y : Option V} {l : L2.St} (q : R (x0 :: x1 :: x2 :: x3 :: x4 :: x5 :: x6 :: x7 :: x8 :: x9 :: x10 :: x11 :: x12 :: x13 :: x14 :: x15 :: x16 :: x17 :: x18 :: x19 :: x20 :: x21 :: some v :: l) H) : gName 22 v (x0 :: x1 :: x2 :: x3 :: x4 :: x5 :: x6 :: x7 :: x8 :: x9 :: x10 :: x11 :: x12 :: x13 :: x14 :: x15 :: x16 :: x17 :: x18 :: x19 :: x20 :: x21 :: y :: l) H R := q
theorem v_23 {x0 x1 x2 x3 x4 x5 x6 x7 x8 x9 x10 x11 x12 x13 x14 x15 x16 x17 x18 x19 x20 x21 x22 : Option V} {l : L2.St} (q : Q v H) : tVar 23 (x0 :: x1 :: x2 :: x3 :: x4 :: x5 :: x6 :: x7 :: x8 :: x9 :: x10 :: x11 :: x12 :: x13 :: x14 :: x15 :: x16 :: x17 :: x18 :: x19 :: x20 :: x21 :: x22 :: some v :: l) H Q := ⟨v, rfl, q⟩
theorem g_23 {x0 x1 x2 x3 x4 x5 x6 x7 x8 x9 x10 x11 x12 x13 x14 x15 x16 x17 x18 x19 x20 x21 x22 : Option V} {y : Option V} {l : L2.St} (q : R (x0 :: x1 :: x2 :: x3 :: x4 :: x5 :: x6 :: x7 :: x8 :: x9 :: x10 :: x11 :: x12 :: x13 :: x14 :: x15 :: x16 :: x17 :: x18 :: x19 :: x20 :: x21 :: x22 :: some v :: l) H) : gName 23 v (x0 :: x1 :: x2 :: x3 :: x4 :: x5 :: x6 :: x7 :: x8 :: x9 :: x10 :: x11 :: x12 :: x13 :: x14 :: x15 :: x16 :: x17 :: x18 :: x19 :: x20 :: x21 :: x22 :: y :: l) H R := q
theorem v_24 {x0 x1 x2 x3 x4 x5 x6 x7 x8 x9 x10 x11 x12 x13 x14 x15 x16 x17 x18 x19 x20 x21 x22 x23 : Option V} {l : L2.St} (q : Q v H) : tVar 24 (x0 :: x1 :: x2 :: x3 :: x4 :: x5 :: x6 :: x7 :: x8 :: x9 :: x10 :: x11 :: x12 :: x13 :: x14 :: x15 :: x16 :: x17 :: x18 :: x19 :: x20 :: x21 :: x22 :: x23 :: some v :: l) H Q := ⟨v, rfl, q⟩
theorem g_24 {x0 x1 x2 x3 x4 x5 x6 x7 x8 x9 x10 x11 x12 x13 x14 x15 x16 x17 x18 x19 x20 x21 x22 x23 : Option V} {y : Option V} {l : L2.St} (q : R (x0 :: x1 :: x2 :: x3 :: x4 :: x5 :: x6 :: x7 :: x8 :: x9 :: x10 :: x11 :: x12 :: x13 :: x14 :: x15 :: x16 :: x17 :: x18 :: x19 :: x20 :: x21 :: x22 :: x23 :: some v :: l) H) : gName 24 v (x0 :: x1 :: x2 :: x3 :: x4 :: x5 :: x6 :: x7 :: x8 :: x9 :: x10 :: x11 :: x12 :: x13 :: x14 :: x15 :: x16 :: x17 :: x18 :: x19 :: x20 :: x21 :: x22 :: x23 :: y :: l) H R := q
theorem v_25 {x0 x1 x2 x3 x4 x5 x6 x7 x8 x9 x10 x11 x12 x13 x14 x15 x16 x17 x18 x19 x20 x21 x22 x23 x24 : Option V} {l : L2.St} (q : Q v H) : tVar 25 (x0 :: x1 :: x2 :: x3 :: x4 :: x5 :: x6 :: x7 :: x8 :: x9 :: x10 :: x11 :: x12 :: x13 :: x14 :: x15 :: x16 :: x17 :: x18 :: x19 :: x20 :: x21 :: x22 :: x23 :: x24 :: some v :: l) H Q := ⟨v, rfl, q⟩
theorem g_25 {x0 x1 x2 x3 x4 x5 x6 x7 x8 x9 x10 x11 x12 x13 x14 x15 x16 x17 x18 x19 x20 x21 x22 x23 x24 : Option V} {y : Option V} {l : L2.St} (q : R (x0 :: x1 :: x2 :: x3 :: x4 :: x5 :: x6 :: x7 :: x8 :: x9 :: x10 :: x11 :: x12 :: x13 :: x14 :: x15 :: x16 :: x17 :: x18 :: x19 :: x20 :: x21 :: x22 :: x23 :: x24 :: some v :: l) H) : gName 25 v (x0 :: x1 :: x2 :: x3 :: x4 :: x5 :: x6 :: x7 :: x8 :: x9 :: x10 :: x11 :: x12 :: x13 :: x14 :: x15 :: x16 :: x17 :: x18 :: x19 :: x20 :: x21 :: x22 :: x23 :: x24 :: y :: l) H R := q
end
end Fp

/-! # Things that a judge is asked about -/
namespace Fp
open PySem PySem.Spec PyProof.Rows L2
/-- the int, if a thing is one -/
def asInt : V → Option Int
  | .int i => some i
  | _ => none
/-- things that a judge is asked about: flat ones, and lists, tuples that stand -/
inductive Thing (H : Hp) : V → Prop where
  | non : Thing H .non
  | bl (b : Bool) : Thing H (.bl b)
  | int (i : Int) : Thing H (.int i)
  | str (x : Str) : Thing H (.str x)
  | lst {a : Addr} {xs : List V} (h : H a = some (.lst xs)) : Thing H (.ref a)
  | tup {a : Addr} {xs : List V} (h : H a = some (.tup xs)) : Thing H (.ref a)
theorem Thing.ex {H H' : Hp} {v : V} (h : Thing H v) (e : Ex H H') : Thing H' v := by
  cases h with
  | non => exact .non
  | bl b => exact .bl b
  | int i => exact .int i
  | str x => exact .str x
  | lst h => exact .lst (e _ _ h)
  | tup h => exact .tup (e _ _ h)
theorem i_isi {K : PySem.W.Frag} {H : Hp} {Q : VK} {v : V} {n m : String} {b : Bool} (h : L2.TyX K H v (.type n)) (hk : L2.kitB n m = some b) (q : Q (.bl b) H) : L2.rIsi K [v, .ty m] H Q :=
  ⟨v, _, _, _, b, rfl, .ty m, h, L2.kit_ty hk, q⟩
end Fp

/-! # Numbers: primes, the primes of a number -/
namespace Fp
def IsP (n : Nat) : Prop := 2 ≤ n ∧ ∀ d, d ∣ n → d = 1 ∨ d = n
def isPb (n : Nat) : Bool := decide (2 ≤ n) && (List.range n).all fun d => decide (d < 2) || decide (n % d ≠ 0)
theorem isPb_iff (n : Nat) : isPb n = true ↔ IsP n := by
  unfold isPb IsP
  rw [Bool.and_eq_true, decide_eq_true_eq, List.all_eq_true]
  constructor
  · intro ⟨h1, h2⟩
    refine ⟨h1, fun d hd => ?_⟩
    by_cases e : d = n
    · exact .inr e
    · have hle : d ≤ n := Nat.le_of_dvd (by omega) hd
      have hlt : d < n := by omega
      have h3 := h2 d (List.mem_range.mpr hlt)
      rw [Bool.or_eq_true, decide_eq_true_eq, decide_eq_true_eq] at h3
      rcases h3 with h3 | h3
      · have : d ≠ 0 := fun z => by subst z; have := Nat.eq_zero_of_zero_dvd hd; omega
        left; omega
      · exact absurd (Nat.mod_eq_zero_of_dvd hd) h3
  · intro ⟨h1, h2⟩
    refine ⟨h1, fun d hd => ?_⟩
    rw [Bool.or_eq_true, decide_eq_true_eq, decide_eq_true_eq]
    have hlt := List.mem_range.mp hd
    by_cases h : n % d = 0
    · rcases h2 d (Nat.dvd_of_mod_eq_zero h) with e | e
      · left; omega
      · omega
    · right; exact h
instance (n : Nat) : Decidable (IsP n) := decidable_of_iff _ (isPb_iff n)

theorem IsP.pos {p : Nat} (h : IsP p) : 0 < p := by have := h.1; omega
/-- a number above 1 has a prime that divides it -/
theorem has_prime : ∀ n : Nat, 2 ≤ n → ∃ p, IsP p ∧ p ∣ n := by
  intro n
  induction n using Nat.strongRecOn with
  | ind n ih =>
    intro h
    by_cases hp : IsP n
    · exact ⟨n, hp, Nat.dvd_refl n⟩
    · have : ∃ d, d ∣ n ∧ d ≠ 1 ∧ d ≠ n := by
        apply Classical.byContradiction
        intro hne
        refine hp ⟨h, fun d hd => ?_⟩
        by_cases e1 : d = 1
        · exact .inl e1
        · by_cases e2 : d = n
          · exact .inr e2
          · exact absurd ⟨d, hd, e1, e2⟩ hne
      obtain ⟨d, hd, h1, h2⟩ := this
      have hle := Nat.le_of_dvd (by omega) hd
      have h0 : d ≠ 0 := fun z => by subst z; have := Nat.eq_zero_of_zero_dvd hd; omega
      obtain ⟨p, hp1, hp2⟩ := ih d (by omega) (by omega)
      exact ⟨p, hp1, Nat.dvd_trans hp2 hd⟩
theorem IsP.coprime {p n : Nat} (hp : IsP p) (h : ¬ p ∣ n) : Nat.gcd p n = 1 := by
  rcases hp.2 _ (Nat.gcd_dvd_left p n) with e | e
  · exact e
  · exact absurd (e ▸ Nat.gcd_dvd_right p n) h
/-- a prime that divides a product divides one of the two -/
theorem IsP.dvd_mul {p a b : Nat} (hp : IsP p) (h : p ∣ a * b) : p ∣ a ∨ p ∣ b := by
  by_cases ha : p ∣ a
  · exact .inl ha
  · right
    have hc : Nat.Coprime p a := hp.coprime ha
    exact Nat.Coprime.dvd_of_dvd_mul_left hc h
theorem IsP.dvd_pow {p a : Nat} (hp : IsP p) : ∀ {k : Nat}, p ∣ a ^ k → p ∣ a
  | 0, h => by rw [Nat.pow_zero] at h; have := hp.1; have := Nat.le_of_dvd (by omega) h; omega
  | k + 1, h => by
    rw [Nat.pow_succ] at h
    rcases hp.dvd_mul h with h | h
    · exact IsP.dvd_pow hp h
    · exact h
theorem IsP.eq_of_dvd {p q : Nat} (hp : IsP p) (hq : IsP q) (h : p ∣ q) : p = q := by
  rcases hq.2 p h with e | e
  · have := hp.1; omega
  · exact e

/-! ### ascending lists -/
theorem asc_unique : ∀ {l m : List Nat}, l.Pairwise (· < ·) → m.Pairwise (· < ·) → (∀ q, q ∈ l ↔ q ∈ m) → l = m
  | [], [], _, _, _ => rfl
  | [], y :: m, _, _, h => absurd ((h y).mpr List.mem_cons_self) (by simp)
  | x :: l, [], _, _, h => absurd ((h x).mp List.mem_cons_self) (by simp)
  | x :: l, y :: m, hl, hm, h => by
    rw [List.pairwise_cons] at hl hm
    have e : x = y := by
      have h1 := (h x).mp List.mem_cons_self
      have h2 := (h y).mpr List.mem_cons_self
      rcases List.mem_cons.mp h1 with e | e
      · exact e
      · rcases List.mem_cons.mp h2 with e2 | e2
        · exact e2.symm
        · have := hm.1 x e; have := hl.1 y e2; omega
    subst e
    congr 1
    refine asc_unique hl.2 hm.2 fun q => ?_
    have hq := h q
    rw [List.mem_cons, List.mem_cons] at hq
    constructor
    · intro z
      rcases hq.mp (.inr z) with e | e
      · subst e; have := hl.1 q z; omega
      · exact e
    · intro z
      rcases hq.mpr (.inr z) with e | e
      · subst e; have := hm.1 q z; omega
      · exact e
theorem asc_range (n : Nat) : (List.range n).Pairwise (· < ·) := List.pairwise_lt_range

/-! ### the primes of a number -/
def primesOf (n : Nat) : List Nat := (List.range (n + 1)).filter fun p => isPb p && decide (p ∣ n)
theorem mem_primesOf {n q : Nat} (hn : 0 < n) : q ∈ primesOf n ↔ IsP q ∧ q ∣ n := by
  unfold primesOf
  rw [List.mem_filter, Bool.and_eq_true, isPb_iff, decide_eq_true_eq, List.mem_range]
  constructor
  · intro h; exact h.2
  · intro h; exact ⟨by have := Nat.le_of_dvd hn h.2; omega, h⟩
theorem primesOf_asc (n : Nat) : (primesOf n).Pairwise (· < ·) := (asc_range _).filter _
theorem primesOf_eq {n : Nat} {l : List Nat} (hn : 0 < n) (h1 : l.Pairwise (· < ·)) (h2 : ∀ q, q ∈ l ↔ IsP q ∧ q ∣ n) : l = primesOf n :=
  asc_unique h1 (primesOf_asc n) fun q => by rw [h2 q, mem_primesOf hn]
theorem primesOf_self {n : Nat} (hn : 0 < n) : primesOf n = [n] ↔ IsP n := by
  constructor
  · intro h
    have : n ∈ primesOf n := by rw [h]; exact List.mem_singleton.mpr rfl
    exact ((mem_primesOf hn).mp this).1
  · intro h
    refine (primesOf_eq hn (List.pairwise_singleton _ _) fun q => ?_).symm
    rw [List.mem_singleton]
    exact ⟨fun e => by subst e; exact ⟨h, Nat.dvd_refl _⟩, fun ⟨a, b⟩ => a.eq_of_dvd h b⟩

/-- what holds between two turns of the search: found so far, what is left, the next one -/
structure PInv (n : Nat) (found : List Nat) (rest p : Nat) : Prop where
  r1 : 1 ≤ rest
  p2 : 2 ≤ p
  asc : found.Pairwise (· < ·)
  mem : ∀ q, q ∈ found ↔ IsP q ∧ q ∣ n ∧ q < p
  low : ∀ q, IsP q → q ∣ rest → p ≤ q
  has : ∀ q, IsP q → q ∣ n → p ≤ q → q ∣ rest
  dvd : rest ∣ n
theorem PInv.start {n : Nat} (hn : 1 ≤ n) : PInv n [] n 2 where
  r1 := hn
  p2 := Nat.le_refl 2
  asc := List.Pairwise.nil
  mem := fun q => ⟨fun h => absurd h (by simp), fun ⟨a, _, c⟩ => absurd a.1 (by omega)⟩
  low := fun q h _ => h.1
  has := fun q _ h _ => h
  dvd := Nat.dvd_refl n
theorem PInv.prime {n : Nat} {found : List Nat} {rest p : Nat} (I : PInv n found rest p) (h : p ∣ rest) : IsP p := by
  obtain ⟨q, hq1, hq2⟩ := has_prime p I.p2
  have h1 := I.low q hq1 (Nat.dvd_trans hq2 h)
  have h2 := Nat.le_of_dvd (by have := I.p2; omega) hq2
  have e : q = p := by omega
  exact e ▸ hq1
theorem PInv.skip {n : Nat} {found : List Nat} {rest p : Nat} (I : PInv n found rest p) (h : ¬ p ∣ rest) : PInv n found rest (p + 1) where
  r1 := I.r1
  p2 := by have := I.p2; omega
  asc := I.asc
  mem := fun q => by
    rw [I.mem q]
    constructor
    · intro ⟨a, b, c⟩; exact ⟨a, b, by omega⟩
    · intro ⟨a, b, c⟩
      by_cases e : q = p
      · subst e; exact absurd (I.has q a b (Nat.le_refl _)) h
      · exact ⟨a, b, by omega⟩
  low := fun q a b => by
    have := I.low q a b
    by_cases e : q = p
    · subst e; exact absurd b h
    · omega
  has := fun q a b c => I.has q a b (by omega)
  dvd := I.dvd
theorem PInv.take {n : Nat} {found : List Nat} {rest p r : Nat} (I : PInv n found rest p) (h : p ∣ rest) (k : Nat) (e : rest = r * p ^ k) (hr : ¬ p ∣ r) : PInv n (found ++ [p]) r (p + 1) where
  r1 := by
    have := I.r1
    rcases Nat.eq_zero_or_pos r with z | z
    · subst z; rw [Nat.zero_mul] at e; omega
    · exact z
  p2 := by have := I.p2; omega
  asc := by
    rw [List.pairwise_append]
    refine ⟨I.asc, List.pairwise_singleton _ _, fun a ha b hb => ?_⟩
    rw [List.mem_singleton] at hb
    subst hb
    exact ((I.mem a).mp ha).2.2
  mem := fun q => by
    rw [List.mem_append, I.mem q, List.mem_singleton]
    constructor
    · rintro (⟨a, b, c⟩ | a)
      · exact ⟨a, b, by omega⟩
      · subst a; exact ⟨I.prime h, Nat.dvd_trans h I.dvd, by omega⟩
    · intro ⟨a, b, c⟩
      by_cases z : q = p
      · exact .inr z
      · exact .inl ⟨a, b, by omega⟩
  low := fun q a b => by
    have h1 : q ∣ rest := e ▸ Nat.dvd_trans b (Nat.dvd_mul_right r (p ^ k))
    have := I.low q a h1
    by_cases z : q = p
    · subst z; exact absurd b hr
    · omega
  has := fun q a b c => by
    have h1 := I.has q a b (by omega)
    rw [e] at h1
    rcases a.dvd_mul h1 with z | z
    · exact z
    · have := a.eq_of_dvd (I.prime h) (a.dvd_pow z); omega
  dvd := Nat.dvd_trans (e ▸ Nat.dvd_mul_right r (p ^ k)) I.dvd
theorem PInv.lastP {n : Nat} {found : List Nat} {rest p : Nat} (I : PInv n found rest p) (h : rest < p * p) (h1 : 1 < rest) : IsP rest := by
  apply Classical.byContradiction
  intro hp
  have : ∃ d, d ∣ rest ∧ d ≠ 1 ∧ d ≠ rest := by
    apply Classical.byContradiction
    intro hne
    refine hp ⟨by omega, fun d hd => ?_⟩
    by_cases e1 : d = 1
    · exact .inl e1
    · by_cases e2 : d = rest
      · exact .inr e2
      · exact absurd ⟨d, hd, e1, e2⟩ hne
  obtain ⟨d, ⟨c, hc⟩, h2, h3⟩ := this
  have hd0 : d ≠ 0 := fun z => by subst z; rw [Nat.zero_mul] at hc; omega
  have hc0 : c ≠ 0 := fun z => by subst z; rw [Nat.mul_zero] at hc; omega
  have hc1 : c ≠ 1 := fun z => by subst z; rw [Nat.mul_one] at hc; exact h3 hc.symm
  obtain ⟨q, hq1, hq2⟩ := has_prime d (by omega)
  obtain ⟨s, hs1, hs2⟩ := has_prime c (by omega)
  have a1 := I.low q hq1 (hc ▸ Nat.dvd_trans hq2 (Nat.dvd_mul_right d c))
  have a2 := I.low s hs1 (hc ▸ Nat.dvd_trans hs2 (Nat.dvd_mul_left c d))
  have b1 := Nat.le_of_dvd (by omega) hq2
  have b2 := Nat.le_of_dvd (by omega) hs2
  have := Nat.mul_le_mul (Nat.le_trans a1 b1) (Nat.le_trans a2 b2)
  omega
theorem PInv.done {n : Nat} {found : List Nat} {rest p : Nat} (I : PInv n found rest p) (hn : 0 < n) (h : rest < p * p) : (if 1 < rest then found ++ [rest] else found) = primesOf n := by
  by_cases h1 : 1 < rest
  · rw [if_pos h1]
    have hp := I.lastP h h1
    have hge := I.low rest hp (Nat.dvd_refl _)
    refine primesOf_eq hn ?_ fun q => ?_
    · rw [List.pairwise_append]
      refine ⟨I.asc, List.pairwise_singleton _ _, fun a ha b hb => ?_⟩
      rw [List.mem_singleton] at hb
      subst hb
      have := ((I.mem a).mp ha).2.2; omega
    · rw [List.mem_append, I.mem q, List.mem_singleton]
      constructor
      · rintro (⟨a, b, _⟩ | a)
        · exact ⟨a, b⟩
        · subst a; exact ⟨hp, I.dvd⟩
      · intro ⟨a, b⟩
        by_cases c : q < p
        · exact .inl ⟨a, b, c⟩
        · exact .inr (a.eq_of_dvd hp (I.has q a b (by omega)))
  · rw [if_neg h1]
    have e : rest = 1 := by have := I.r1; omega
    refine primesOf_eq hn I.asc fun q => ?_
    rw [I.mem q]
    constructor
    · intro ⟨a, b, _⟩; exact ⟨a, b⟩
    · intro ⟨a, b⟩
      refine ⟨a, b, ?_⟩
      apply Classical.byContradiction
      intro c
      have h2 := I.has q a b (by omega)
      rw [e] at h2
      have := Nat.le_of_dvd (by omega) h2; have := a.1; omega
end Fp

/-! # Numbers: powers and their rests -/
namespace Fp
theorem emod_pow (a m : Int) : ∀ k : Nat, (a % m) ^ k % m = a ^ k % m
  | 0 => by rw [Int.pow_zero, Int.pow_zero]
  | k + 1 => by rw [Int.pow_succ, Int.pow_succ, Int.mul_emod, emod_pow a m k, Int.emod_emod, ← Int.mul_emod]
theorem mul_emod_l (a b m : Int) : (a % m * b) % m = (a * b) % m := by
  rw [Int.mul_emod, Int.emod_emod, ← Int.mul_emod]
theorem mul_emod_r (a b m : Int) : (a * (b % m)) % m = (a * b) % m := by
  rw [Int.mul_emod, Int.emod_emod, ← Int.mul_emod]
theorem mul_emod_congr {a a' b b' m : Int} (h1 : a % m = a' % m) (h2 : b % m = b' % m) : (a * b) % m = (a' * b') % m := by
  rw [Int.mul_emod, h1, h2, ← Int.mul_emod]
/-- one turn of squaring: f b ^ e stays -/
theorem sq_turn_odd {f b e m : Int} (h0 : 0 ≤ e) (h : e % 2 = 1) : ((f * b % m) * (b * b % m) ^ (e / 2).toNat) % m = (f * b ^ e.toNat) % m := by
  have e1 : e.toNat = 2 * (e / 2).toNat + 1 := by omega
  rw [mul_emod_l, mul_emod_congr rfl (emod_pow (b * b) m _), e1, Int.pow_succ, Int.pow_mul, Int.mul_assoc]
  have : b ^ 2 = b * b := by rw [Int.pow_succ, Int.pow_succ, Int.pow_zero, Int.one_mul]
  rw [this, Int.mul_comm b]
theorem sq_turn_even {f b e m : Int} (h0 : 0 ≤ e) (h : ¬ e % 2 = 1) : (f * (b * b % m) ^ (e / 2).toNat) % m = (f * b ^ e.toNat) % m := by
  have e1 : e.toNat = 2 * (e / 2).toNat := by omega
  rw [mul_emod_congr rfl (emod_pow (b * b) m _), e1, Int.pow_mul]
  have : b ^ 2 = b * b := by rw [Int.pow_succ, Int.pow_succ, Int.pow_zero, Int.one_mul]
  rw [this]
/-- what holds between two turns of squaring -/
structure SqInv (m t f b e : Int) : Prop where
  e0 : 0 ≤ e
  f0 : 0 ≤ f
  fm : f < m
  b0 : 0 ≤ b
  bm : b < m
  eq : (f * b ^ e.toNat) % m = t
theorem SqInv.start {a e m : Int} (hm : 0 < m) (he : 0 ≤ e) : SqInv m (a ^ e.toNat % m) (1 % m) (a % m) e where
  e0 := he
  f0 := Int.emod_nonneg _ (by omega)
  fm := Int.emod_lt_of_pos _ hm
  b0 := Int.emod_nonneg _ (by omega)
  bm := Int.emod_lt_of_pos _ hm
  eq := by rw [mul_emod_l, Int.one_mul, emod_pow]
theorem SqInv.odd {m t f b e : Int} (hm : 0 < m) (I : SqInv m t f b e) (h : e % 2 = 1) : SqInv m t (f * b % m) (b * b % m) (e / 2) where
  e0 := by have := I.e0; omega
  f0 := Int.emod_nonneg _ (by omega)
  fm := Int.emod_lt_of_pos _ hm
  b0 := Int.emod_nonneg _ (by omega)
  bm := Int.emod_lt_of_pos _ hm
  eq := by rw [sq_turn_odd I.e0 h, I.eq]
theorem SqInv.even {m t f b e : Int} (hm : 0 < m) (I : SqInv m t f b e) (h : ¬ e % 2 = 1) : SqInv m t f (b * b % m) (e / 2) where
  e0 := by have := I.e0; omega
  f0 := I.f0
  fm := I.fm
  b0 := Int.emod_nonneg _ (by omega)
  bm := Int.emod_lt_of_pos _ hm
  eq := by rw [sq_turn_even I.e0 h, I.eq]
theorem SqInv.done {m t f b e : Int} (I : SqInv m t f b e) (h : ¬ e > 0) : f = t := by
  have e1 : e = 0 := by have := I.e0; omega
  have e2 := I.eq
  subst e1
  rw [show (0 : Int).toNat = 0 from rfl, Int.pow_zero, Int.mul_one, Int.emod_eq_of_lt I.f0 I.fm] at e2
  exact e2
theorem gcd_emod_l (a m : Int) : Int.gcd (a % m) m = Int.gcd a m := by
  have h := Int.gcd_add_mul_left_left m (a % m) (a / m)
  rw [Int.emod_add_mul_ediv] at h
  exact h.symm
/-- what holds between two turns of the long division: m the modulus, a the number -/
structure EuInv (m a one other first second : Int) : Prop where
  h0 : 0 ≤ other
  h1 : 0 < one
  om : one ≤ m
  tm : other ≤ m
  gc : Int.gcd one other = Int.gcd a m
  c1 : (first * a) % m = one % m
  c2 : (second * a) % m = other % m
  sz : first.natAbs * other.natAbs + second.natAbs * one.natAbs ≤ m.natAbs
theorem EuInv.next {m a one other first second : Int} (I : EuInv m a one other first second) (h : 0 < other) : EuInv m a other (one % other) second (first - one / other * second) where
  h0 := Int.emod_nonneg _ (by omega)
  h1 := h
  om := I.tm
  tm := by have := Int.emod_lt_of_pos one h; have := I.tm; omega
  gc := by rw [← I.gc, Int.gcd_comm other, gcd_emod_l]
  c1 := I.c2
  c2 := by
    rw [Int.sub_mul, Int.mul_assoc, Int.sub_emod, I.c1, mul_emod_congr rfl I.c2, ← Int.sub_emod]
    congr 1
    have := Int.emod_add_mul_ediv one other
    rw [Int.mul_comm] at this
    omega
  sz := by
    have hq : 0 ≤ one / other := Int.ediv_nonneg (by have := I.h1; omega) (by omega)
    have h3 : (first - one / other * second).natAbs ≤ first.natAbs + (one / other).natAbs * second.natAbs := by
      have := Int.natAbs_sub_le first (one / other * second)
      rw [Int.natAbs_mul] at this
      exact this
    have e : one.natAbs = (one % other).natAbs + (one / other).natAbs * other.natAbs := by
      have h4 := Int.emod_add_mul_ediv one other
      have h5 : 0 ≤ one % other := Int.emod_nonneg _ (by omega)
      have h6 : ((one / other).natAbs * other.natAbs : Nat) = (other * (one / other)).natAbs := by rw [Int.natAbs_mul, Nat.mul_comm]
      have h7 : 0 ≤ other * (one / other) := Int.mul_nonneg (by omega) hq
      rw [h6]
      have := I.h1
      omega
    have h8 := I.sz
    rw [e, Nat.mul_add] at h8
    calc second.natAbs * (one % other).natAbs + (first - one / other * second).natAbs * other.natAbs
        ≤ second.natAbs * (one % other).natAbs + (first.natAbs + (one / other).natAbs * second.natAbs) * other.natAbs := Nat.add_le_add_left (Nat.mul_le_mul_right _ h3) _
      _ = first.natAbs * other.natAbs + (second.natAbs * (one % other).natAbs + second.natAbs * ((one / other).natAbs * other.natAbs)) := by
        rw [Nat.add_mul, Nat.mul_comm (one / other).natAbs second.natAbs, Nat.mul_assoc]; omega
      _ ≤ m.natAbs := h8
theorem EuInv.szs {m a one other first second : Int} (I : EuInv m a one other first second) : second.natAbs ≤ m.natAbs := by
  have h8 := I.sz
  have h1 := I.h1
  have : second.natAbs * 1 ≤ second.natAbs * one.natAbs := Nat.mul_le_mul_left _ (by omega)
  omega
theorem EuInv.start {m a : Int} (hm : 0 < m) (ha : 0 ≤ a) : EuInv m a m (a % m) 0 1 where
  h0 := Int.emod_nonneg _ (by omega)
  h1 := hm
  om := Int.le_refl _
  tm := by have := Int.emod_lt_of_pos a hm; omega
  gc := by rw [Int.gcd_comm m, gcd_emod_l]
  c1 := by rw [Int.zero_mul, Int.emod_self]; rfl
  c2 := by rw [Int.one_mul, Int.emod_emod]
  sz := by rw [show (0 : Int).natAbs = 0 from rfl, Nat.zero_mul, show (1 : Int).natAbs = 1 from rfl]; omega
end Fp
namespace Fp
/-! ## the primes that a number is made of, with their repeats -/
abbrev nv (n : Nat) : L2.V := .int (n : Int)
theorem dvd_of_emod {a b : Nat} (h : (a : Int) % (b : Int) = 0) : b ∣ a := Nat.dvd_of_mod_eq_zero (Int.ofNat.inj (show Int.ofNat (a % b) = Int.ofNat 0 from h))
theorem emod_of_dvd {a b : Nat} (h : b ∣ a) : (a : Int) % (b : Int) = 0 := congrArg Int.ofNat (Nat.mod_eq_zero_of_dvd h)
def mulL (l : List Nat) : Nat := l.foldr (· * ·) 1
theorem mulL_snoc (l : List Nat) (a : Nat) : mulL (l ++ [a]) = mulL l * a := by
  induction l with
  | nil => simp [mulL]
  | cons b t ih => simp only [mulL, List.cons_append, List.foldr_cons] at ih ⊢; rw [ih, Nat.mul_assoc]
theorem two_pow_len : ∀ l : List Nat, (∀ q ∈ l, 2 ≤ q) → 2 ^ l.length ≤ mulL l
  | [], _ => Nat.le_refl _
  | a :: t, h => by
    have h1 := two_pow_len t fun q hq => h q (List.mem_cons_of_mem _ hq)
    have h2 := h a List.mem_cons_self
    rw [List.length_cons, Nat.pow_succ, Nat.mul_comm]
    exact Nat.mul_le_mul h2 h1
/-- the primes a number is made of, ascending -/
structure PPs (n : Nat) (l : List Nat) : Prop where
  pr : ∀ q ∈ l, IsP q
  mul : mulL l = n
  asc : l.Pairwise (· ≤ ·)
structure PPI (n : Nat) (fo : List Nat) (r p : Nat) : Prop where
  pr : ∀ q ∈ fo, IsP q ∧ q ≤ p
  mul : mulL fo * r = n
  asc : fo.Pairwise (· ≤ ·)
  p2 : 2 ≤ p
  r1 : 1 ≤ r
  n1 : 1 ≤ n
  least : ∀ d, 2 ≤ d → d < p → ¬ d ∣ r
theorem PPI.start {n : Nat} (h : 1 ≤ n) : PPI n [] n 2 := ⟨fun _ h => absurd h List.not_mem_nil, by simp [mulL], .nil, Nat.le_refl _, h, h, fun d h1 h2 => absurd h1 (by omega)⟩
theorem PPI.rle {n : Nat} {fo : List Nat} {r p : Nat} (I : PPI n fo r p) : r ≤ n := Nat.le_of_dvd I.n1 ⟨mulL fo, by rw [← I.mul, Nat.mul_comm]⟩
theorem PPI.len {n : Nat} {fo : List Nat} {r p : Nat} (I : PPI n fo r p) (h : n ≤ 10 ^ 20) : fo.length < 70 := by
  have h1 := two_pow_len fo fun q hq => (I.pr q hq).1.1
  have h2 : mulL fo ≤ n := Nat.le_of_dvd I.n1 ⟨r, I.mul.symm⟩
  apply Classical.byContradiction
  intro c
  have h3 : 2 ^ 70 ≤ 2 ^ fo.length := Nat.pow_le_pow_right (by decide) (by omega)
  omega
theorem PPI.prime {n : Nat} {fo : List Nat} {r p : Nat} (I : PPI n fo r p) (h : p ∣ r) : IsP p := by
  refine ⟨I.p2, fun d hd => ?_⟩
  have h1 := Nat.le_of_dvd (by have := I.p2; omega) hd
  have h2 : d ≠ 0 := fun z => by rw [z] at hd; have := Nat.eq_zero_of_zero_dvd hd; have := I.p2; omega
  by_cases h3 : 2 ≤ d
  · by_cases h4 : d < p
    · exact absurd (Nat.dvd_trans hd h) (I.least d h3 h4)
    · right; omega
  · left; omega
theorem PPI.take {n : Nat} {fo : List Nat} {r p : Nat} (I : PPI n fo r p) (h : p ∣ r) : PPI n (fo ++ [p]) (r / p) p where
  pr := fun q hq => by
    rcases List.mem_append.mp hq with h1 | h1
    · exact I.pr q h1
    · cases List.mem_singleton.mp h1
      exact ⟨I.prime h, Nat.le_refl _⟩
  mul := by rw [mulL_snoc, Nat.mul_assoc, Nat.mul_div_cancel' h, I.mul]
  asc := by
    rw [List.pairwise_append]
    refine ⟨I.asc, List.pairwise_singleton _ _, fun a ha b hb => ?_⟩
    cases List.mem_singleton.mp hb
    exact (I.pr a ha).2
  p2 := I.p2
  r1 := Nat.div_pos (Nat.le_of_dvd I.r1 h) (by have := I.p2; omega)
  n1 := I.n1
  least := fun d h1 h2 h3 => I.least d h1 h2 (Nat.dvd_trans h3 (Nat.div_dvd_of_dvd h))
theorem PPI.skip {n : Nat} {fo : List Nat} {r p : Nat} (I : PPI n fo r p) (h : ¬ p ∣ r) : PPI n fo r (p + 1) :=
  ⟨fun q hq => ⟨(I.pr q hq).1, Nat.le_succ_of_le (I.pr q hq).2⟩, I.mul, I.asc, by have := I.p2; omega, I.r1, I.n1, fun d h1 h2 => by
    by_cases h3 : d = p
    · rw [h3]; exact h
    · exact I.least d h1 (by omega)⟩
theorem PPI.done {n : Nat} {fo : List Nat} {r p : Nat} (I : PPI n fo r p) (h : r < p * p) : PPs n (fo ++ if 1 < r then [r] else []) := by
  split
  · rename_i h1
    have hrp : p ≤ r := by
      apply Classical.byContradiction
      intro c
      exact I.least r (by omega) (by omega) (Nat.dvd_refl _)
    have hP : IsP r := by
      refine ⟨by omega, fun d hd => ?_⟩
      obtain ⟨e, he⟩ := hd
      have hd0 : d ≠ 0 := fun z => by rw [z, Nat.zero_mul] at he; omega
      have he0 : e ≠ 0 := fun z => by rw [z, Nat.mul_zero] at he; omega
      by_cases h2 : d < p
      · by_cases h3 : 2 ≤ d
        · exact absurd ⟨e, he⟩ (I.least d h3 h2)
        · left; omega
      · have h4 : e < p := by
          apply Classical.byContradiction
          intro c
          have : p * p ≤ d * e := Nat.mul_le_mul (by omega) (by omega)
          omega
        by_cases h5 : 2 ≤ e
        · exact absurd ⟨d, by rw [he, Nat.mul_comm]⟩ (I.least e h5 h4)
        · have : e = 1 := by omega
          right; rw [he, this, Nat.mul_one]
    refine ⟨fun q hq => ?_, by rw [mulL_snoc, I.mul], ?_⟩
    · rcases List.mem_append.mp hq with h3 | h3
      · exact (I.pr q h3).1
      · cases List.mem_singleton.mp h3; exact hP
    · rw [List.pairwise_append]
      refine ⟨I.asc, List.pairwise_singleton _ _, fun a ha b hb => ?_⟩
      cases List.mem_singleton.mp hb
      exact Nat.le_trans (I.pr a ha).2 hrp
  · have : r = 1 := by have := I.r1; omega
    rw [List.append_nil]
    exact ⟨fun q hq => (I.pr q hq).1, by have := I.mul; rw [‹r = 1›, Nat.mul_one] at this; exact this, I.asc⟩
theorem PPs.one {n : Nat} {l : List Nat} (h : PPs n l) (h1 : l.length = 1) : IsP n := by
  match l, h1 with
  | [q], _ =>
    have := h.mul
    simp only [mulL, List.foldr_cons, List.foldr_nil, Nat.mul_one] at this
    rw [← this]
    exact h.pr q List.mem_cons_self
theorem sq_small {p n : Nat} (h : p * p ≤ n) (hn : n ≤ 10 ^ 9) : p ≤ 31622 := by
  apply Classical.byContradiction
  intro c
  have : 31623 * 31623 ≤ p * p := Nat.mul_le_mul (by omega) (by omega)
  omega
end Fp

/-! # Finite fields -/
namespace Fp
open Lean.Grind
/-- a finite field: a field with a list of all its members -/
class FinF (α : Type) extends Lean.Grind.CommRing α where
  iv : α → α
  iv_ok : ∀ a : α, a ≠ 0 → a * iv a = 1
  ne01 : (0 : α) ≠ 1
  dec : DecidableEq α
  els : List α
  nd : els.Nodup
  all : ∀ a, a ∈ els
@[reducible] instance finDec {α : Type} [FinF α] : DecidableEq α := FinF.dec
section
variable {α : Type} [Lean.Grind.CommRing α]
def prodL (l : List α) : α := l.foldr (· * ·) 1
theorem prodL_perm {l m : List α} (h : l.Perm m) : prodL l = prodL m := by
  induction h with
  | nil => rfl
  | cons x _ ih => unfold prodL at *; rw [List.foldr_cons, List.foldr_cons, ih]
  | swap x y l => unfold prodL; simp only [List.foldr_cons]; grind
  | trans _ _ h1 h2 => rw [h1, h2]
theorem prodL_map_mul (a : α) (l : List α) : prodL (l.map (a * ·)) = a ^ l.length * prodL l := by
  induction l with
  | nil => unfold prodL; simp only [List.map_nil, List.foldr_nil, List.length_nil]; grind
  | cons x l ih =>
    have : prodL ((x :: l).map (a * ·)) = (a * x) * prodL (l.map (a * ·)) := rfl
    rw [this, ih, List.length_cons]
    have : prodL (x :: l) = x * prodL l := rfl
    rw [this, Semiring.pow_succ]; grind
end
section
variable {α : Type} [FinF α]
theorem mul_iv {a : α} (h : a ≠ 0) : a * FinF.iv a = 1 := FinF.iv_ok a h
theorem mul_ne {a b : α} (ha : a ≠ 0) (hb : b ≠ 0) : a * b ≠ 0 := fun h => hb (by
  have : FinF.iv a * (a * b) = b := by
    have := mul_iv ha
    grind
  rw [h] at this; grind)
theorem iv_ne {a : α} (h : a ≠ 0) : FinF.iv a ≠ 0 := fun z => by
  have := mul_iv h
  rw [z] at this
  have h2 : (0 : α) = 1 := by grind
  exact FinF.ne01 h2
theorem mul_cancel {a b c : α} (ha : a ≠ 0) (h : a * b = a * c) : b = c := by
  have e1 : FinF.iv a * (a * b) = b := by have := mul_iv ha; grind
  have e2 : FinF.iv a * (a * c) = c := by have := mul_iv ha; grind
  rw [← e1, ← e2, h]
def units (α : Type) [FinF α] : List α := (FinF.els : List α).filter fun a => decide (a ≠ 0)
theorem mem_units {a : α} : a ∈ units α ↔ a ≠ 0 := by
  unfold units
  rw [List.mem_filter, decide_eq_true_eq]
  exact ⟨fun h => h.2, fun h => ⟨FinF.all a, h⟩⟩
theorem units_nd : (units α).Nodup := FinF.nd.filter _
theorem prodL_ne {l : List α} (h : ∀ a ∈ l, a ≠ 0) : prodL l ≠ 0 := by
  induction l with
  | nil => exact fun z => FinF.ne01 z.symm
  | cons x l ih => exact mul_ne (h x List.mem_cons_self) (ih fun a ha => h a (List.mem_cons_of_mem _ ha))
theorem nodup_map_inj {β γ : Type} {f : β → γ} {l : List β} (hf : ∀ a b, a ∈ l → b ∈ l → f a = f b → a = b) (h : l.Nodup) : (l.map f).Nodup := by
  induction l with
  | nil => exact List.nodup_nil
  | cons x l ih =>
    rw [List.nodup_cons] at h
    rw [List.map_cons, List.nodup_cons]
    refine ⟨fun z => ?_, ih (fun a b ha hb => hf a b (List.mem_cons_of_mem _ ha) (List.mem_cons_of_mem _ hb)) h.2⟩
    obtain ⟨y, hy, e⟩ := List.mem_map.mp z
    have := hf y x (List.mem_cons_of_mem _ hy) List.mem_cons_self e
    subst this
    exact h.1 hy
/-- each member but 0 to the number of these is 1 -/
theorem unit_pow {a : α} (h : a ≠ 0) : a ^ (units α).length = 1 := by
  have hp : ((units α).map (a * ·)).Perm (units α) := by
    rw [List.perm_ext_iff_of_nodup (nodup_map_inj (fun x y _ _ e => mul_cancel h e) units_nd) units_nd]
    intro y
    rw [List.mem_map, mem_units]
    constructor
    · rintro ⟨x, hx, rfl⟩
      exact mul_ne h (mem_units.mp hx)
    · intro hy
      refine ⟨FinF.iv a * y, mem_units.mpr (mul_ne (iv_ne h) hy), ?_⟩
      have := mul_iv h; grind
  have e := prodL_perm hp
  rw [prodL_map_mul] at e
  have hn : prodL (units α) ≠ 0 := prodL_ne fun x hx => mem_units.mp hx
  refine mul_cancel hn ?_
  have : prodL (units α) * a ^ (units α).length = a ^ (units α).length * prodL (units α) := by grind
  rw [this, e]; grind
end
/-! ### numbers by a prime -/
theorem nat_bezout (a b : Nat) : ∃ x y : Int, (a : Int) * x + (b : Int) * y = (Nat.gcd a b : Int) := by
  induction a, b using Nat.gcd.induction with
  | H0 n => exact ⟨0, 1, by rw [Nat.gcd_zero_left]; omega⟩
  | H1 m n hm ih =>
    obtain ⟨x, y, e⟩ := ih
    refine ⟨y - (n / m : Nat) * x, x, ?_⟩
    rw [Nat.gcd_rec, ← e]
    have h : ((n : Nat) : Int) = (m : Int) * ((n / m : Nat) : Int) + ((n % m : Nat) : Int) := by
      have := Nat.div_add_mod n m
      rw [← Int.natCast_mul, ← Int.natCast_add, this]
    grind
section
open Fin.NatCast Fin.IntCast
variable {p : Nat}
theorem IsP.ne0 (h : IsP p) : NeZero p := ⟨by have := h.1; omega⟩
abbrev zp (p : Nat) [NeZero p] (x : Int) : Fin p := (x : Fin p)
theorem zp_eq [NeZero p] {x y : Int} : (x : Fin p) = (y : Fin p) ↔ x % (p : Int) = y % (p : Int) := IsCharP.intCast_ext_iff p
theorem zp_zero [NeZero p] {x : Int} : (x : Fin p) = 0 ↔ x % (p : Int) = 0 := IsCharP.intCast_eq_zero_iff p x
theorem zp_val [NeZero p] (a : Fin p) : ((a.val : Int) : Fin p) = a := by
  have h : ((a.val : Nat) : Fin p) = a := Fin.ofNat_val_eq_self a
  have h2 : ((a.val : Int) : Fin p) = ((a.val : Nat) : Fin p) := Ring.intCast_natCast a.val
  rw [h2, h]
theorem zp_inv [NeZero p] (hp : IsP p) (a : Fin p) (h : a ≠ 0) : ∃ b : Fin p, a * b = 1 := by
  have hg : Nat.gcd p a.val = 1 := hp.coprime fun z => by
    have h1 := Nat.le_of_dvd (Nat.pos_of_ne_zero fun e => h (Fin.ext e)) z
    have := a.isLt; omega
  obtain ⟨x, y, e⟩ := nat_bezout p a.val
  refine ⟨(y : Fin p), ?_⟩
  rw [hg] at e
  have h2 : (((p : Int) * x + (a.val : Int) * y : Int) : Fin p) = ((1 : Int) : Fin p) := by rw [e]; rfl
  rw [Ring.intCast_add, Ring.intCast_mul, Ring.intCast_mul, zp_val] at h2
  have h3 : ((p : Int) : Fin p) = 0 := zp_zero.mpr (Int.emod_self)
  rw [h3, Ring.intCast_one] at h2
  grind
/-- the field of numbers by a prime -/
@[reducible] noncomputable def zpF (hp : IsP p) : @FinF (Fin p) :=
  have := hp.ne0
  { iv := fun a => if h : a ≠ 0 then Classical.choose (zp_inv hp a h) else 0
    iv_ok := fun a h => by
      rw [dif_pos h]
      exact Classical.choose_spec (zp_inv hp a h)
    ne01 := fun z => by
      have := hp.1
      have h1 := congrArg Fin.val z
      have h2 : (1 : Fin p).val = 1 % p := rfl
      have h3 : (0 : Fin p).val = 0 := rfl
      rw [h2, h3, Nat.mod_eq_of_lt (by omega)] at h1
      omega
    dec := inferInstance
    els := List.finRange p
    nd := List.nodup_finRange p
    all := fun a => List.mem_finRange a }
theorem zp_units (hp : IsP p) : (@units (Fin p) (zpF hp)).length = p - 1 := by
  have h0 := hp.ne0
  have hperm : (@units (Fin p) (zpF hp)).Perm ((List.finRange p).erase 0) := by
    rw [List.perm_ext_iff_of_nodup (@units_nd (Fin p) (zpF hp)) ((List.nodup_finRange p).erase _)]
    intro a
    rw [@mem_units (Fin p) (zpF hp), (List.nodup_finRange p).mem_erase_iff]
    exact ⟨fun h => ⟨h, List.mem_finRange a⟩, fun h => h.1⟩
  rw [hperm.length_eq, List.length_erase_of_mem (List.mem_finRange _), List.length_finRange]
/-- a power by a prime -/
theorem fermat (hp : IsP p) {a : Int} (h : a % (p : Int) ≠ 0) : a ^ (p - 1) % (p : Int) = 1 % (p : Int) := by
  have := hp.ne0
  have ha : (a : Fin p) ≠ 0 := fun z => h (zp_zero.mp z)
  have e := @unit_pow (Fin p) (zpF hp) (a : Fin p) ha
  rw [zp_units hp] at e
  rw [← zp_eq, Ring.intCast_pow, Ring.intCast_one]
  exact e
theorem fermat_more (hp : IsP p) (a : Int) {k : Nat} (h : k % (p - 1) = 1 % (p - 1)) (hk : 1 ≤ k) : a ^ k % (p : Int) = a % (p : Int) := by
  by_cases ha : a % (p : Int) = 0
  · obtain ⟨j, rfl⟩ : ∃ j, k = j + 1 := ⟨k - 1, by omega⟩
    rw [Int.pow_succ, Int.mul_emod, ha, Int.mul_zero, Int.zero_emod]
  · have hp1 := hp.1
    obtain ⟨j, hj⟩ : ∃ j, k = (p - 1) * j + 1 := by
      refine ⟨(k - 1) / (p - 1), ?_⟩
      have : (k - 1) % (p - 1) = 0 := by
        have h2 := (Nat.sub_mod_eq_zero_of_mod_eq h)
        exact h2
      have := Nat.div_add_mod (k - 1) (p - 1)
      omega
    subst hj
    have f := fermat hp ha
    rw [Int.pow_succ, Int.pow_mul, Int.mul_emod, ← emod_pow, f, emod_pow, Int.one_pow, ← Int.mul_emod, Int.one_mul]
end
end Fp

/-! # The law's own side: the hand that draws, and what stands beside it -/
namespace Fp
open PySem PySem.Spec PyProof.Rows L2
/-- the hand: cells, the next one's place, what is left, a mix, how many were mixed -/
structure HandAt (H : Hp) (h : Addr) : Prop where
  ex : ∃ (c : Addr) (i d m n : Int) (cells : List Int), H h = some (.lst [.ref c, .int i, .int d, .int m, .int n]) ∧ c ≠ h ∧ H c = some (.lst (cells.map V.int)) ∧ 0 ≤ i ∧ (0 ≤ d ∧ d < 10 ^ 40) ∧ (0 ≤ m ∧ m < 10 ^ 20) ∧ 0 ≤ n ∧ (∀ x ∈ cells, 0 ≤ x ∧ x < 10 ^ 40)
theorem HandAt.of {H : Hp} {h c : Addr} {i d m n : Int} {cells : List Int} (h1 : H h = some (.lst [.ref c, .int i, .int d, .int m, .int n])) (h2 : c ≠ h) (h3 : H c = some (.lst (cells.map V.int))) (h4 : 0 ≤ i) (h5 : 0 ≤ d ∧ d < 10 ^ 40) (h6 : 0 ≤ m ∧ m < 10 ^ 20) (h7 : 0 ≤ n) (h8 : ∀ x ∈ cells, 0 ≤ x ∧ x < 10 ^ 40) : HandAt H h :=
  ⟨c, i, d, m, n, cells, h1, h2, h3, h4, h5, h6, h7, h8⟩
/-- the world of the law's defs: the hand at h, tables of code objects -/
structure Wd (T : List (Addr × Str)) (H : Hp) (h : Addr) : Prop where
  hand : HandAt H h
  tabs : LamX.Tabs T H
/-- all but the hand and the tables stay; the hand keeps its cells -/
def ExM (h : Addr) (H H' : Hp) : Prop := (∀ a o, a ≠ h → (∀ ps, o ≠ .tbl ps) → H a = some o → H' a = some o) ∧ ∀ c r, H h = some (.lst (.ref c :: r)) → ∃ r', H' h = some (.lst (.ref c :: r'))
theorem ExM.refl (h : Addr) (H : Hp) : ExM h H H := ⟨fun _ _ _ _ e => e, fun _ r e => ⟨r, e⟩⟩
theorem ExM.trans {h : Addr} {H H1 H2 : Hp} (a : ExM h H H1) (b : ExM h H1 H2) : ExM h H H2 := ⟨fun c o n t e => b.1 c o n t (a.1 c o n t e), fun c r e => by
  obtain ⟨r1, e1⟩ := a.2 c r e
  exact b.2 c r1 e1⟩
theorem ExM.of {h : Addr} {H H' : Hp} (e : Ex H H') : ExM h H H' := ⟨fun c o _ _ q => e c o q, fun _ r q => ⟨r, e _ _ q⟩⟩
theorem ExM.ofN {h : Addr} {H H' : Hp} (e : LamX.ExtN H H') : ExM h H H' := ⟨fun c o _ t q => e c o q t, fun _ r q => ⟨r, e _ _ q (fun _ z => by cases z)⟩⟩
theorem exm_lst {h a : Addr} {H H' : Hp} {xs : List V} (e : ExM h H H') (n : a ≠ h) (q : H a = some (.lst xs)) : H' a = some (.lst xs) := e.1 a _ n (fun _ z => by cases z) q
theorem exm_tup {h a : Addr} {H H' : Hp} {xs : List V} (e : ExM h H H') (n : a ≠ h) (q : H a = some (.tup xs)) : H' a = some (.tup xs) := e.1 a _ n (fun _ z => by cases z) q
theorem exm_dK {h a : Addr} {H H' : Hp} {xs : List (Key × V)} (e : ExM h H H') (n : a ≠ h) (q : H a = some (.dK xs)) : H' a = some (.dK xs) := e.1 a _ n (fun _ z => by cases z) q
theorem exm_ins {h a : Addr} {H H' : Hp} {C dx : Addr} {fs : List (Str × V)} (e : ExM h H H') (n : a ≠ h) (q : H a = some (.ins C dx fs)) : H' a = some (.ins C dx fs) := e.1 a _ n (fun _ z => by cases z) q
theorem HandAt.exN {h : Addr} {H H' : Hp} (w : HandAt H h) (e : LamX.ExtN H H') : HandAt H' h := by
  obtain ⟨c, i, d, m, n, cells, h1, h2, h3, r⟩ := w.ex
  exact ⟨c, i, d, m, n, cells, e _ _ h1 (fun _ z => by cases z), h2, e _ _ h3 (fun _ z => by cases z), r⟩
theorem Wd.exN {T : List (Addr × Str)} {H H' : Hp} {h : Addr} (w : Wd T H h) (e : LamX.ExtN H H') (t : LamX.Tabs T H') : Wd T H' h := ⟨w.hand.exN e, t⟩
theorem HandAt.exM {h : Addr} {H H' : Hp} (w : HandAt H h) (e : Ex H H') : HandAt H' h := by
  obtain ⟨c, i, d, m, n, cells, h1, h2, h3, r⟩ := w.ex
  exact ⟨c, i, d, m, n, cells, e _ _ h1, h2, e _ _ h3, r⟩
theorem Wd.ex {T : List (Addr × Str)} {H H' : Hp} {h : Addr} (w : Wd T H h) (e : Ex H H') : Wd T H' h := ⟨w.hand.exM e, w.tabs.ext e⟩
theorem Wd.at_ {T : List (Addr × Str)} {H : Hp} {h : Addr} (w : Wd T H h) : ∃ xs, H h = some (.lst xs) := by
  obtain ⟨c, i, d, m, n, cells, h1, _⟩ := w.hand.ex
  exact ⟨_, h1⟩
theorem Wd.ne {T : List (Addr × Str)} {H : Hp} {h p : Addr} (w : Wd T H h) (hp : H p = none) : p ≠ h := fun z => by
  obtain ⟨xs, e⟩ := w.at_
  rw [← z, hp] at e
  cases e
theorem Wd.neT {T : List (Addr × Str)} {H : Hp} {h p : Addr} {ys : List V} (w : Wd T H h) (hp : H p = some (.tup ys)) : p ≠ h := fun z => by
  obtain ⟨xs, e⟩ := w.at_
  rw [← z, hp] at e
  cases e
/-- a change of the hand alone -/
theorem tabs_but {T : List (Addr × Str)} {H H' : Hp} {h : Addr} {xs : List V} (hh : H h = some (.lst xs)) (t : LamX.Tabs T H) (e : ∀ a o, a ≠ h → H a = some o → H' a = some o) : LamX.Tabs T H' := fun p hp => by
  obtain ⟨ps, h1, h2, h3⟩ := t p hp
  refine ⟨ps, e _ _ (fun z => ?_) h1, h2, fun pos cv hc => ?_⟩
  · rw [z, hh] at h1; cases h1
  · obtain ⟨c, e1, e2⟩ := h3 pos cv hc
    refine ⟨c, e1, e _ _ (fun z => ?_) e2⟩
    rw [z, hh] at e2
    unfold LamX.CodeO at e2
    cases e2
theorem Thing.exM {h : Addr} {H H' : Hp} {v : V} (t : Thing H v) (e : ExM h H H') (n : v ≠ .ref h) : Thing H' v := by
  cases t with
  | non => exact .non
  | bl b => exact .bl b
  | int i => exact .int i
  | str x => exact .str x
  | lst q => exact .lst (exm_lst e (fun z => n (by rw [z])) q)
  | tup q => exact .tup (exm_tup e (fun z => n (by rw [z])) q)
section
variable {T : List (Addr × Str)} {H : Hp} {h : Addr} {Q : VK} {xs : List V}
theorem i_newLW (hl : xs.length ≤ 100000) (w : Wd T H h) (q : ∀ p H', p ≠ h → Wd T H' h → Ex H H' → H' p = some (.lst xs) → Q (.ref p) H') : NewL xs H Q :=
  i_newL hl fun p H' hp e hh => q p H' (w.ne hp) (w.ex e) e hh
theorem i_newTW (hl : xs.length ≤ 100000) (w : Wd T H h) (q : ∀ p H', p ≠ h → Wd T H' h → Ex H H' → H' p = some (.tup xs) → Q (.ref p) H') : NewT xs H Q :=
  i_newT hl fun p H' hp e hh => q p H' (w.ne hp) (w.ex e) e hh
end
/-- a list that was free at first, written: the world stands -/
theorem Wd.write {T : List (Addr × Str)} {H H4 : Hp} {h D : Addr} {xs ys : List V} (w : Wd T H h) (hD : H D = none) (w4 : Wd T H4 h) (x4 : ExM h H H4) (hd : H4 D = some (.lst xs)) : Wd T (upd H4 D (.lst ys)) h ∧ ExM h H (upd H4 D (.lst ys)) := by
  obtain ⟨c, i, d, m, n, cells, h1, h2, h3, r⟩ := w.hand.ex
  obtain ⟨c', i', d', m', n', cells', h1', h2', h3', r'⟩ := w4.hand.ex
  obtain ⟨q, hq⟩ := x4.2 _ _ h1
  have hc : c' = c := by rw [h1'] at hq; cases hq; rfl
  subst hc
  have hn : h ≠ D := fun z => by rw [← z, h1] at hD; cases hD
  have hn2 : c' ≠ D := fun z => by rw [← z, h3] at hD; cases hD
  refine ⟨⟨⟨c', i', d', m', n', cells', by rw [upd_ne hn]; exact h1', h2', by rw [upd_ne hn2]; exact h3', r'⟩, tabs_but hd w4.tabs fun a o ha q => by rw [upd_ne ha]; exact q⟩, fun a o ha ht q => ?_, fun a r2 q => ?_⟩
  · rw [upd_ne (fun z => by rw [z, hD] at q; cases q)]
    exact x4.1 a o ha ht q
  · rw [upd_ne hn]; exact x4.2 a r2 q
section
variable {g : TG} {te : TE} {vs : List Nat} {σ : L2.St} {T : List (Addr × Str)} {H : Hp} {h : Addr} {Q : VK} {K : PySem.W.Frag}
theorem lcRW {lo : Int} {n : Nat} (F : Nat → V → Prop) (w : Wd T H h) (hn : n ≤ 50000)
    (hs : ∀ i H' R, i < n → Wd T H' h → ExM h H H' → (∀ y H4, F i y → Wd T H4 h → ExM h H' H4 → R y H4) → g (.int (lo + i)) (wipe σ vs) H' fun σ2 H2 => wipe σ2 vs = wipe σ vs ∧ te σ2 H2 R)
    (hd : ∀ p H' ys, ys.length = n → (∀ i y, ys[i]? = some y → F i y) → p ≠ h → Wd T H' h → ExM h H H' → H' p = some (.lst ys) → Q (.ref p) H') : LcG (Itr lo n) g tYes te vs σ Q H := fun Dp hp => by
  refine lc_range (lo := lo) (n := n) (fun i H' => Wd T H' h ∧ ExM h H H' ∧ ∃ ys, H' Dp = some (.lst ys) ∧ ys.length = i ∧ ∀ i y, ys[i]? = some y → F i y) ⟨w.ex (ex_new hp), .of (ex_new hp), [], upd_same, rfl, fun i y z => by cases z⟩ (fun i H' hi p => ?_)
    (fun H' ⟨w1, x1, ys, e1, e2, e3⟩ => hd Dp H' ys e2 e3 (w.ne hp) w1 x1 e1)
  obtain ⟨w1, x1, ys, e1, e2, e3⟩ := p
  refine hs i H' _ hi w1 x1 (fun y H4 hy w4 x4 => ?_)
  have hd4 := exm_lst x4 (w.ne hp) e1
  have w5 := w.write hp w4 (x1.trans x4) hd4 (ys := ys ++ [y])
  refine ⟨ys, hd4, szl (by omega), w5.1, w5.2, ys ++ [y], upd_same, by rw [List.length_append, e2]; rfl, fun j z hz => ?_⟩
  rw [List.getElem?_append] at hz
  split at hz
  · exact e3 j z hz
  · have : j - ys.length = 0 := by
      have := (List.getElem?_eq_some_iff.mp hz).1
      rw [List.length_singleton] at this
      omega
    rw [this] at hz
    cases hz
    rw [show j = i by omega]
    exact hy
theorem lcLW {b : Addr} {xs : List V} (F : Nat → V → Prop) (w : Wd T H h) (hb : b ≠ h) (hl : H b = some (.lst xs)) (hn : xs.length ≤ 50000)
    (hs : ∀ i x H' R, xs[i]? = some x → Wd T H' h → ExM h H H' → (∀ y H4, F i y → Wd T H4 h → ExM h H' H4 → R y H4) → g x (wipe σ vs) H' fun σ2 H2 => wipe σ2 vs = wipe σ vs ∧ te σ2 H2 R)
    (hd : ∀ p H' ys, ys.length = xs.length → (∀ i y, ys[i]? = some y → F i y) → p ≠ h → Wd T H' h → ExM h H H' → H' p = some (.lst ys) → Q (.ref p) H') : LcG (Itl K b) g tYes te vs σ Q H := fun Dp hp => by
  refine lc_list (K := K) (a := b) (xs := xs) (fun i H' => Wd T H' h ∧ ExM h H H' ∧ ∃ ys, H' Dp = some (.lst ys) ∧ ys.length = i ∧ ∀ i y, ys[i]? = some y → F i y) ⟨w.ex (ex_new hp), .of (ex_new hp), [], upd_same, rfl, fun i y z => by cases z⟩ (fun i H' _ p => sql_of (exm_lst p.2.1 hb hl)) (fun i x H' hx p => ?_)
    (fun H' ⟨w1, x1, ys, e1, e2, e3⟩ => hd Dp H' ys e2 e3 (w.ne hp) w1 x1 e1)
  obtain ⟨w1, x1, ys, e1, e2, e3⟩ := p
  have hlt : i < xs.length := (List.getElem?_eq_some_iff.mp hx).1
  refine hs i x H' _ hx w1 x1 (fun y H4 hy w4 x4 => ?_)
  have hd4 := exm_lst x4 (w.ne hp) e1
  have w5 := w.write hp w4 (x1.trans x4) hd4 (ys := ys ++ [y])
  refine ⟨ys, hd4, szl (by omega), w5.1, w5.2, ys ++ [y], upd_same, by rw [List.length_append, e2]; rfl, fun j z hz => ?_⟩
  rw [List.getElem?_append] at hz
  split at hz
  · exact e3 j z hz
  · have : j - ys.length = 0 := by
      have := (List.getElem?_eq_some_iff.mp hz).1
      rw [List.length_singleton] at this
      omega
    rw [this] at hz
    cases hz
    rw [show j = i by omega]
    exact hy
end
-- slices
section
variable {K : PySem.W.Frag} {H : Hp} {Q : VK} {a : Addr} {xs : List V} {lo hi : Option Int} {σ : L2.St}
theorem i_sl {r : V → Option Int → Option Int → Hp → VK → Prop} {te : TE} {tl th : TO} (h : te σ H fun x H1 => tl σ H1 fun l H2 => th σ H2 fun u H3 => r x l u H3 Q) : L2.tSl r te tl th σ H Q := h
theorem i_nopart {R : Option Int → Hp → Prop} (h : R none H) : L2.tNoPart σ H R := h
theorem i_part {te : TE} {R : Option Int → Hp → Prop} (h : te σ H fun x H1 => ∃ i, x = .int i ∧ R (some i) H1) : L2.tPart te σ H R := h
theorem i_exint {n : Int} {R : Int → Prop} (h : R n) : ∃ j, V.int n = .int j ∧ R j := ⟨n, rfl, h⟩
theorem i_slL (h : SqL K H a xs) (q : ∀ p H', H p = none → Ex H H' → H' p = some (.lst (L2.cutV xs lo hi)) → Q (.ref p) H') : L2.rSlL K (.ref a) lo hi H Q := ⟨a, xs, rfl, h, fun p hp => q p _ hp (ex_new hp) upd_same⟩
theorem cut_map (ns : List Int) (lo hi : Option Int) : L2.cutV (ns.map V.int) lo hi = (((ns.drop (HT.sIx ns.length 0 lo)).take (HT.sIx ns.length ns.length hi - HT.sIx ns.length 0 lo))).map V.int := by
  unfold L2.cutV
  rw [List.length_map, List.map_take, List.map_drop]
end
end Fp

/-! # Lambdas that are handed to a def and called there, with or without a default -/
namespace Fp
open PySem PySem.Spec PyProof.Rows L2 LamX
/-- a lambda's function datum; dV: where its defaults stand -/
abbrev lmF (params : Arguments) (body : Expr) (scope : Scope) (q : Str) (cl : List (Str × Addr)) (dV pm cv ct : Value) : FuncData := { PySem.W.kla_fn "<lambda>" q params body scope cl pm cv ct with defaults := dV }
abbrev lmO (params : Arguments) (body : Expr) (scope : Scope) (q : Str) (cl : List (Str × Addr)) (dV pm cv ct : Value) : Obj := { cls := .type "function", data := .func (lmF params body scope q cl dV pm cv ct) }
abbrev tabO (ps : Array Value) : Obj := { cls := .none, data := .fields ps }
section
variable {M : Model} {A : Around} {E : Value → Shared → Prop} {s : Shared} {q : Str} {params : Arguments} {body : Expr} {scope : Scope} {env : Env} {c P : Addr} {ps : Array Value} {pos : Pos} {ln : Nat} {mg : Str → Option Value} {cl : List (Str × Addr)} {Q : Value → Shared → Prop} {dV : Value}
theorem lm_tail (hcl : closureFor scope env = pure cl) (hge : env.globals = mainGlobals) (hg : s.heap.Ns mainGlobals mg) (hcode : env.code = .ref c) (C : PySem.W.CodeHd s.heap c P) (hP : s.heap.get? P = some (tabO ps)) (ht : TriplesOk ps.toList) (gP : mainGlobals ≠ P) (hb : s.heap.BuiltinsAt mg P)
    (new : codeAmong pos ps.toList = none → ∀ c' ct h' tk, Heap.ExtBut P s.heap h' → s.heap.objs.size ≤ c' → c' < h'.objs.size → h'.CodeRec (.ref c') q → h'.get? P = some (tabO (ps ++ #[rawInt pos.line, rawInt pos.col, .ref c'])) →
      Q (.ref h'.objs.size) { s with heap := h'.push (lmO params body scope q cl dV ((mg "__name__").getD .none) (.ref c') ct), toks := tk })
    (hit : ∀ cv, codeAmong pos ps.toList = some cv → ∀ (ct : Value) (h' : Heap) (tk : Tok), (∀ b o, s.heap.get? b = some o → h'.get? b = some o) → s.heap.objs.size ≤ h'.objs.size →
      Q (.ref h'.objs.size) { s with heap := h'.push (lmO params body scope q cl dV ((mg "__name__").getD .none) cv ct), toks := tk }) :
    wpAny M A (makeTail "<lambda>" q params (.expr body) scope env dV .none none pos ln) Q E s := by
  obtain ⟨bm, ob, hbm, n0, _, nP, hbo, hcls, hdict, hdata⟩ := hb
  unfold makeTail
  rw [hcl, hge]
  refine wpAny_bind (wpAny_pure ?_)
  cases hf : codeAmong pos ps.toList with
  | none =>
    cases cl with
    | nil =>
      simp only [List.isEmpty_nil, if_true]
      refine wpAny_bind (wpAny_pure (wpAny_bind (wpAny_functionCodeX hcode (C.code hP ht) (C.tab hP) hf fun c' h' tk hx hge' hlt _ hrec htb _ => ?_)))
      have hg' := hg.extBut hx gP
      refine wpAny_bind (wpAny_builtinsFor hg' hbm n0 (hx _ _ nP hbo) hcls hdict hdata (wpAny_bind (wpAny_nsGet hg' ?_)))
      exact wpAny_bind (wpAny_pure (wpAny_newObj_type (new hf c' .none h' tk hx hge' hlt hrec htb.2) (by size_fits)))
    | cons y r =>
      simp only [List.isEmpty_cons, Bool.false_eq_true, if_false]
      refine wpAny_bind (wpAny_newTextTuple ?_)
      have up : ∀ {o1 : Obj} {b : Addr} {o : Obj}, s.heap.get? b = some o → (s.heap.push o1).get? b = some o := fun e => Heap.get?_push_of_some _ e
      refine wpAny_bind (wpAny_functionCodeX hcode ((C.keeps fun b o e => up e).code (up hP) ht) ((C.keeps fun b o e => up e).tab (up hP)) hf fun c' h' tk hx hge' hlt _ hrec htb _ => ?_)
      have hg' := (hg.push _).extBut hx gP
      have hx' : Heap.ExtBut P s.heap h' := fun b o hn e => hx b o hn (up e)
      refine wpAny_bind (wpAny_builtinsFor hg' hbm n0 (hx' _ _ nP hbo) hcls hdict hdata (wpAny_bind (wpAny_nsGet hg' ?_)))
      exact wpAny_bind (wpAny_pure (wpAny_newObj_type (new hf c' _ h' tk hx' (Nat.le_trans (by rw [Heap.size_push]; omega) hge') hlt hrec htb.2) (by size_fits)))
  | some cv =>
    cases cl with
    | nil =>
      simp only [List.isEmpty_nil, if_true]
      refine wpAny_bind (wpAny_pure (wpAny_bind (wpAny_functionCode_hit hcode (C.code hP ht) hf ?_)))
      refine wpAny_bind (wpAny_builtinsFor hg hbm n0 hbo hcls hdict hdata (wpAny_bind (wpAny_nsGet hg ?_)))
      exact wpAny_bind (wpAny_pure (wpAny_newObj_type (hit cv hf .none s.heap s.toks (fun _ _ e => e) (Nat.le_refl _)) (by size_fits)))
    | cons y r =>
      simp only [List.isEmpty_cons, Bool.false_eq_true, if_false]
      refine wpAny_bind (wpAny_newTextTuple ?_)
      have up : ∀ {o1 : Obj} {b : Addr} {o : Obj}, s.heap.get? b = some o → (s.heap.push o1).get? b = some o := fun e => Heap.get?_push_of_some _ e
      refine wpAny_bind (wpAny_functionCode_hit hcode ((C.keeps fun b o e => up e).code (up hP) ht) hf ?_)
      refine wpAny_bind (wpAny_builtinsFor (hg.push _) hbm n0 (up hbo) hcls hdict hdata (wpAny_bind (wpAny_nsGet (hg.push _) ?_)))
      exact wpAny_bind (wpAny_pure (wpAny_newObj_type (hit cv hf _ _ s.toks (fun b o e => up e) (by rw [Heap.size_push]; omega)) (by size_fits)))
end
/-- how a lambda's parameters stand: none, or one of a written int's default -/
inductive LmP (params : Arguments) (body : Expr) (scope : Scope) : Option Str → Prop where
  | none (hd : ∀ env, defaultsOf params env = ([], [])) (hb : ∀ (q : Str) (cl : List (Str × Addr)) (pm cv ct : Value), bindArgs (lmF params body scope q cl .none pm cv ct) ⟨[], []⟩ = pure []) : LmP params body scope none
  | one (x : Str) (i : Int) (j) (cp : Pos) (hd : ∀ env, defaultsOf params env = ([eval (.Constant (.int i) j cp) env], [])) (hk : params.kwonlyargs = [])
      (hb : ∀ (q : Str) (cl : List (Str × Addr)) (T : Addr) (pm cv ct : Value), ∃ k, bindArgs (lmF params body scope q cl (.ref T) pm cv ct) ⟨[], []⟩ = seqItems? (.ref T) >>= k ∧ ∀ v, k (some #[v]) = pure [(x, v)])
      (hl : scope.names.lookup x = some .local) : LmP params body scope (some x)
/-- where the defaults stand -/
def DvAt (h : Heap) (H : Hp) (fs : List Addr) (dV : Value) : Option Str → Prop
  | none => dV = .none
  | some _ => ∃ (T : Addr) (v : Value) (o : Obj) (n : Nat), dV = .ref T ∧ h.get? T = some o ∧ o.data = .seq #[v] n ∧ H T = none ∧ T ∉ fs
/-- the lambda's own names: captured ones, globals, a parameter that is no name of the def around -/
structure LmS (N : List Str) (sc scope : Scope) : Prop where
  kind : scope.kind = .function
  co : scope.isCoroutine = false
  gen : scope.isGenerator = false
  own : ∀ y ∈ scope.names, y.2 ≠ .cell ∧ (y.2 = .local → y.1 ∉ N)
  free : ∀ y ∈ scope.names, y.2 = .free → sc.names.lookup y.1 = some .cell ∨ sc.names.lookup y.1 = some .free
def lmSB (N : List Str) (sc scope : Scope) : Bool :=
  decide (scope.kind = .function) && !scope.isCoroutine && !scope.isGenerator && scope.names.all fun y => (!decide (y.2 = .cell) && (!decide (y.2 = .local) || decide (y.1 ∉ N))) && (!decide (y.2 = .free) || (decide (sc.names.lookup y.1 = some .cell) || decide (sc.names.lookup y.1 = some .free)))
theorem lmS_by {N : List Str} {sc scope : Scope} (h : lmSB N sc scope = true) : LmS N sc scope := by
  unfold lmSB at h
  simp only [Bool.and_eq_true, Bool.or_eq_true, Bool.not_eq_true', decide_eq_true_eq, decide_eq_false_iff_not, List.all_eq_true] at h
  obtain ⟨⟨⟨h1, h2⟩, h3⟩, h4⟩ := h
  refine ⟨h1, h2, h3, fun y hy => ⟨(h4 y hy).1.1, fun e => (h4 y hy).1.2.resolve_left fun z => z e⟩, fun y hy e => ?_⟩
  exact (h4 y hy).2.resolve_left fun z => z e
section
variable {X : Cx} {pins : List (Addr × Obj)} {σ : L2.St} {H : Hp} {s : Shared}
theorem LmS.has {scope : Scope} (L : LmS X.N X.env.scope scope) (ok : X.Ok) : ∀ y ∈ scope.names, y.2 = .free → ∃ c, X.env.cells.lookup y.1 = some c := fun y hy e =>
  (L.free y hy e).elim (fun k => ok.has _ (.inl k)) fun k => ok.has _ (.inr k)
theorem nofrs (I : Inv X pins σ H s) {f : Addr} (hf : s.heap.objs.size ≤ f) : f ∉ frs X.stack := fun z => by
  rcases List.mem_cons.mp (I.stkSub _ z) with e | e
  · have h1 := I.lt
    rw [← e] at h1
    exact absurd (Nat.lt_of_lt_of_le h1 hf) (Nat.lt_irrefl _)
  · exact I.nofs hf e
/-- the lambda's object is laid; the tables may have grown -/
theorem lm_make {T : List (Addr × Str)} {c P : Addr} {params : Arguments} {body : Expr} {scope : Scope} {pos : Pos} {ox : Option Str} {E : Value → Shared → Prop} {Q : Value → Shared → Prop} (I : Inv X pins σ H s) (TB : TabB X.base X.mg c P) (hcode : X.env.code = .ref c)
    (hm : (P, X.env.qual ++ "<lambda>") ∈ T) (hu : ∀ p ∈ T, p.1 = P → p.2 = X.env.qual ++ "<lambda>") (hT : Tabs T H) (lp : LmP params body scope ox) (hfree : ∀ y ∈ scope.names, y.2 = .free → ∃ c, X.env.cells.lookup y.1 = some c)
    (h : ∀ (f c' : Addr) (dV pm ct : Value) (H1 : Hp) (s' : Shared), Inv X pins σ H1 s' → ExtN H H1 → Tabs T H1 → DvAt s'.heap H1 (frs X.stack) dV ox →
      s'.heap.get? f = some (lmO params body scope (X.env.qual ++ "<lambda>") (cloFrom X.env.cells scope.names []) dV pm (.ref c') ct) → H1 f = none → f ∉ frs X.stack → H1 c' = some (CodeO c' (X.env.qual ++ "<lambda>")) → Q (.ref f) s') :
    wpAny (model X.prog X.w) X.A (eval (.Lambda params body scope pos) X.env) Q E s := by
  -- behind the defaults
  have tail : ∀ (dV : Value) (s1 : Shared), Inv X pins σ H s1 → DvAt s1.heap H (frs X.stack) dV ox → wpAny (model X.prog X.w) X.A (makeTail "<lambda>" (X.env.qual ++ "<lambda>") params (.expr body) scope X.env dV .none none pos pos.line) Q E s1 := by
    intro dV s1 I1 hdv
    obtain ⟨ps, hP, ht, ha⟩ := hT _ hm
    have hP1 : s1.heap.get? P = some (tabO ps) := I1.hok P _ hP
    have dvk : ∀ (h2 : Heap) (H2 : Hp), (∀ b o, b ≠ P → s1.heap.get? b = some o → h2.get? b = some o) → (∀ b, b < s1.heap.objs.size → H b = none → H2 b = none) → DvAt h2 H2 (frs X.stack) dV ox := by
      intro h2 H2 k1 k2
      cases ox with
      | none => exact hdv
      | some x =>
        obtain ⟨D, v, o, n, e1, e2, e3, e4, e5⟩ := hdv
        have nP : D ≠ P := fun z => by rw [z, hP] at e4; cases e4
        exact ⟨D, v, o, n, e1, k1 _ _ nP e2, e3, k2 _ (Heap.lt_size e2) e4, e5⟩
    refine lm_tail (mg := X.mg) (c := c) (P := P) (ps := ps) (closure_ok hfree) I1.ok.glob (I1.mod.glob.keeps I1.bk) hcode (TB.code.keeps I1.bk) hP1 ht TB.gP (TB.bm.keeps I1.bk) (fun _ c' ct h' tk hx hge hlt hrec htb => ?_) (fun cv hc ct h' tk hx hsz => ?_)
    · obtain ⟨c2, oc, vs, t, e2, hoc, hd, hv⟩ := hrec
      cases e2
      have hsz : s1.heap.objs.size ≤ h'.objs.size := Nat.le_trans hge (Nat.le_of_lt hlt)
      have nC : H c' = none := I1.hok.fresh hge
      have I2 := inv_table (t' := tk) (more := #[rawInt pos.line, rawInt pos.col, .ref c']) (h' := h'.push (lmO params body scope (X.env.qual ++ "<lambda>") (cloFrom X.env.cells scope.names []) dV ((X.mg "__name__").getD .none) (.ref c') ct)) I1 hP
        (fun b o hb e => Heap.get?_push_of_some _ (hx b o hb e)) (Heap.get?_push_of_some _ htb) hge ⟨oc, vs, t, Heap.get?_push_of_some _ hoc, hd, hv⟩
      have hE : ExtN H (upd (upd H P (.tbl (ps ++ #[rawInt pos.line, rawInt pos.col, .ref c']))) c' (CodeO c' (X.env.qual ++ "<lambda>"))) := fun b o e n => by
        rw [upd_ne (ne_of_none e nC), upd_ne (fun z => n ps (by rw [z, hP] at e; exact (Option.some.inj e).symm))]
        exact e
      have eL : (ps ++ #[rawInt pos.line, rawInt pos.col, .ref c']).toList = ps.toList ++ [rawInt pos.line, rawInt pos.col, .ref c'] := by simp
      have low : ∀ b, b < s1.heap.objs.size → H b = none → upd (upd H P (.tbl (ps ++ #[rawInt pos.line, rawInt pos.col, .ref c']))) c' (CodeO c' (X.env.qual ++ "<lambda>")) b = none := fun b hb n => by
        rw [upd_ne (Nat.ne_of_lt (Nat.lt_of_lt_of_le hb hge)), upd_ne (fun z => by rw [z, hP] at n; cases n)]
        exact n
      refine h h'.objs.size c' dV _ ct _ _ I2 hE (fun p hp => ?_) (dvk _ _ (fun b o hb e => Heap.get?_push_of_some _ (hx b o hb e)) low) (Heap.get?_push_size _ rfl) ?_ (nofrs I1 hsz) upd_same
      · by_cases hb : p.1 = P
        · rw [hu p hp hb, hb]
          refine ⟨_, by rw [upd_ne (ne_of_none hP nC), upd_same], by rw [eL]; exact PySem.TriplesOk_snoc _ _ _ _ ht, fun p' cv hcv => ?_⟩
          rw [eL] at hcv
          rcases among_app _ ht hcv with z | z
          · obtain ⟨c0, e1, e2⟩ := ha p' cv z
            exact ⟨c0, e1, hE _ _ e2 codeO_ne⟩
          · exact ⟨c', z, upd_same⟩
        · obtain ⟨ps', a1, a2, a3⟩ := hT p hp
          refine ⟨ps', by rw [upd_ne (ne_of_none a1 nC), upd_ne hb]; exact a1, a2, fun p' cv hcv => ?_⟩
          obtain ⟨c0, e1, e2⟩ := a3 p' cv hcv
          exact ⟨c0, e1, hE _ _ e2 codeO_ne⟩
      · have nP : h'.objs.size ≠ P := fun z => by
          have h0 := Heap.lt_size hP1
          rw [← z] at h0
          exact absurd (Nat.lt_of_lt_of_le h0 hsz) (Nat.lt_irrefl _)
        rw [upd_ne (Nat.ne_of_gt hlt), upd_ne nP]
        exact I1.hok.fresh hsz
    · obtain ⟨c', e, hco⟩ := ha pos cv hc
      subst e
      have up : ∀ b o, s1.heap.get? b = some o → (h'.push (lmO params body scope (X.env.qual ++ "<lambda>") (cloFrom X.env.cells scope.names []) dV ((X.mg "__name__").getD .none) (.ref c') ct)).get? b = some o := fun b o e => Heap.get?_push_of_some _ (hx b o e)
      exact h h'.objs.size c' dV _ ct H _ (I1.kept (t' := tk) up) (ExtN.refl H) hT (dvk _ _ (fun b o _ e => up b o e) fun _ _ n => n) (Heap.get?_push_size _ rfl) (I1.hok.fresh hsz) (nofrs I1 hsz) hco
  rw [arm_eval_Lambda]
  cases lp with
  | none hd hb =>
    rw [hd]
    show wpAny _ _ (evalAll [] >>= fun dv => holding dv (evalAllOpt []) >>= fun kdv => makeFunction "<lambda>" (X.env.qual ++ "<lambda>") params (.expr body) scope X.env dv kdv [] pos pos.line) Q E s
    refine wpAny_bind (wpAny_pure (wpAny_bind (wpAny_holding (wpAny_pure ?_))))
    rw [makeFunction_eq]
    simp only [List.zip_nil_right, List.filterMap_nil, List.isEmpty_nil, if_true, pure_bind]
    exact tail .none s I rfl
  | one x i j cp hd hk hb hl =>
    rw [hd]
    show wpAny _ _ (evalAll [eval (.Constant (.int i) j cp) X.env] >>= fun dv => holding dv (evalAllOpt []) >>= fun kdv => makeFunction "<lambda>" (X.env.qual ++ "<lambda>") params (.expr body) scope X.env dv kdv [] pos pos.line) Q E s
    refine wpAny_bind ?_
    unfold evalAll
    refine wpAny_bind (wpAny_Constant_int ?_)
    refine wpAny_bind (wpAny_holding (wpAny_pure (wpAny_pure ?_)))
    refine wpAny_bind (wpAny_holding (wpAny_pure ?_))
    rw [makeFunction_eq, hk]
    simp only [List.zip_nil_left, List.filterMap_nil, List.isEmpty_nil, List.isEmpty_cons, Bool.false_eq_true, if_true, if_false, pure_bind]
    refine wpAny_bind (wpAny_newTextTuple ?_)
    have sz0 : s.heap.objs.size ≤ s.heap.objs.size := Nat.le_refl _
    refine tail _ _ (I.kept (t' := s.toks + 1) fun b o e => Heap.get?_push_of_some _ e) ⟨s.heap.objs.size, _, _, _, rfl, Heap.get?_push_size _ rfl, rfl, I.hok.fresh sz0, nofrs I sz0⟩
end
/-- the lambda's surroundings -/
abbrev lmE (X : Cx) (scope : Scope) (L f c' : Addr) : Env := PySem.W.envX (X.env.qual ++ "<lambda>") scope L f (.ref c') (cloFrom X.env.cells scope.names [])
/-- where its body runs, entered at s from the frames outer -/
abbrev lmX (X : Cx) (A : Around) (outer : List Env) (s : Shared) (H : Hp) (E : XK) (scope : Scope) (f c' : Addr) : Cx := lamCx X A outer s H E scope f c'
section
variable {X : Cx} {pins : List (Addr × Obj)} {σ : L2.St} {H HZ : Hp} {s s1 : Shared}
theorem lm_start {A : Around} {outer : List Env} {E : XK} {scope : Scope} {f c' : Addr} {h₁ : Heap} {tk : Nat} {m : Str → Option Value} (I : Inv X pins σ H s) (L : LmS X.N X.env.scope scope) (e0 : Env0 X.prog X.w X.K X.mg X.base A outer s1 HZ) (hd : A.handled = none)
    (un : Un (frs X.stack) [] H HZ s.heap s1.heap) (hns : h₁.Ns s1.heap.objs.size m) (kp : ∀ b o, s1.heap.get? b = some o → h₁.get? b = some o) :
    Inv (lmX X A outer s1 HZ E scope f c') [] σ HZ { s1 with heap := h₁, toks := tk } := by
  have hfree := L.has I.ok
  have toX : ∀ {y c}, (cloFrom X.env.cells scope.names []).lookup y = some c → X.env.cells.lookup y = some c := fun {y c} e => by
    rcases cloFrom_mem (PySem.mem_of_lookup e) with hm | ⟨h1, h2⟩
    · cases hm
    · obtain ⟨c1, hc⟩ := hfree _ h1 rfl
      have hc' : X.env.cells.lookup y = some c1 := hc
      rw [show c = c1 by rw [h2, hc'] <;> rfl]
      exact hc'
  have ofN : ∀ {y}, scope.names.lookup y = some .free → ∃ c, (cloFrom X.env.cells scope.names []).lookup y = some c := fun {y} hl => mem_lookup (cloFrom_has (cells := X.env.cells) (acc := []) (PySem.mem_of_lookup hl : (y, NameKind.free) ∈ scope.names))
  have cellK : ∀ {c : Addr} {v : Option Value}, H c = none → s.heap.IsCell c v → h₁.IsCell c v := fun {c v} n ⟨o, ho, hdt⟩ => by
    obtain ⟨sl, z⟩ := un.any ho n (by simp)
    exact ⟨_, kp _ _ z, hdt⟩
  have no : ∀ b : Addr, b ∉ (lmX X A outer s1 HZ E scope f c').ex := fun b z => by
    have z' : b ∈ ([] : List Addr) := z
    simp at z'
  constructor
  · exact { mod := e0.mod, kind := L.kind, glob := rfl, blt := rfl, above := Nat.le_refl _, inj := fun y z c e1 e2 => I.ok.inj y z c (toX e1) (toX e2)
            has := fun y hy => by
              have hy : scope.names.lookup y = some .cell ∨ scope.names.lookup y = some .free := hy
              rcases hy with hy | hy
              · exact absurd rfl (L.own _ (PySem.mem_of_lookup hy)).1
              · exact ofN hy
            cab := fun y c z _ => by
              have z : false = true := z
              cases z
            hd := fun _ => hd, frames := Around.frames_deeper e0.frames, stk := .inr ⟨rfl, rfl⟩, exf := fun b z => absurd z (no b), bs := e0.bs, bsz := e0.bsz, noex := fun b _ _ => no b, exfs := fun b z => absurd z (no b), funs := e0.funs, frf := e0.frf }
  · rfl
  · exact e0.bare
  · exact Un.kept kp
  · refine ⟨_, hns, fun i y v e1 e2 e3 => ?_⟩
    have e1 : X.N[i]? = some y := e1
    have e3 : Vis scope y := e3
    rcases e3 with k | k | k
    · exact absurd (List.mem_of_getElem? e1) ((L.own _ (PySem.mem_of_lookup k)).2 rfl)
    · exact absurd rfl (L.own _ (PySem.mem_of_lookup k)).1
    · obtain ⟨m2, hn, hl⟩ := I.loc
      obtain ⟨w', r, z⟩ := hl i y v e1 e2 ((L.free _ (PySem.mem_of_lookup k) rfl).elim (fun k => .inr (.inl k)) fun k => .inr (.inr k))
      obtain ⟨c2, h2⟩ := ofN k
      refine ⟨w', r, .inr ⟨.inr k, c2, h2, ?_⟩⟩
      have c1 := toX h2
      rcases z with ⟨k', _⟩ | ⟨_, c3, e', z⟩
      · have k' : X.env.scope.names.lookup y = some .local := k'
        rcases L.free _ (PySem.mem_of_lookup k) rfl with k2 | k2
        · rw [show X.env.scope.names.lookup y = _ from k2] at k'; cases k'
        · rw [show X.env.scope.names.lookup y = _ from k2] at k'; cases k'
      · rw [c1] at e'
        cases e'
        exact cellK (I.freeC y _ c1) z
  · intro y c e
    obtain ⟨w', z⟩ := I.cell y c (toX e)
    exact ⟨w', cellK (I.freeC y c (toX e)) z⟩
  · exact e0.hok.fresh (Nat.le_refl _)
  · intro y c e
    obtain ⟨v, o, ho, _⟩ := I.cell y c (toX e)
    exact un.free c o ho (I.freeC y c (toX e)) (by simp)
  · intro z hz
    have hz : z ∈ ([] : List (Addr × Obj)) ++ [] := hz
    simp at hz
  · exact e0.hok.kept kp
  · exact I.len
/-- the call of what was handed: a(), in the def that got it (its context: entered at s) -/
theorem pe_lmact {CXg : CXT} {Eg : XK} {Ng : List Str} {qg : Str} {sg : Scope} {g f c' : Addr} {cdg dV pm ct : Value} {params : Arguments} {body : Expr} {scope : Scope} {ox : Option Str} {k i : Nat} {a : Str} {pn : List (Addr × Obj)} {xe : Value → Shared → Prop} {W : WX} {tb : XK → TE} {p1 p2 : Pos}
    (I : Inv X pins σ H s) (L : LmS X.N X.env.scope scope) (lp : LmP params body scope ox) (hf : s.heap.get? f = some (lmO params body scope (X.env.qual ++ "<lambda>") (cloFrom X.env.cells scope.names []) dV pm (.ref c') ct)) (hfn : H f = none) (hfr : f ∉ frs X.stack) (dv : DvAt s.heap H (frs X.stack) dV ox)
    (tk : Takes ((cxOf CXg X.prog X.w X.K X.mg X.base Ng qg sg g cdg X.A X.stack s H Eg).tr pn xe) W) (hr : Room (k + 1) (X.A.deeper (envOfC qg sg s.heap.objs.size g cdg)))
    (hbody : ∀ (A : Around) (outer : List Env) (s : Shared) (H : Hp) (E : XK), Room k (A.deeper (lmE X scope s.heap.objs.size f c')) → PE (lmX X A outer s H E scope f c') body (tb E))
    (hN : Ng[i]? = some a) (hv : Vis sg a) (hd : (a == ("__debug__" : Str)) = false := by decide) (hcd : (a == ("__classdict__" : Str)) = false := by decide) :
    PE ((cxOf CXg X.prog X.w X.K X.mg X.base Ng qg sg g cdg X.A X.stack s H Eg).tr pn xe) (.Call (.Name a p1) [] [] p2)
      (fun σZ HZ Q => σZ[i]? = some (some (.ref f)) ∧ HZ c' = some (CodeO c' (X.env.qual ++ "<lambda>")) ∧ ∃ E : XK, (∀ cls d H', E cls d H' → W cls d σZ H') ∧ tb E σ HZ Q) := by
  refine ⟨fun pinsZ sZ σZ HZ Q IZ h => ?_⟩
  obtain ⟨hs, hc, E, hW, ht⟩ := h
  refine wpAny_Call_Name_kw (thn ((pe_var (pos := p1) (i := i) hN hv hd hcd).run pinsZ sZ σZ HZ (fun v H1 => v = .ref f ∧ H1 = HZ) IZ ⟨.ref f, hs, rfl, rfl⟩) fun u s1 ⟨v, H1, I1, r1, q1⟩ => ?_)
  obtain ⟨ev, eH⟩ := q1
  subst ev
  rw [eH] at I1
  obtain rfl : u = Value.ref f := r1
  have nx : ∀ b : Addr, b ∉ ([] : List Addr) := fun b z => by simp at z
  have of1 := I1.base.keep f _ hf hfn hfr (nx f)
  refine PySem.W.callWith_F0 ⟨_, _, _, _, of1⟩ ?_
  have un : Un (frs X.stack) [] H HZ s.heap s1.heap := I1.base
  obtain ⟨⟨oc, vs, t, hoc, hdc, hvc⟩, _, _⟩ := I1.hok c' _ hc
  -- how its parameters are bound
  have bnd : ∀ {A : Around} {E1 : Value → Shared → Prop} {R : List (Str × Value) → Shared → Prop}, (∀ binds : List (Str × Value), (∀ y ∈ binds, scope.names.lookup y.1 = some .local) → R binds s1) →
      wpAny (model X.prog X.w) A (bindArgs (lmF params body scope (X.env.qual ++ "<lambda>") (cloFrom X.env.cells scope.names []) dV pm (.ref c') ct) ⟨[], []⟩) R E1 s1 := by
    intro A E1 R hR
    cases lp with
    | none hd0 hb =>
      have e : dV = .none := dv
      subst e
      rw [hb]
      exact wpAny_pure (hR [] fun y hy => by simp at hy)
    | one x i j cp hd0 hk hb hl =>
      obtain ⟨D, v, o, n, e1, e2, e3, e4, e5⟩ := dv
      subst e1
      obtain ⟨kk, e6, e7⟩ := hb (X.env.qual ++ "<lambda>") (cloFrom X.env.cells scope.names []) D pm (.ref c') ct
      rw [e6]
      refine wpAny_bind (wpAny_seqItems (I1.base.keep D _ e2 e4 e5 (nx D)) e3 ?_)
      rw [e7]
      exact wpAny_pure (hR [(x, v)] fun y hy => by
        rw [List.mem_singleton] at hy
        subst hy
        exact hl)
  have rc : codeAny (model X.prog X.w) (X.A.deeper (envOfC qg sg s.heap.objs.size g cdg)) (.call (.ref f) ⟨[], []⟩) (CR (L2.CX X.prog X.w) (envOfC qg sg s.heap.objs.size g cdg :: X.stack) X.prog X.w HZ s1 Q E) s1 := by
    refine PySem.W.kla_callFunE hr.depth of1 rfl L.co L.gen rfl ⟨c', oc, vs, t, rfl, hoc, hdc, hvc⟩ ?_
    refine bnd fun binds hl => ?_
    refine wpAny_newFunctionEnv (fun y hy => (L.own y hy).1) hl (fun h₁ hns hsb => ⟨I1.nolimit.fresh _ hsb, ?_⟩) L.kind
    show codeAny _ _ (.expr body (lmE X scope s1.heap.objs.size f c')) _ _
    have kp : ∀ b o, s1.heap.get? b = some o → h₁.get? b = some o := fun b o e => hsb.extBut b o (Nat.ne_of_lt (Heap.lt_size e)) (Heap.get?_push_of_some _ e)
    have J : Inv (lmX X (X.A.deeper (envOfC qg sg s.heap.objs.size g cdg)) (envOfC qg sg s.heap.objs.size g cdg :: X.stack) s1 HZ E scope f c') [] σ HZ { s1 with heap := h₁, toks := s1.toks + binds.length } := lm_start I L I1.env0 hr.hd un hns kp
    refine PySem.W.kla_codeExpr (wpAny_mono ((hbody _ _ s1 HZ E (hr.deeper _)).run [] _ _ HZ Q J ht) (fun v s' hq => ?_) fun e s' hq => hq)
    obtain ⟨w', H', J', rv, z⟩ := hq
    exact ⟨w', H', J'.os, J'.bare, J'.base, J'.hok, rv, z⟩
  refine wpAny_call (codeAny_mono rc fun r s' hq => ?_)
  cases r with
  | error e => exact tk e s' (XE.of_call I1 (fun cls d H' z => hW cls d H' z) hq)
  | ok fl =>
    cases fl with
    | ret u => exact I1.after hq
    | _ => exact False.elim hq
end
/-- the def that gets a lambda and calls it: what it makes of the lambda's reading -/
def Gives (X : Cx) (Ng : List Str) (x : Str) (sg : Scope) (g : Addr) (cdg : Value) (bg : List Stmt) (a q : Str) (k : Nat) (TT : (XK → Hp → VK → Prop) → Hp → VK → Prop) : Prop :=
  ∀ (f c' : Addr) (s : Shared) (H : Hp) (Q : VK) (act : XK → Hp → VK → Prop), Room k (X.A.deeper (envOfC x sg s.heap.objs.size g cdg)) →
    (∀ (W : WX) (pn : List (Addr × Obj)) (xe : Value → Shared → Prop) (p1 p2 : Pos), Takes ((cxOf C8.CX0 X.prog X.w X.K X.mg X.base Ng x sg g cdg X.A X.stack s H C8.E0).tr pn xe) W →
      PE ((cxOf C8.CX0 X.prog X.w X.K X.mg X.base Ng x sg g cdg X.A X.stack s H C8.E0).tr pn xe) (.Call (.Name a p1) [] [] p2) (fun σZ HZ Q => σZ[0]? = some (some (.ref f)) ∧ HZ c' = some (CodeO c' q) ∧ ∃ E : XK, (∀ cls d H', E cls d H' → W cls d σZ H') ∧ act E HZ Q)) →
    H c' = some (CodeO c' q) → TT act H Q →
    ∃ t, PSs (cxOf C8.CX0 X.prog X.w X.K X.mg X.base Ng x sg g cdg X.A X.stack s H C8.E0).nox bg t ∧ t { nx := fun _ H' => Q .non H', rt := Q } (L2.start Ng [.ref f]) H
def tLm (T : List (Addr × Str)) (TT : (XK → Hp → VK → Prop) → Hp → VK → Prop) (t : XK → TE) : TE := fun σ H Q => Tabs T H ∧ ∀ H1, ExtN H H1 → Tabs T H1 → TT (fun E H' Q' => t E σ H' Q') H1 Q
section
variable {X : Cx}
/-- x(lambda: ..) -/
theorem pe_lmcall {T : List (Addr × Str)} {TT : (XK → Hp → VK → Prop) → Hp → VK → Prop} {x a : Str} {g c P : Addr} {fd : FuncData} {k j : Nat} {st : Stmt} {Ng : List Str} {ox : Option Str}
    {params : Arguments} {body : Expr} {scope : Scope} {t : XK → TE} {p lpos pos : Pos} (D : Dn X.K X.mg x st [a] g fd) (hg : Gl X x) (Sg : FnScope Ng [a] (defScope st)) (hNg : Ng[0]? = some a) (hva : Vis (defScope st) a)
    (hG : ∀ cdg, Gives X Ng x (defScope st) g cdg (defBody st) a (X.env.qual ++ "<lambda>") (k + 1) TT)
    (TB : TabB X.base X.mg c P) (hcode : X.env.code = .ref c) (hmT : (P, X.env.qual ++ "<lambda>") ∈ T) (hu : ∀ p ∈ T, p.1 = P → p.2 = X.env.qual ++ "<lambda>") (hr : Room j X.A) (hj : k + 2 ≤ j) (L : LmS X.N X.env.scope scope) (lp : LmP params body scope ox)
    (hbody : ∀ (A : Around) (outer : List Env) (s : Shared) (H : Hp) (E : XK) (f c' : Addr), Room k (A.deeper (lmE X scope s.heap.objs.size f c')) → PE (lmX X A outer s H E scope f c') body (t E))
    (hdb : (x == ("__debug__" : Str)) = false := by decide) (hd : (a == ("__debug__" : Str)) = false := by decide) (hcd : (a == ("__classdict__" : Str)) = false := by decide) :
    PE X (.Call (.Name x p) [.Lambda params body scope lpos] [] pos) (tLm T TT t) := by
  obtain ⟨oc, od, kV, doc, pm, an, cdv, ct, osl, efd, lk, hcg⟩ := D.fn.ex
  subst efd
  refine ⟨fun pins s σ H Q I h => ?_⟩
  obtain ⟨hT, h⟩ := h
  refine wpAny_Call_Name_kw (ld_glob I hg D.gl ?_ hdb)
  refine PySem.W.callWith_K (h₀ := X.base) I.ok.mod.kin D.fn.kp ?_ (by rfl) (by rfl)
  show wpAny _ _ (spliced ((false, eval (.Lambda params body scope lpos) X.env) :: backTo pos (starEach [] X.env))) _ _ s
  refine Calls.spliced_cons (lm_make I TB hcode hmT hu hT lp (L.has I.ok) fun f c' dV pm' ct' H1 s' I1 eN T1 dv hf hfn hfr hco => Calls.spliced_nil ⟨I1.kIn, ?_⟩)
  have rc : codeAny (model X.prog X.w) X.A (.call (.ref g) ⟨[.ref f], []⟩) (CR C8.CX0 X.stack X.prog X.w H1 s' Q C8.E0) s' := by
    refine run_ofS (N := Ng) (ps := [a]) (us := [.ref f]) (vs := [.ref f]) lk hcg Sg (hr.mono hj) I1.env0 (by have b := D.bn s' [.ref f] I1.kIn rfl; exact b) (.cons rfl .nil) rfl fun hr' => ?_
    obtain ⟨t', ht', hq'⟩ := hG cdv f c' s' H1 Q (fun E H' Q' => t E σ H' Q') hr' (fun W pn xe p1 p2 tk => pe_lmact (i := 0) (tb := t) I1 L lp hf hfn hfr dv tk hr' (fun A outer s H E hr2 => hbody A outer s H E f c' hr2) hNg hva hd hcd) hco (h H1 eN T1)
    exact ⟨t', ht'.nox, hq'⟩
  refine wpAny_call (codeAny_mono rc fun r s2 hq => ?_)
  cases r with
  | error e => exact (show False from hq).elim
  | ok fl =>
    cases fl with
    | ret u => exact I1.after hq
    | _ => exact False.elim hq
end
theorem passLm {P : Program} {w : World} {X : Cx} {A : Around} {outer : List Env} {s : Shared} {H : Hp} {E : XK} {scope : Scope} {f c' : Addr} (e1 : X.prog = P := by rfl) (e2 : X.w = w := by rfl) : Passes (L2.CX P w) (lmX X A outer s H E scope f c') E := by
  subst e1
  subst e2
  exact passes_call (X := lmX X A outer s H E scope f c') (takes_of (X := lmX X A outer s H E scope f c') rfl rfl rfl rfl) (fun _ _ _ _ h => h)
/-- the qualified name of the lambdas within the def x -/
def LQ (x : Str) : Str := (x ++ ".<locals>.") ++ "<lambda>"
/-- a def whose code object is known -/
theorem Dn.okC {P : Program} {w : World} {K : PySem.W.Frag} {mg : Str → Option Value} {base : Heap} {x : Str} {st : Stmt} {ps N : List Str} {f c : Addr} {fd : FuncData} {k : Nat} {sp : Sp} (D : Dn K mg x st ps f fd) (S : FnScope N ps (defScope st)) (hcode : fd.code = .ref c) (len : ∀ vs H Q E, sp vs H Q E → vs.length = ps.length)
    (hbody : ∀ (A : Around) (outer : List Env) (s : Shared) (H : Hp) (vs : List V) (Q : VK) (E : XK), Room k (A.deeper (envOfC x (defScope st) s.heap.objs.size f (.ref c))) → sp vs H Q E →
      ∃ t, PSs (cxOf (L2.CX P w) P w K mg base N x (defScope st) f (.ref c) A outer s H E) (defBody st) t ∧ t { nx := fun _ H' => Q .non H', rt := Q } (start N vs) H) : OkE P w K mg base (k + 1) x ps sp := by
  refine ⟨f, fd, D.gl, D.fn.kp, D.bn, ?_, D.fn.lkS⟩
  obtain ⟨oc, od, kV, doc, pm, an, cdv, ct, osl, e, lk, hcd⟩ := D.fn.ex
  subst e
  have e2 : cdv = .ref c := hcode
  subst e2
  exact fn_of lk hcd S len fun A outer s H vs Q E hr hsp => hbody A outer s H vs Q E hr hsp
/-! ### what a suite asks of the error that it holds -/
/-- isinstance(e, C), e the error that the suite holds, of a class of one's own without fields -/
def rIsX (K : PySem.W.Frag) (a : Addr) (cls : Value) (d : Option Addr) : List V → Hp → VK → Prop := fun xs H Q => ∃ (D C : Addr) (b : Bool), cls = .ref D ∧ d = none ∧ ExcC K D ∧ xs = [.ref a, .ref C] ∧ PySem.W.kitOne K (.ref D) (.ref C) = some b ∧ Q (.bl b) H
theorem call_isX {X : Cx} {a : Addr} {oe : Obj} {pn : List (Addr × Obj)} {cls : Value} {d : Option Addr} (hz : Zc cls d oe) (hf : ∃ vs, oe.data = .fields vs) : CallR (X.suite a ((a, oe) :: pn)) (.builtin "isinstance") (rIsX X.K a cls d) := by
  intro pins s σ H xs us Q I r h
  obtain ⟨D, C, b, e1, e2, hE, rfl, hk, q⟩ := h
  subst e1 e2
  exact call_isE hE hz hf pins s σ H _ us Q I r ⟨.ref C, .ref C, b, rfl, fun u z => z, hk, q⟩
def rCntB (K : PySem.W.Frag) : V → List V → Hp → VK → Prop := fun x xs H Q => ∃ (p : Addr) (bs : List Bool) (k : Bool), x = .ref p ∧ xs = [.bl k] ∧ SqL K H p (bs.map V.bl) ∧ Q (.int ((bs.count k : Nat) : Int)) H
theorem dp_bools {K : PySem.W.Frag} {H : Hp} : ∀ bs : List Bool, L2.DpAll K H (bs.map V.bl) (bs.map PyData.bool)
  | [] => .nil
  | b :: bs => .cons (.bl b) (dp_bools bs)
theorem cnt_bools (k : Bool) : ∀ bs : List Bool, countIn (.bool k) (bs.map PyData.bool) = ((bs.count k : Nat) : Int)
  | [] => rfl
  | b :: bs => by
    show (if same (.bool b) (.bool k) = true then (1 : Int) else 0) + countIn (.bool k) (bs.map PyData.bool) = _
    have e : same (.bool b) (.bool k) = (b == k) := by cases b <;> cases k <;> rfl
    rw [cnt_bools k bs, List.count_cons, e]
    cases h : (b == k)
    · simp
    · simp; omega
theorem mt_cntB {X : Cx} : MtR X "list.count" (rCntB X.K) := by
  intro pins s σ H x xs v us Q I rx rxs h
  obtain ⟨p, bs, k, rfl, rfl, hs, q⟩ := h
  cases rx
  obtain ⟨u, rfl, ru⟩ := rxs.one
  cases ru
  obtain ⟨its, rv, ⟨o, n, ho, hc, hdn, hd⟩, hlen⟩ := I.list hs
  obtain ⟨as, ra⟩ := Dp.readsAll I (bs.map PyData.bool) _ its (dp_bools bs) rv
  refine PyProof.Rows.count_list_bools ⟨o, ho, hc, _, hd⟩ ra (by rw [List.all_eq_true]; intro z hz; obtain ⟨b, _, rfl⟩ := List.mem_map.mp hz; rfl) ?_
  rw [cnt_bools]
  exact ⟨.int _, H, I.tok _, ⟨_, rfl⟩, q⟩
section
variable {K : PySem.W.Frag} {H : Hp} {Q : VK}
theorem i_cntB {p : Addr} {bs : List Bool} {k : Bool} (h : H p = some (.lst (bs.map V.bl))) (q : Q (.int ((bs.count k : Nat) : Int)) H) : rCntB K (.ref p) [.bl k] H Q := ⟨p, bs, k, rfl, rfl, sql_of h, q⟩
theorem i_isX {a D C : Addr} {b : Bool} (hE : ExcC K D) (hk : PySem.W.kitOne K (.ref D) (.ref C) = some b) (q : Q (.bl b) H) : rIsX K a (.ref D) none [.ref a, .ref C] H Q := ⟨D, C, b, rfl, rfl, hE, rfl, hk, q⟩
theorem i_indexB {p : Addr} {bs : List Bool} {k : Bool} (j : Nat) (h : H p = some (.lst (bs.map V.bl))) (hj : bs[j]? = some k) (hno : ∀ (m : Nat) (z : Bool), m < j → bs[m]? = some z → (z == k) = false) (q : Q (.int (j : Nat)) H) : L2.rIndex K (.ref p) [.bl k] H Q := by
  refine ⟨p, bs.map V.bl, .bl k, j, .bl k, rfl, rfl, sql_of h, rfl, ?_, ?_, ?_, ?_, q⟩
  · rw [List.all_eq_true]
    intro z hz
    obtain ⟨b, _, rfl⟩ := List.mem_map.mp hz
    rfl
  · rw [List.getElem?_map, hj]; rfl
  · cases k <;> rfl
  · intro m z hm hz
    rw [List.getElem?_map] at hz
    cases hb : bs[m]? with
    | none => rw [hb] at hz; cases hz
    | some b =>
      rw [hb] at hz
      cases hz
      have := hno m b hm hb
      cases b <;> cases k <;> first | rfl | exact absurd this (by decide)
end
section
variable {X : Cx} {x n : Str} {c : Value} {i : Nat} {body suite : List Stmt} {b₀ : Stmt} {np pos pos' : Pos} {tb : WX → TS} {ts : Addr → Obj → Value → Option Addr → List (Addr × Obj) → TS} {Wout : WX}
theorem ps_try_own (hs : X.stack = X.env :: X.outer) (hf : X.env.frame = some X.env.locals) (hN : X.N.Nodup) (hi : X.N[i]? = some n) (hln : X.env.kindOf n = some .local) (hc : Names X x c) (tk : Takes X Wout)
    (hb : ∀ (W : WX) (pn : List (Addr × Obj)) (xe : Value → Shared → Prop), Takes (X.tr pn xe) W → PassesOwn (model X.prog X.w) X.A X.env xe → PSs (X.tr pn xe) body (tb W))
    (hsu : ∀ (a : Addr) (oe : Obj) (cls : Value) (d : Option Addr) (pn : List (Addr × Obj)), Zc cls d oe → (∃ vs, oe.data = .fields vs) → PSs (X.suite a ((a, oe) :: pn)) (b₀ :: suite) (ts a oe cls d pn)) :
    PS X (.Try body [.ExceptHandler (some (.Name x np)) (some n) (b₀ :: suite) pos'] [] [] pos) (fun D σ H => tb (wAs X.K c i (fun a cls d D σ H => ∀ oe pn, ts a oe cls d pn D σ H) Wout D) D σ H) :=
  ps_try_as hs hf hN hi hln hc tk hb fun a oe cls d pn hz hd => ⟨fun pins s σ H D I h => (hsu a oe cls d pn hz hd).run pins s σ H D I (h oe pn)⟩
end
/-! ### facts of the head -/
def excB (K : PySem.W.Frag) (D : Addr) : Bool :=
  decide (PySem.W.findIn K (.ref D) "__getattribute__" = some (some (.builtin "BaseException.__getattribute__"))) && decide (PySem.W.findIn K (.ref D) "__getattr__" = some none) && decide (PySem.W.subIn K (.ref D) (.type "BaseException") = some true) && PySem.W.hasDictIn K D
  && decide (PySem.W.findIn K (.ref D) "__class__" = some (some (.builtin "object.__class__"))) && decide (PySem.W.specialIn K (.builtin "object.__class__") "__get__" = some (some (.builtin "getset_descriptor.__get__"))) && decide (PySem.W.takesIn K (.builtin "object.__class__") = some true)
  && decide (PySem.W.mroIn K D (.type "object") = some true)
theorem excB_ok {K : PySem.W.Frag} {D : Addr} (h : excB K D = true) : ExcC K D := by
  unfold excB at h
  simp only [Bool.and_eq_true, decide_eq_true_eq] at h
  obtain ⟨⟨⟨⟨⟨⟨⟨h1, h2⟩, h3⟩, h4⟩, h5⟩, h6⟩, h7⟩, h8⟩ := h
  exact ⟨h1, h2, h3, h4, h5, h6, h7, h8⟩
def kitB (K : PySem.W.Frag) (c e : Addr) (b : Bool) : Bool := decide (PySem.W.kitOne K (.ref c) (.ref e) = some b)
theorem fun_ofD {K : PySem.W.Frag} {x qual : Str} {st : Stmt} {f : Addr} {fd : FuncData} {kws : List (Str × V)} (F : FunD K x qual (defArgs st) (defBody st) (defScope st) [] kws f fd) : Fun K x qual st f fd := by
  obtain ⟨oc, od, dV, kV, doc, pm, an, cdv, ct, osl, e, l, c, hd, _⟩ := F.ex
  rcases hd with ⟨_, e2⟩ | ⟨e2, _⟩
  · subst e2
    exact ⟨⟨oc, od, kV, doc, pm, an, cdv, ct, osl, e, l, c⟩, F.kp⟩
  · exact absurd rfl e2
theorem errC_of {K : PySem.W.Frag} {h : Heap} {mg : Str → Option Value} (X : K.In h) (G : h.Ns mainGlobals mg) {x : Str} (c1 : (He.Fa.glo x).ok K = true) (c2 : (He.Fa.exc x).ok K = true) : ErrC K mg x (He.ga K x) := by
  obtain ⟨e1, e2, e3, e4⟩ := He.exc_ok c2
  exact ⟨He.glo_ok X G c1, e1, e2, e3, e4⟩
theorem code_of {K : PySem.W.Frag} {x qual : Str} {st : Stmt} {p : Str × Option Str} {fd : FuncData} (F : Fun K x qual st (He.fAd K p) fd) : fd.code = .ref (He.cT K p).1 := by
  obtain ⟨oc, od, kV, doc, pm, an, cdv, ct, osl, e, l, c⟩ := F.ex
  obtain ⟨cc, hc⟩ := He.codeIn_ref c
  have e2 : fd.code = .ref cc := by rw [e]; exact hc
  rw [e2]
  show Value.ref cc = .ref (He.codeOf K p)
  rw [He.codeOf_eq l e2]
end Fp

/-! # Where the interpreter's guards of repr are known: repr of lists and tuples; the law's end with that -/
namespace Fp
open PySem PySem.Spec PyProof.Rows L2
/-- room, and no guard of repr is held -/
structure RoomG (k : Nat) (A : Around) : Prop extends Room k A where
  gd : A.guards = some []
theorem RoomG.mono {j k : Nat} {A : Around} (r : RoomG k A) (h : j ≤ k) : RoomG j A := ⟨r.toRoom.mono h, r.gd⟩
structure FnOkG (P : Program) (w : World) (K : PySem.W.Frag) (mg : Str → Option Value) (base : Heap) (k : Nat) (f : Addr) (fd : FuncData) (ps : List Str) (sp : Sp) : Prop where
  len : ∀ vs H Q E, sp vs H Q E → vs.length = ps.length
  run : ∀ (A : Around) (outer : List Env) (s : Shared) (H : Hp) (g : Args) (us : List Value) (vs : List V) (Q : VK) (E : XK), RoomG k A → Env0 P w K mg base A outer s H → BindsTo s fd g (ps.zip us) → Vals vs us → sp vs H Q E →
    codeAny (model P w) A (.call (.ref f) g) (CR (L2.CX P w) outer P w H s Q E) s
structure OkG (P : Program) (w : World) (K : PySem.W.Frag) (mg : Str → Option Value) (base : Heap) (k : Nat) (x : Str) (ps : List Str) (sp : Sp) (f : Addr) (fd : FuncData) : Prop where
  gl : mg x = some (.ref f)
  kp : PySem.W.keepIn K (.ref f) = true
  bn : Binds K fd ps []
  ok : FnOkG P w K mg base k f fd ps sp
  lk : ∃ (oc : Value) (od : Option Addr) (osl : Array (Option Value)), K.lookup f = some ⟨oc, od, .func fd, osl⟩
abbrev OkGE (P : Program) (w : World) (K : PySem.W.Frag) (mg : Str → Option Value) (base : Heap) (k : Nat) (x : Str) (ps : List Str) (sp : Sp) : Prop := ∃ f fd, OkG P w K mg base k x ps sp f fd
section
variable {P : Program} {w : World} {K : PySem.W.Frag} {mg : Str → Option Value} {base : Heap} {k : Nat} {x : Str} {ps : List Str} {sp : Sp}
theorem OkE.g (F : OkE P w K mg base k x ps sp) : OkGE P w K mg base k x ps sp := by
  obtain ⟨f, fd, O⟩ := F
  exact ⟨f, fd, O.gl, O.kp, O.bn, ⟨O.ok.len, fun A outer s H g us vs Q E hr => O.ok.run A outer s H g us vs Q E hr.toRoom⟩, O.lk⟩
theorem OkGE.fn (F : OkGE P w K mg base k x ps sp) {st : Stmt} {f : Addr} {fd : FuncData} (D : Dn K mg x st ps f fd) : FnOkG P w K mg base k f fd ps sp := by
  obtain ⟨f', fd', O⟩ := F
  have e := O.gl.symm.trans D.gl
  cases e
  obtain ⟨_, _, _, l1⟩ := O.lk
  obtain ⟨_, _, _, l2⟩ := D.fn.lkS
  rw [l1] at l2
  cases l2
  exact O.ok
/-- a def by its body, the guards known -/
theorem Dn.okG {st : Stmt} {N : List Str} {f : Addr} {fd : FuncData} (D : Dn K mg x st ps f fd) (S : FnScope N ps (defScope st)) (len : ∀ vs H Q E, sp vs H Q E → vs.length = ps.length)
    (hbody : ∀ (cdv : Value) (A : Around) (outer : List Env) (s : Shared) (H : Hp) (vs : List V) (Q : VK) (E : XK), RoomG k (A.deeper (envOfC x (defScope st) s.heap.objs.size f cdv)) → sp vs H Q E →
      ∃ t, PSs (cxOf (L2.CX P w) P w K mg base N x (defScope st) f cdv A outer s H E) (defBody st) t ∧ t { nx := fun _ H' => Q .non H', rt := Q } (start N vs) H) : OkGE P w K mg base (k + 1) x ps sp := by
  refine ⟨f, fd, D.gl, D.fn.kp, D.bn, ⟨len, fun A outer s H g us vs Q E hr e0 hb r h => ?_⟩, D.fn.lkS⟩
  obtain ⟨oc, od, kV, doc, pm, an, cdv, ct, osl, efd, lk, hcd⟩ := D.fn.ex
  subst efd
  refine LamX.run_ofS lk hcd S hr.toRoom e0 hb r (len _ _ _ _ h) fun hr2 => ?_
  obtain ⟨t, ht, hq⟩ := hbody cdv A outer s H vs Q E ⟨hr2, hr.gd⟩ h
  exact ⟨t, ht, hq⟩
theorem Dn.okCG {st : Stmt} {N : List Str} {f c : Addr} {fd : FuncData} (D : Dn K mg x st ps f fd) (S : FnScope N ps (defScope st)) (hcode : fd.code = .ref c) (len : ∀ vs H Q E, sp vs H Q E → vs.length = ps.length)
    (hbody : ∀ (A : Around) (outer : List Env) (s : Shared) (H : Hp) (vs : List V) (Q : VK) (E : XK), RoomG k (A.deeper (envOfC x (defScope st) s.heap.objs.size f (.ref c))) → sp vs H Q E →
      ∃ t, PSs (cxOf (L2.CX P w) P w K mg base N x (defScope st) f (.ref c) A outer s H E) (defBody st) t ∧ t { nx := fun _ H' => Q .non H', rt := Q } (start N vs) H) : OkGE P w K mg base (k + 1) x ps sp := by
  refine ⟨f, fd, D.gl, D.fn.kp, D.bn, ⟨len, fun A outer s H g us vs Q E hr e0 hb r h => ?_⟩, D.fn.lkS⟩
  obtain ⟨oc, od, kV, doc, pm, an, cdv, ct, osl, efd, lk, hcd⟩ := D.fn.ex
  subst efd
  have e2 : cdv = .ref c := hcode
  subst e2
  refine LamX.run_ofS lk hcd S hr.toRoom e0 hb r (len _ _ _ _ h) fun hr2 => ?_
  obtain ⟨t, ht, hq⟩ := hbody A outer s H vs Q E ⟨hr2, hr.gd⟩ h
  exact ⟨t, ht, hq⟩
end
section
variable {X : Cx} {k j : Nat} {x : Str} {ps : List Str} {sp : Sp} {E : XK} {p pos : Pos} {e : Expr} {es : List Expr} {t : TA}
theorem pe_callG (F : OkGE X.prog X.w X.K X.mg X.base j x ps sp) (hr : RoomG k X.A) (hj : j ≤ k) (hg : Gl X x) (hx : Passes (L2.CX X.prog X.w) X E) (ha : PA X (e :: es) t) (hdb : (x == ("__debug__" : Str)) = false := by decide)
    (he : starEach (e :: es) X.env = (false, eval e X.env) :: starEach es X.env := by rfl) (hpl : (backTo pos (starEach es X.env)).any (·.1) = false := by rfl) :
    PE X (.Call (.Name x p) (e :: es) [] pos) (tCallO sp E t) := by
  obtain ⟨f, fd, O⟩ := F
  refine ⟨fun pins s σ H Q I h => wpAny_Call_Name_kw (ld_glob I hg O.gl ?_ hdb)⟩
  refine PySem.W.callWith_K (h₀ := X.base) I.ok.mod.kin O.kp (thn (ha.run pos pins s σ H _ I h) fun us s1 ⟨vs, H1, I1, r, q⟩ => ⟨I1.kIn, ?_⟩) he hpl
  have hl : (us ++ []).length = ps.length := by rw [List.append_nil, ← r.length]; exact O.ok.len _ _ _ _ q
  have hb := O.bn s1 us I1.kIn hl
  rw [List.append_nil] at hb
  refine wpAny_call (codeAny_mono (O.ok.run X.A X.stack s1 H1 ⟨us, []⟩ us vs Q E (hr.mono hj) I1.env0 hb r q) fun z s' hq => ?_)
  cases z with
  | error u => exact hx pins σ H1 s1 u s' I1 hq
  | ok fl =>
    cases fl with
    | ret u => exact I1.after hq
    | _ => exact False.elim hq
end
/-! ### repr of lists and tuples -/
def rReprD (K : PySem.W.Frag) : List V → Hp → VK → Prop := fun xs H Q => ∃ (a : Addr) (d : PyData), xs = [.ref a] ∧ Dp K H (.ref a) d ∧ d.showable = true ∧ d.hasDict = false ∧ d.depth ≤ 60 ∧ d.shown.length ≤ sizeLine ∧ Q (.str d.shown) H
theorem call_reprD {X : Cx} {k : Nat} (hr : RoomG k X.A) : CallR X (.builtin "repr") (rReprD X.K) := by
  intro pins s σ H xs us Q I r h
  obtain ⟨a, d, rfl, hd, h1, h2, h3, h4, q⟩ := h
  obtain ⟨u, rfl, ru⟩ := vals1 r
  cases ru
  obtain ⟨as, rd⟩ := Dp.reads I d _ _ hd rfl
  refine repr_of_reads' rd h1 (fun z => by rw [h2] at z; cases z) hr.gd (by have := hr.un; omega) (fun b o e => e) (fun h' u tk hk => ?_) h4
  exact ⟨.str _, H, I.kept hk, ⟨_, rfl⟩, q⟩
/-- repr of anything that is flat, a list or a tuple -/
def rReprX (K : PySem.W.Frag) : List V → Hp → VK → Prop := fun xs H Q => rRepr xs H Q ∨ rReprD K xs H Q
theorem call_reprX {X : Cx} {k : Nat} (hr : RoomG k X.A) : CallR X (.builtin "repr") (rReprX X.K) := by
  intro pins s σ H xs us Q I r h
  rcases h with h | h
  · exact call_repr pins s σ H xs us Q I r h
  · exact call_reprD hr pins s σ H xs us Q I r h
end Fp
/-! ### the law's end, the guards known -/
namespace Fp
open PySem PySem.Spec PyProof.Rows L2
/-- the abstract heap at the law's beginning: empty tables, the script -/
def lawHp (T : List Addr) (a : Addr) (z : Option HO) : Hp := fun b => if b ∈ T then some (.tbl #[]) else if b = a then z else none
section
variable {T : List Addr} {a b : Addr} {z : Option HO}
theorem lawHp_in (h : b ∈ T) : lawHp T a z b = some (.tbl #[]) := by unfold lawHp; rw [if_pos h]
theorem lawHp_at (h : a ∉ T) : lawHp T a z a = z := by unfold lawHp; rw [if_neg h, if_pos rfl]
theorem lawHp_out (h : b ∉ T) (n : b ≠ a) : lawHp T a z b = none := by unfold lawHp; rw [if_neg h, if_neg n]
theorem lawHp_some {u : HO} (h : lawHp T a z b = some u) : (b ∈ T ∧ u = .tbl #[]) ∨ (b = a ∧ b ∉ T ∧ z = some u) := by
  unfold lawHp at h
  split at h
  · rename_i m
    cases h
    exact .inl ⟨m, rfl⟩
  · rename_i m
    split at h
    · rename_i e
      exact .inr ⟨e, m, h⟩
    · cases h
end
section
variable {P : Program} {w : World} {K : PySem.W.Frag} {mg mb : Str → Option Value} {k : Nat} {fa a : Addr} {cs : List (Addr × Addr)} {fd : FuncData} {x : Str} {sp : Sp} {s₁ : Shared} {vs : List Value} {ns : List Int}
theorem law_callG (KX : K.In s₁.heap) (hns : s₁.heap.Ns mainGlobals mg) (hb : s₁.heap.Ns builtinsNs mb) (hbb : ∀ x : Str, x ≠ "__name__" → mb x = bootBuiltins x) (hlim : s₁.heap.NoLimit) (hg : s₁.gens = #[])
    (hT : ∀ p ∈ cs, s₁.heap.get? p.2 = some { cls := .none, data := .fields #[] }) (nT : ∀ p ∈ cs, K.lookup p.2 = none) (C : ∀ p ∈ cs, PySem.W.CodeHd s₁.heap p.1 p.2)
    (hbm : ∃ (bm : Addr) (ob : Obj), mg "__builtins__" = some (.ref bm) ∧ bm ≠ builtinsNs ∧ s₁.heap.get? bm = some ob ∧ ob.cls = .type "module" ∧ ob.dict = some builtinsNs ∧ ob.data = .plain)
    (ha : s₁.heap.get? a = some { cls := .type "list", data := .seq vs.toArray }) (hi : IntsAre vs ns) (hl : ns.length ≤ sizeLine) (hr : Room k callerA)
    (F : ∀ base : Heap, K.In base → base.Ns mainGlobals mg → (∀ p ∈ cs, LamX.TabB base mg p.1 p.2) → FnOkG P w K mg base k fa fd [x] sp) (hbind : ∀ (s : Shared) (u : Value), BindsTo s fd ⟨[u], []⟩ [(x, u)])
    (hsp : ∀ H : Hp, (∀ p ∈ cs, H p.2 = some (.tbl #[])) → SqL K H a (ns.map V.int) → sp [.ref a] H (fun v _ => v = .bl true) fun _ _ _ => False) :
    codeAny (model P w) callerA (.call (.ref fa) ⟨[.ref a], []⟩) (fun r s' => r = .ok (.ret (.bool true)) ∧ OldK s₁.heap s'.heap ∧ s'.os = s₁.os ∧ AllBare s'.gens) s₁ := by
  obtain ⟨T, eT⟩ : ∃ T, T = cs.map Prod.snd := ⟨_, rfl⟩
  have inT : ∀ p ∈ cs, p.2 ∈ T := fun p hp => eT ▸ List.mem_map_of_mem hp
  have ofT : ∀ b ∈ T, ∃ p ∈ cs, p.2 = b := fun b hm => List.mem_map.mp (eT ▸ hm)
  have emptyAt : ∀ b ∈ T, s₁.heap.get? b = some { cls := .none, data := .fields #[] } := fun b hm => by
    obtain ⟨p, hp, e⟩ := ofT b hm
    exact e ▸ hT p hp
  have naT : a ∉ T := fun hm => by
    have e := (emptyAt a hm).symm.trans ha
    injection e with e
    injection e with _ _ e
    cases e
  have rv := vals_ints hi
  have hlv := hi.length
  obtain ⟨Z, eZ⟩ : ∃ Z : Option HO, Z = match K.lookup a with | none => some (HO.frz { cls := .type "list", data := .seq vs.toArray } (.lst (ns.map V.int))) | some _ => none := ⟨_, rfl⟩
  have zK : ∀ o, K.lookup a = some o → Z = none := fun o e => by rw [eZ, e]
  have zN : K.lookup a = none → Z = some (HO.frz { cls := .type "list", data := .seq vs.toArray } (.lst (ns.map V.int))) := fun e => by rw [eZ, e]
  have zZ : ∀ u, Z = some u → K.lookup a = none ∧ u = HO.frz { cls := .type "list", data := .seq vs.toArray } (.lst (ns.map V.int)) := fun u e => by
    cases q : K.lookup a with
    | none => exact ⟨rfl, (Option.some.inj ((zN q).symm.trans e)).symm⟩
    | some o => rw [zK o q] at e; cases e
  obtain ⟨H, eH⟩ : ∃ H, H = lawHp T a Z := ⟨_, rfl⟩
  have Hin : ∀ p ∈ cs, H p.2 = some (.tbl #[]) := fun p hp => by rw [eH]; exact lawHp_in (inT p hp)
  have Hno : ∀ b, b ∉ T → b ≠ a → H b = none := fun b h1 h2 => by rw [eH]; exact lawHp_out h1 h2
  have Ha : H a = Z := by rw [eH]; exact lawHp_at naT
  have seq : SqL K H a (ns.map V.int) := by
    cases q : K.lookup a with
    | none => exact .inl (.inr ⟨_, by rw [Ha, zN q]⟩)
    | some o =>
      have e := (KX a o q).symm.trans ha
      injection e with e
      subst e
      exact .inr ⟨_, vs.toArray, _, q, rfl, rfl, rfl, by rw [List.size_toArray, hlv]; exact hl, by simpa using rv⟩
  have hok : HOk P w H s₁.heap := fun b u e => by
    rw [eH] at e
    rcases lawHp_some e with ⟨m, rfl⟩ | ⟨rfl, _, e2⟩
    · exact emptyAt b m
    · obtain ⟨_, rfl⟩ := zZ u e2
      exact ⟨ha, by rw [List.length_map]; exact hl, vs, _, rv, ha⟩
  have see : ∀ b o, s₁.heap.get? b = some o → b ∉ T → b ≠ a → (hidT s₁.heap H).get? b = some o := fun b o e h1 h2 => hidT_get e (Hno b h1 h2)
  -- objects of other kinds are seen
  have seeO : ∀ b o, s₁.heap.get? b = some o → (∀ us n, o.data ≠ .seq us n) → o.data ≠ .fields #[] → (hidT s₁.heap H).get? b = some o := fun b o e h1 h2 => by
    refine see b o e (fun m => ?_) fun z => ?_
    · have q := e.symm.trans (emptyAt b m)
      injection q with q
      exact h2 (congrArg Obj.data q)
    · subst z
      have q := e.symm.trans ha
      injection q with q
      exact h1 _ _ (congrArg Obj.data q)
  have seeNs : ∀ {b : Addr} {m : Str → Option Value}, s₁.heap.Ns b m → (hidT s₁.heap H).Ns b m := by
    rintro b m ⟨o, es, ep, e, d, r⟩
    exact ⟨o, es, ep, seeO b o e (fun us n z => by rw [d] at z; cases z) (fun z => by rw [d] at z; cases z), d, r⟩
  have seeK : K.In (hidT s₁.heap H) := fun b o e => by
    refine hidT_get (KX b o e) ?_
    by_cases h1 : b ∈ T
    · obtain ⟨p, hp, ep⟩ := ofT b h1
      have := nT p hp
      rw [ep, e] at this
      cases this
    · by_cases h2 : b = a
      · subst h2
        rw [Ha, zK o e]
      · exact Hno b h1 h2
  have seeM : L2.Mod K mg (hidT s₁.heap H) := by
    obtain ⟨mc, h1, h2⟩ := hlim
    exact ⟨seeK, seeNs hns, ⟨mb, seeNs hb, hbb⟩, mc, seeNs h1, h2⟩
  have seeT : ∀ p ∈ cs, LamX.TabB (hidT s₁.heap H) mg p.1 p.2 := fun p hp => by
    have e0 := hT p hp
    have hne : mainGlobals ≠ p.2 := fun z => by
      obtain ⟨o, es, ep, e, d, _⟩ := hns
      have q := (z ▸ e).symm.trans e0
      injection q with q
      rw [q] at d
      cases d
    refine ⟨?_, ?_, hne⟩
    · obtain ⟨o, us, f1, f2, f3, f4, f5, f6, f7, e1, e2, e3, e4, rest⟩ := C p hp
      refine ⟨o, us, f1, f2, f3, f4, f5, f6, f7, seeO p.1 o e1 (fun us' n q => by rw [e3] at q; cases q) (fun q => ?_), e2, e3, e4, rest⟩
      rw [e3] at q
      injection q with q
      subst q
      cases e4
    · obtain ⟨bm, ob, b1, b2, b3, b4, b5, b6⟩ := hbm
      refine ⟨bm, ob, b1, b2, fun q => ?_, fun q => ?_, seeO bm ob b3 (fun us n q => by rw [b6] at q; cases q) (fun q => by rw [b6] at q; cases q), b4, b5, b6⟩
      · subst q
        obtain ⟨o, es, ep, e, d, _⟩ := hns
        rw [b3] at e
        cases e
        rw [b6] at d
        cases d
      · subst q
        rw [e0] at b3
        cases b3
        cases b6
  have env : Env0 P w K mg (hidT s₁.heap H) callerA [] s₁ H :=
    { frames := rfl, mod := seeM, bs := fun b o e => of_hidT e, bsz := Nat.le_of_eq (hidT_size _ _), funs := trivial, frf := fun b hm => absurd (show b ∈ ([] : List Addr) from hm) List.not_mem_nil, hok := hok, bare := .of_eq hg }
  have got := (F _ seeK (seeNs hns) seeT).run callerA [] s₁ H ⟨[.ref a], []⟩ [.ref a] [.ref a] _ _ ⟨hr, rfl⟩ env (hbind s₁ (.ref a)) (.cons rfl .nil) (hsp H Hin seq)
  refine codeAny_mono got fun r s' h => ?_
  match r, h with
  | .error e, h =>
    obtain ⟨_, _, _, _, _, _, _, _, _, _, _, _, z⟩ := h
    exact z.elim
  | .ok .next, h => exact False.elim h
  | .ok .brk, h => exact False.elim h
  | .ok .cont, h => exact False.elim h
  | .ok (.ret u), h =>
    obtain ⟨v, H', os, bare, un, hok', r', q⟩ := h
    have q' : v = .bl true := q
    subst q'
    have hu : u = Value.bool true := r'
    subst hu
    have tab : ∀ b ∈ T, ∃ p ∈ cs, p.2 = b ∧ ∃ more : Array Value, s'.heap.get? b = some { cls := .none, data := .fields more } := fun b hm => by
      obtain ⟨p, hp, e⟩ := ofT b hm
      obtain ⟨more, e2⟩ := un.tbls p.2 #[] (Hin p hp)
      exact ⟨p, hp, e, _, e ▸ hok' p.2 _ e2⟩
    have same : ∀ b o, b ∉ T → s₁.heap.get? b = some o → s'.heap.get? b = some o := fun b o hm e => by
      by_cases h2 : b = a
      · subst h2
        cases hz : Z with
        | none => exact un.keep b o e (Ha.trans hz) List.not_mem_nil List.not_mem_nil
        | some v =>
          obtain ⟨_, rfl⟩ := zZ v hz
          have g := hok' b _ (un.frzs b _ _ (Ha.trans hz))
          have e3 := e.symm.trans ha
          rw [e3]
          exact g.1
      · exact un.keep b o e (Hno b hm h2) List.not_mem_nil List.not_mem_nil
    refine ⟨rfl, ⟨fun b o e => ?_, fun b o e => ?_⟩, os, bare⟩
    · by_cases hm : b ∈ T
      · obtain ⟨p, hp, ep, more, e2⟩ := tab b hm
        subst ep
        have e3 := Option.some.inj (e.symm.trans (hT p hp))
        subst e3
        exact .inr (.inl ⟨((C p hp).tab (hT p hp)).isCodeTable, rfl, #[], more, rfl, by rw [e2, Array.empty_append]⟩)
      · exact .inl (same b o hm e)
    · by_cases hm : b ∈ T
      · obtain ⟨_, _, _, more, e2⟩ := tab b hm
        exact ⟨_, e2⟩
      · exact ⟨o, same b o hm e⟩
end
/-- what the head must tell of a law -/
def LawG (l : PySem.W.OpenLaw) (w : World) (K : PySem.W.Frag) (k n : Nat) (x : Str) (mg : Str → Option Value) (fa : Addr) (h : Heap) : Prop :=
  ∃ (fd : FuncData) (cs : List (Addr × Addr)) (sp : Sp), ((∀ p ∈ cs, h.get? p.2 = some { cls := .none, data := .fields #[] }) ∧ (∀ p ∈ cs, K.lookup p.2 = none) ∧ ∀ p ∈ cs, PySem.W.CodeHd h p.1 p.2) ∧ (∀ (s : Shared) (u : Value), BindsTo s fd ⟨[u], []⟩ [(x, u)]) ∧
    (∀ (H : Hp) (a : Addr) (ns : List Int), ns.length ≤ n → (∀ z ∈ ns, Builtin.Int.intBits z ≤ 1048576) → (∀ p ∈ cs, H p.2 = some (.tbl #[])) → SqL K H a (ns.map V.int) → sp [.ref a] H (fun v _ => v = .bl true) fun _ _ _ => False) ∧
    ∀ base : Heap, K.In base → base.Ns mainGlobals mg → (∀ p ∈ cs, LamX.TabB base mg p.1 p.2) → FnOkG l.prog w K mg base k fa fd [x] sp
theorem walk_G {l : PySem.W.OpenLaw} {n k : Nat} {q : Program} {loose : List Str} {XP : (Str → Option Value) → Heap → Prop} {YP : World → Heap → Prop} {d : DefRec} {x : Str}
    (hn : l.most = some n) (hn2 : n ≤ sizeLine) (hdf : d.params.defaults = []) (hr : Room k callerA)
    (F : ∀ (w : World) (mg : Str → Option Value) (fa : Addr) (h : Heap), YP w h → h.Ns mainGlobals mg → mg d.name = some (.ref fa) → ∃ K : PySem.W.Frag, K.In h ∧ LawG l w K k n x mg fa h) :
    PySem.W.WalkO q loose XP YP l.row.toRowW d [] (fun f vs => PySem.call f vs) := by
  refine Att.attach_callB hn hdf fun w s₀ s₁ mg mb fa o pm cd doc a vs ns G Y _ _ _ hmg hobj hints hlen hbits hg => ?_
  obtain ⟨K, KX, fd, cs, sp, ⟨hT, nT, C⟩, hbd, hsp, hF⟩ := F w mg fa _ Y G.T.g hmg
  exact law_callG KX G.T.g G.T.b G.T.builtins G.T.nolimit hg hT nT C G.T.bmain hobj hints (Nat.le_trans hlen hn2) hr hF hbd fun H hH hS => hsp H a ns hlen hbits hH hS
end Fp

/-! # Signs by primes: Gauss's lemma, the law of two -/
namespace Fp
theorem perm_of_sub {β : Type} [DecidableEq β] : ∀ {l m : List β}, l.Nodup → m.Nodup → (∀ x ∈ l, x ∈ m) → m.length ≤ l.length → l.Perm m
  | [], m, _, _, _, h => by
    have : m = [] := List.length_eq_zero_iff.mp (Nat.le_zero.mp h)
    rw [this]
  | x :: t, m, hl, hm, hs, h => by
    rw [List.nodup_cons] at hl
    have hx := hs x List.mem_cons_self
    have h1 := List.perm_cons_erase hx
    refine List.Perm.trans (List.Perm.cons x ?_) h1.symm
    refine perm_of_sub hl.2 (hm.erase x) (fun y hy => ?_) ?_
    · rw [hm.mem_erase_iff]
      exact ⟨fun z => hl.1 (z ▸ hy), hs y (List.mem_cons_of_mem _ hy)⟩
    · rw [List.length_erase_of_mem hx]
      rw [List.length_cons] at h
      omega
/-- 1 to n -/
def rng (n : Nat) : List Nat := (List.range n).map (· + 1)
theorem mem_rng {n k : Nat} : k ∈ rng n ↔ 1 ≤ k ∧ k ≤ n := by
  unfold rng
  rw [List.mem_map]
  constructor
  · rintro ⟨a, ha, rfl⟩
    rw [List.mem_range] at ha
    omega
  · rintro ⟨h1, h2⟩
    exact ⟨k - 1, List.mem_range.mpr (by omega), by omega⟩
theorem rng_nd (n : Nat) : (rng n).Nodup := nodup_map_inj (fun a b _ _ h => by omega) List.nodup_range
theorem rng_len (n : Nat) : (rng n).length = n := by unfold rng; rw [List.length_map, List.length_range]
theorem rng_succ (n : Nat) : rng (n + 1) = rng n ++ [n + 1] := by unfold rng; rw [List.range_succ, List.map_append]; rfl
def sm (l : List Nat) : Nat := l.foldr (· + ·) 0
theorem sm_nil : sm [] = 0 := rfl
theorem sm_cons (a : Nat) (l : List Nat) : sm (a :: l) = a + sm l := rfl
theorem sm_app (l m : List Nat) : sm (l ++ m) = sm l + sm m := by
  induction l with
  | nil => simp [sm]
  | cons a t ih => rw [List.cons_append, sm_cons, sm_cons, ih]; omega
theorem sm_perm {l m : List Nat} (h : l.Perm m) : sm l = sm m := by
  induction h with
  | nil => rfl
  | cons x _ ih => rw [sm_cons, sm_cons, ih]
  | swap x y l => simp only [sm_cons]; omega
  | trans _ _ a b => rw [a, b]
theorem sm_map_add {β : Type} (f g : β → Nat) (l : List β) : sm (l.map fun x => f x + g x) = sm (l.map f) + sm (l.map g) := by
  induction l with
  | nil => rfl
  | cons a t ih => simp only [List.map_cons, sm_cons, ih]; omega
theorem sm_congr {β : Type} {f g : β → Nat} {l : List β} (h : ∀ x ∈ l, f x = g x) : sm (l.map f) = sm (l.map g) := by
  rw [List.map_congr_left h]
theorem sm_const {β : Type} (c : Nat) (l : List β) : sm (l.map fun _ => c) = l.length * c := by
  induction l with
  | nil => simp [sm]
  | cons a t ih => rw [List.map_cons, sm_cons, ih, List.length_cons, Nat.add_mul]; omega
theorem sm_swap {β γ : Type} (f : β → γ → Nat) (l : List β) (m : List γ) : sm (l.map fun x => sm (m.map (f x))) = sm (m.map fun y => sm (l.map fun x => f x y)) := by
  induction l with
  | nil => simp only [List.map_nil, sm_nil]; rw [sm_const]; simp
  | cons a t ih =>
    simp only [List.map_cons, sm_cons]
    rw [ih, sm_map_add]
theorem sm_even {β : Type} {f : β → Nat} {l : List β} (h : ∀ x ∈ l, f x % 2 = 0) : sm (l.map f) % 2 = 0 := by
  induction l with
  | nil => rfl
  | cons a t ih =>
    rw [List.map_cons, sm_cons, Nat.add_mod, h a List.mem_cons_self, ih fun x hx => h x (List.mem_cons_of_mem _ hx)]
/-- what a k leaves, brought to 1 .. half -/
def sk (p a k : Nat) : Nat := if a * k % p ≤ (p - 1) / 2 then a * k % p else p - a * k % p
def ek (p a k : Nat) : Nat := if a * k % p ≤ (p - 1) / 2 then 0 else 1
section
variable {p a : Nat}
theorem ak_ne (hp : IsP p) (ha : ¬ p ∣ a) {k : Nat} (h1 : 1 ≤ k) (h2 : k < p) : a * k % p ≠ 0 := fun z => by
  rcases hp.dvd_mul (Nat.dvd_of_mod_eq_zero z) with h | h
  · exact ha h
  · have := Nat.le_of_dvd h1 h; omega
theorem sk_mem (hp : IsP p) (ho : p % 2 = 1) (ha : ¬ p ∣ a) {k : Nat} (h : k ∈ rng ((p - 1) / 2)) : sk p a k ∈ rng ((p - 1) / 2) := by
  rw [mem_rng] at h ⊢
  have h0 := hp.1
  have h1 := ak_ne hp ha h.1 (by omega)
  have h2 := Nat.mod_lt (a * k) (show 0 < p by omega)
  unfold sk
  split <;> omega
theorem mod_eq_dvd {x y : Nat} (h : x % p = y % p) (hxy : y ≤ x) : p ∣ x - y := Nat.dvd_of_mod_eq_zero (Nat.sub_mod_eq_zero_of_mod_eq h)
theorem ak_inj (hp : IsP p) (ha : ¬ p ∣ a) {k l : Nat} (hk : k < p) (h : a * k % p = a * l % p) (hl : l ≤ k) : k = l := by
  have h1 := mod_eq_dvd h (Nat.mul_le_mul_left a hl)
  rw [← Nat.mul_sub] at h1
  rcases hp.dvd_mul h1 with h2 | h2
  · exact absurd h2 ha
  · by_cases h3 : k - l = 0
    · omega
    · have := Nat.le_of_dvd (by omega) h2; omega
theorem sk_inj (hp : IsP p) (ho : p % 2 = 1) (ha : ¬ p ∣ a) {k l : Nat} (hk : k ∈ rng ((p - 1) / 2)) (hl : l ∈ rng ((p - 1) / 2)) (h : sk p a k = sk p a l) : k = l := by
  rw [mem_rng] at hk hl
  have h0 := hp.1
  have k2 := Nat.mod_lt (a * k) (show 0 < p by omega)
  have l2 := Nat.mod_lt (a * l) (show 0 < p by omega)
  have same : a * k % p = a * l % p → k = l := fun e => by
    rcases Nat.le_total l k with z | z
    · exact ak_inj hp ha (by omega) e z
    · exact (ak_inj hp ha (by omega) e.symm z).symm
  have opp : a * k % p + a * l % p = p → False := fun e => by
    have h1 : (a * k + a * l) % p = 0 := by rw [Nat.add_mod, e, Nat.mod_self]
    rw [← Nat.mul_add] at h1
    exact ak_ne hp ha (by omega) (by omega) h1
  unfold sk at h
  split at h <;> split at h
  · exact same h
  · exact (opp (by omega)).elim
  · exact (opp (by omega)).elim
  · exact same (by omega)
theorem sk_perm (hp : IsP p) (ho : p % 2 = 1) (ha : ¬ p ∣ a) : ((rng ((p - 1) / 2)).map (sk p a)).Perm (rng ((p - 1) / 2)) := by
  refine perm_of_sub (nodup_map_inj (fun x y hx hy e => sk_inj hp ho ha hx hy e) (rng_nd _)) (rng_nd _) (fun y hy => ?_) (by rw [List.length_map]; exact Nat.le_refl _)
  obtain ⟨x, hx, rfl⟩ := List.mem_map.mp hy
  exact sk_mem hp ho ha hx
/-- the parity of the sum of quotients -/
theorem ek_parity (hp : IsP p) (ho : p % 2 = 1) (ha : ¬ p ∣ a) (hao : a % 2 = 1) : (sm ((rng ((p - 1) / 2)).map (ek p a)) + sm ((rng ((p - 1) / 2)).map fun k => a * k / p)) % 2 = 0 := by
  have h0 := hp.1
  have h1 : sm ((rng ((p - 1) / 2)).map fun k => (k + sk p a k) + (ek p a k + a * k / p)) % 2 = 0 := by
    refine sm_even fun k hk => ?_
    have d := Nat.div_add_mod (a * k) p
    have l2 := Nat.mod_lt (a * k) (show 0 < p by omega)
    have e1 : (a * k) % 2 = k % 2 := by rw [Nat.mul_mod, hao, Nat.one_mul, Nat.mod_mod]
    have e2 : (p * (a * k / p)) % 2 = (a * k / p) % 2 := by rw [Nat.mul_mod, ho, Nat.one_mul, Nat.mod_mod]
    unfold sk ek
    split <;> omega
  rw [sm_map_add, sm_map_add, sm_map_add] at h1
  have h2 : sm ((rng ((p - 1) / 2)).map (sk p a)) = sm ((rng ((p - 1) / 2)).map fun k => k) := by
    rw [List.map_id']
    exact sm_perm (sk_perm hp ho ha)
  omega
end
section
variable {p q : Nat}
theorem count_le (hp : 0 < p) (m : Nat) : ∀ Q : Nat, sm ((rng Q).map fun l => if p * l ≤ m then 1 else 0) = min Q (m / p)
  | 0 => by simp [rng, sm]
  | Q + 1 => by
    rw [rng_succ, List.map_append, sm_app, count_le hp m Q]
    simp only [List.map_cons, List.map_nil, sm_cons, sm_nil]
    have h : p * (Q + 1) ≤ m ↔ Q + 1 ≤ m / p := by rw [Nat.le_div_iff_mul_le hp, Nat.mul_comm]
    split
    · rename_i h1
      have := h.mp h1
      omega
    · rename_i h1
      have : ¬ Q + 1 ≤ m / p := fun z => h1 (h.mpr z)
      omega
theorem quo_le (hp : 1 ≤ p) (hpo : p % 2 = 1) (hqo : q % 2 = 1) {k : Nat} (hk : k ≤ (p - 1) / 2) : q * k / p ≤ (q - 1) / 2 := by
  rw [← Nat.lt_succ_iff, Nat.div_lt_iff_lt_mul (by omega)]
  have h1 : q * k ≤ q * ((p - 1) / 2) := Nat.mul_le_mul_left q hk
  have h2 : q * ((p - 1) / 2) * 2 = q * (p - 1) := by rw [Nat.mul_assoc]; congr 1; omega
  have h3 : q * (p - 1) = q * p - q := by rw [Nat.mul_sub, Nat.mul_one]
  have h4 : ((q - 1) / 2).succ * p * 2 = (q + 1) * p := by rw [Nat.mul_right_comm]; congr 1; omega
  have h5 : (q + 1) * p = q * p + p := by rw [Nat.add_mul, Nat.one_mul]
  omega
/-- points below and above the line: the sums of quotients together -/
theorem quo_sum (hp : IsP p) (hq : IsP q) (hpo : p % 2 = 1) (hqo : q % 2 = 1) (hne : p ≠ q) :
    sm ((rng ((p - 1) / 2)).map fun k => q * k / p) + sm ((rng ((q - 1) / 2)).map fun l => p * l / q) = (p - 1) / 2 * ((q - 1) / 2) := by
  have p0 := hp.1
  have q0 := hq.1
  have e1 : sm ((rng ((p - 1) / 2)).map fun k => q * k / p) = sm ((rng ((p - 1) / 2)).map fun k => sm ((rng ((q - 1) / 2)).map fun l => if p * l ≤ q * k then 1 else 0)) :=
    sm_congr fun k hk => by
      rw [mem_rng] at hk
      have := quo_le (q := q) (by omega) hpo hqo hk.2
      rw [count_le (by omega)]
      omega
  have e2 : sm ((rng ((q - 1) / 2)).map fun l => p * l / q) = sm ((rng ((q - 1) / 2)).map fun l => sm ((rng ((p - 1) / 2)).map fun k => if q * k ≤ p * l then 1 else 0)) :=
    sm_congr fun l hl => by
      rw [mem_rng] at hl
      have := quo_le (q := p) (p := q) (by omega) hqo hpo hl.2
      rw [count_le (by omega)]
      omega
  rw [e1, e2, sm_swap (fun l k => if q * k ≤ p * l then 1 else 0), ← sm_map_add]
  rw [sm_congr (g := fun _ => (q - 1) / 2), sm_const, rng_len]
  intro k hk
  rw [mem_rng] at hk
  rw [← sm_map_add, sm_congr (g := fun _ => 1), sm_const, rng_len, Nat.mul_one]
  intro l hl
  rw [mem_rng] at hl
  have hn : p * l ≠ q * k := fun z => by
    have h1 : p ∣ q * k := ⟨l, z.symm⟩
    rcases hp.dvd_mul h1 with h2 | h2
    · exact hne (hp.eq_of_dvd hq h2)
    · have := Nat.le_of_dvd (by omega) h2; omega
  split <;> split <;> omega
end
section
open Fin.NatCast Fin.IntCast
variable {p a : Nat}
theorem prodL_two {α : Type} [FinF α] {β : Type} (f g : β → α) (l : List β) : prodL (l.map fun x => f x * g x) = prodL (l.map f) * prodL (l.map g) := by
  induction l with
  | nil => show (1 : α) = 1 * 1; grind
  | cons x t ih =>
    show f x * g x * prodL (t.map fun x => f x * g x) = f x * prodL (t.map f) * (g x * prodL (t.map g))
    rw [ih]; grind
theorem prodL_pow {α : Type} [FinF α] (c : α) {β : Type} (f : β → Nat) (l : List β) : prodL (l.map fun x => c ^ f x) = c ^ sm (l.map f) := by
  induction l with
  | nil => show (1 : α) = c ^ 0; grind
  | cons x t ih =>
    show c ^ f x * prodL (t.map fun x => c ^ f x) = c ^ (f x + sm (t.map f))
    rw [ih]; grind
/-- Gauss's lemma -/
theorem gauss (hp : IsP p) (ho : p % 2 = 1) (ha : ¬ p ∣ a) : (a : Int) ^ ((p - 1) / 2) % (p : Int) = (-1) ^ sm ((rng ((p - 1) / 2)).map (ek p a)) % (p : Int) := by
  have h0 := hp.1
  have inst := hp.ne0
  let F := zpF hp
  have key : ∀ k ∈ rng ((p - 1) / 2), (((a : Int) : Fin p)) * (((k : Nat) : Int) : Fin p) = (-1 : Fin p) ^ ek p a k * (((sk p a k : Nat) : Int) : Fin p) := by
    intro k hk
    rw [← Lean.Grind.Ring.intCast_mul]
    have l2 := Nat.mod_lt (a * k) (show 0 < p by omega)
    have e3 : ((((a : Int) * (k : Int)) : Int) : Fin p) = (((a * k % p : Nat) : Int) : Fin p) := by
      rw [zp_eq]
      rw [Int.natCast_emod, Int.emod_emod, Int.natCast_mul]
    rw [e3]
    unfold sk ek
    split
    · show _ = (-1 : Fin p) ^ 0 * _
      rw [Lean.Grind.Semiring.pow_zero, Lean.Grind.Semiring.one_mul]
    · have e4 : (((p - a * k % p : Nat) : Int) : Fin p) = ((-((a * k % p : Nat) : Int) : Int) : Fin p) := by
        rw [zp_eq]
        rw [Int.natCast_sub (by omega), show (p : Int) - ((a * k % p : Nat) : Int) = -((a * k % p : Nat) : Int) + (p : Int) * 1 by omega, Int.add_mul_emod_self_left]
      rw [e4, Lean.Grind.Ring.intCast_neg]
      show _ = (-1 : Fin p) ^ 1 * _
      grind
  have e1 : prodL ((rng ((p - 1) / 2)).map fun k => ((a : Int) : Fin p) * (((k : Nat) : Int) : Fin p)) = prodL ((rng ((p - 1) / 2)).map fun k => (-1 : Fin p) ^ ek p a k * (((sk p a k : Nat) : Int) : Fin p)) := by
    rw [List.map_congr_left key]
  rw [prodL_two, prodL_two, prodL_pow] at e1
  have e2 : prodL ((rng ((p - 1) / 2)).map fun k => (((sk p a k : Nat) : Int) : Fin p)) = prodL ((rng ((p - 1) / 2)).map fun k => (((k : Nat) : Int) : Fin p)) := by
    have := (sk_perm hp ho ha).map fun k => (((k : Nat) : Int) : Fin p)
    rw [List.map_map] at this
    exact prodL_perm this
  have e3 : prodL ((rng ((p - 1) / 2)).map fun _ => ((a : Int) : Fin p)) = ((a : Int) : Fin p) ^ ((p - 1) / 2) := by
    have := prodL_pow (((a : Int) : Fin p)) (fun _ : Nat => 1) (rng ((p - 1) / 2))
    rw [sm_const, rng_len, Nat.mul_one] at this
    rw [← this]
    congr 1
    refine List.map_congr_left fun k _ => ?_
    grind
  have hn : prodL ((rng ((p - 1) / 2)).map fun k => (((k : Nat) : Int) : Fin p)) ≠ 0 := by
    refine prodL_ne fun x hx => ?_
    obtain ⟨k, hk, rfl⟩ := List.mem_map.mp hx
    rw [mem_rng] at hk
    intro z
    rw [zp_zero, Int.emod_eq_of_lt (by omega) (by omega)] at z
    omega
  rw [e2, e3] at e1
  have e5 : ((a : Int) : Fin p) ^ ((p - 1) / 2) = (-1 : Fin p) ^ sm ((rng ((p - 1) / 2)).map (ek p a)) := by
    refine mul_cancel hn ?_
    clear key e2 e3
    generalize prodL ((rng ((p - 1) / 2)).map fun k => (((k : Nat) : Int) : Fin p)) = x at e1
    generalize ((a : Int) : Fin p) ^ ((p - 1) / 2) = y at e1
    generalize (-1 : Fin p) ^ sm ((rng ((p - 1) / 2)).map (ek p a)) = z at e1
    rw [Lean.Grind.CommSemiring.mul_comm x y, Lean.Grind.CommSemiring.mul_comm x z]
    exact e1
  rw [← zp_eq, Lean.Grind.Ring.intCast_pow, e5, Lean.Grind.Ring.intCast_pow, Lean.Grind.Ring.intCast_neg, Lean.Grind.Ring.intCast_one]
end
end Fp

namespace Fp
/-- the sign of a number by an odd prime -/
def sgn (a : Int) (p : Nat) : Int := if a % (p : Int) = 0 then 0 else if a ^ ((p - 1) / 2) % (p : Int) = 1 then 1 else -1
section
open Fin.NatCast Fin.IntCast
variable {p q : Nat}
theorem pow_pm (hp : IsP p) (ho : p % 2 = 1) {a : Int} (h : a % (p : Int) ≠ 0) : a ^ ((p - 1) / 2) % (p : Int) = 1 ∨ a ^ ((p - 1) / 2) % (p : Int) = (p : Int) - 1 := by
  have h0 := hp.1
  have inst := hp.ne0
  let F := zpF hp
  have f := fermat hp h
  have e : (p - 1) = (p - 1) / 2 + (p - 1) / 2 := by omega
  rw [e, Int.pow_add, ← zp_eq, Lean.Grind.Ring.intCast_mul, Lean.Grind.Ring.intCast_one] at f
  generalize hy : a ^ ((p - 1) / 2) = y at f ⊢
  have g : ((y : Fin p) - 1) * ((y : Fin p) + 1) = 0 := by
    have : ((y : Fin p) - 1) * ((y : Fin p) + 1) = (y : Fin p) * (y : Fin p) - 1 := by grind
    rw [this, f]; grind
  by_cases h1 : (y : Fin p) - 1 = 0
  · left
    have h2 : ((y - 1 : Int) : Fin p) = 0 := by rw [Lean.Grind.Ring.intCast_sub, Lean.Grind.Ring.intCast_one]; exact h1
    rw [zp_zero] at h2
    have h3 := Int.emod_emod_of_dvd y (Int.dvd_refl (p : Int))
    have : y = (y - 1) / (p : Int) * p + 1 := by have := Int.emod_add_mul_ediv (y - 1) p; rw [h2] at this; rw [Int.mul_comm]; omega
    rw [this, Int.mul_comm, Int.add_comm, Int.add_mul_emod_self_left]
    exact Int.emod_eq_of_lt (by decide) (by omega)
  · right
    have h4 : (y : Fin p) + 1 = 0 := by
      apply Classical.byContradiction
      intro z
      exact mul_ne h1 z g
    have h2 : ((y + 1 : Int) : Fin p) = 0 := by rw [Lean.Grind.Ring.intCast_add, Lean.Grind.Ring.intCast_one]; exact h4
    rw [zp_zero] at h2
    have : y = (y + 1) / (p : Int) * p + -1 := by have := Int.emod_add_mul_ediv (y + 1) p; rw [h2] at this; rw [Int.mul_comm]; omega
    rw [this, Int.mul_comm, Int.add_comm, Int.add_mul_emod_self_left, show (-1 : Int) = (p : Int) - 1 + (p : Int) * (-1) by omega, Int.add_mul_emod_self_left]
    exact Int.emod_eq_of_lt (by omega) (by omega)
theorem dvd_mul_int (hp : IsP p) {a b : Int} (h : (a * b) % (p : Int) = 0) : a % (p : Int) = 0 ∨ b % (p : Int) = 0 := by
  have inst := hp.ne0
  let F := zpF hp
  rw [← zp_zero, Lean.Grind.Ring.intCast_mul] at h
  by_cases h1 : (a : Fin p) = 0
  · exact .inl (zp_zero.mp h1)
  · right
    apply Classical.byContradiction
    intro c
    exact mul_ne h1 (fun z => c (zp_zero.mp z)) h
theorem sgn_zero {a : Int} (h : a % (p : Int) = 0) : sgn a p = 0 := by unfold sgn; rw [if_pos h]
theorem sgn_congr {a b : Int} (h : a % (p : Int) = b % (p : Int)) : sgn a p = sgn b p := by
  unfold sgn
  rw [h, ← emod_pow a, h, emod_pow b]
theorem sgn_mul (hp : IsP p) (ho : p % 2 = 1) (a b : Int) : sgn (a * b) p = sgn a p * sgn b p := by
  have h0 := hp.1
  have h3 : 3 ≤ p := by omega
  by_cases ha : a % (p : Int) = 0
  · rw [sgn_zero ha, Int.zero_mul, sgn_zero]
    rw [Int.mul_emod, ha, Int.zero_mul, Int.zero_emod]
  by_cases hb : b % (p : Int) = 0
  · rw [sgn_zero hb, Int.mul_zero, sgn_zero]
    rw [Int.mul_emod, hb, Int.mul_zero, Int.zero_emod]
  have hab : (a * b) % (p : Int) ≠ 0 := fun z => (dvd_mul_int hp z).elim ha hb
  have e : (a * b) ^ ((p - 1) / 2) % (p : Int) = ((a ^ ((p - 1) / 2) % (p : Int)) * (b ^ ((p - 1) / 2) % (p : Int))) % (p : Int) := by
    rw [Int.mul_pow, Int.mul_emod]
  unfold sgn
  rw [if_neg ha, if_neg hb, if_neg hab, e]
  have c1 : (1 : Int) % (p : Int) = 1 := Int.emod_eq_of_lt (by decide) (by omega)
  have c2 : ((p : Int) - 1) % (p : Int) = (p : Int) - 1 := Int.emod_eq_of_lt (by omega) (by omega)
  have c3 : (((p : Int) - 1) * ((p : Int) - 1)) % (p : Int) = 1 := by
    have : ((p : Int) - 1) * ((p : Int) - 1) = 1 + (p : Int) * ((p : Int) - 2) := by grind
    rw [this, Int.add_mul_emod_self_left, c1]
  have c4 : ¬ (p : Int) - 1 = 1 := by omega
  rcases pow_pm hp ho ha with h1 | h1 <;> rcases pow_pm hp ho hb with h2 | h2 <;> rw [h1, h2]
  · rw [Int.mul_one, if_pos c1, if_pos rfl]; rfl
  · rw [Int.one_mul, c2, if_neg c4, if_pos rfl]; rfl
  · rw [Int.mul_one, c2, if_neg c4, if_pos rfl]; rfl
  · rw [c3, if_pos rfl, if_neg c4]; rfl
theorem neg_pow_par (n : Nat) : ((-1 : Int)) ^ n = if n % 2 = 0 then 1 else -1 := by
  induction n with
  | zero => rfl
  | succ n ih =>
    rw [Int.pow_succ, ih]
    by_cases h : n % 2 = 0
    · rw [if_pos h, if_neg (by omega)]; rfl
    · rw [if_neg h, if_pos (by omega)]; rfl
theorem neg_one_mod (h : 3 ≤ p) : ¬ (-1 : Int) % (p : Int) = 1 := by
  rw [show (-1 : Int) = (p : Int) - 1 + (p : Int) * (-1) by omega, Int.add_mul_emod_self_left, Int.emod_eq_of_lt (by omega) (by omega)]
  omega
theorem sgn_gauss (hp : IsP p) (hpo : p % 2 = 1) (hq : ¬ p ∣ q) : sgn (q : Int) p = if sm ((rng ((p - 1) / 2)).map (ek p q)) % 2 = 0 then 1 else -1 := by
  have h0 := hp.1
  have g := gauss hp hpo hq
  rw [neg_pow_par] at g
  unfold sgn
  rw [if_neg (fun z => hq (dvd_of_emod z)), g]
  by_cases h : sm ((rng ((p - 1) / 2)).map (ek p q)) % 2 = 0
  · rw [if_pos h, if_pos (Int.emod_eq_of_lt (by decide) (by omega))]
  · rw [if_neg h, if_neg (neg_one_mod (by omega))]
/-- the law of two -/
theorem law_two (hp : IsP p) (hq : IsP q) (hpo : p % 2 = 1) (hqo : q % 2 = 1) (hne : p ≠ q) :
    (sgn (p : Int) q = sgn (q : Int) p ↔ ¬ (p % 4 = 3 ∧ q % 4 = 3)) := by
  have d1 : ¬ p ∣ q := fun z => hne (hp.eq_of_dvd hq z)
  have d2 : ¬ q ∣ p := fun z => hne (hq.eq_of_dvd hp z).symm
  rw [sgn_gauss hp hpo d1, sgn_gauss hq hqo d2]
  have e1 := ek_parity hp hpo d1 hqo
  have e2 := ek_parity hq hqo d2 hpo
  have e3 := quo_sum hp hq hpo hqo hne
  have e4 : ((p - 1) / 2 * ((q - 1) / 2)) % 2 = 1 ↔ (p % 4 = 3 ∧ q % 4 = 3) := by
    rw [Nat.mul_mod]
    have a1 : (p - 1) / 2 % 2 = if p % 4 = 3 then 1 else 0 := by split <;> omega
    have a2 : (q - 1) / 2 % 2 = if q % 4 = 3 then 1 else 0 := by split <;> omega
    rw [a1, a2]
    by_cases b1 : p % 4 = 3
    · by_cases b2 : q % 4 = 3
      · rw [if_pos b1, if_pos b2]; simp [b1, b2]
      · rw [if_neg b2]; simp [b2]
    · rw [if_neg b1]; simp [b1]
  generalize sm ((rng ((p - 1) / 2)).map (ek p q)) = m1 at *
  generalize sm ((rng ((q - 1) / 2)).map (ek q p)) = m2 at *
  generalize sm ((rng ((p - 1) / 2)).map fun k => q * k / p) = s1 at *
  generalize sm ((rng ((q - 1) / 2)).map fun l => p * l / q) = s2 at *
  rw [← e4, ← e3]
  by_cases c1 : m1 % 2 = 0 <;> by_cases c2 : m2 % 2 = 0
  · rw [if_pos c1, if_pos c2]; simp; omega
  · rw [if_pos c1, if_neg c2]; simp; omega
  · rw [if_neg c1, if_pos c2]; simp; omega
  · rw [if_neg c1, if_neg c2]; simp; omega
theorem sgn_cases (a : Int) (p : Nat) : sgn a p = 0 ∨ sgn a p = 1 ∨ sgn a p = -1 := by
  unfold sgn
  split
  · exact .inl rfl
  · split
    · exact .inr (.inl rfl)
    · exact .inr (.inr rfl)
end
end Fp

/-! ## The words of the walk (local, each text has its own) -/
namespace Fp
open PySem PySem.Spec PyProof.Rows L2
local macro_rules | `(tactic| walk_at "len") => `(tactic| (intro vs H Q E h; first
  | (obtain ⟨e, _⟩ := h; subst e; rfl)
  | (obtain ⟨_, e, _⟩ := h; subst e; rfl)
  | (obtain ⟨_, _, e, _⟩ := h; subst e; rfl)
  | (obtain ⟨_, _, _, e, _⟩ := h; subst e; rfl)
  | (obtain ⟨_, _, _, _, e, _⟩ := h; subst e; rfl)
  | (obtain ⟨_, _, _, _, _, e, _⟩ := h; subst e; rfl)
  | (obtain ⟨_, _, _, _, _, _, e, _⟩ := h; subst e; rfl)
  | (obtain ⟨_, _, _, _, _, _, _, e, _⟩ := h; subst e; rfl)
  | (obtain ⟨_, _, _, _, _, _, _, _, e, _⟩ := h; subst e; rfl)
  | (obtain ⟨_, _, _, _, _, _, _, _, _, e, _⟩ := h; subst e; rfl)
  | (obtain ⟨_, _, _, _, _, _, _, _, _, _, e, _⟩ := h; subst e; rfl)
  | (obtain ⟨_, _, _, _, _, _, _, _, _, _, _, e, _⟩ := h; subst e; rfl)
  | (obtain ⟨_, _, _, _, _, _, _, _, _, _, _, _, e, _⟩ := h; subst e; rfl)
  | (obtain ⟨_, _, _, _, _, _, _, _, _, _, _, _, _, e, _⟩ := h; subst e; rfl)))
-- Ex H H' along the line
local macro_rules | `(tactic| walk_at "ex") => `(tactic| first
  | assumption
  | exact Same.refl _
  | (refine Same.trans ?_ (by assumption); walk_at "ex")
  | (refine Same.trans ?_ (ex_new (by assumption)); walk_at "ex"))
-- the world along the line
local macro_rules | `(tactic| walk_at "wd") => `(tactic| first
  | assumption
  | (refine Wd.ex ?_ (by assumption); walk_at "wd"))
local macro_rules | `(tactic| walk_at "xm") => `(tactic| first
  | assumption
  | exact ExM.refl _ _
  | (refine ExM.trans ?_ (by assumption); walk_at "xm")
  | (refine ExM.trans ?_ (ExM.of (by assumption)); walk_at "xm"))
-- an object of the law's own, along the line
local macro_rules | `(tactic| walk_at "ha") => `(tactic| first
  | assumption
  | (refine ex_at (by assumption) ?_; walk_at "ha")
  | (refine exm_lst (by assumption) (by first | assumption | exact Ne.symm (by assumption)) ?_; walk_at "ha")
  | (refine exm_tup (by assumption) (by first | assumption | exact Ne.symm (by assumption)) ?_; walk_at "ha")
  | (refine exm_dK (by assumption) (by first | assumption | exact Ne.symm (by assumption)) ?_; walk_at "ha")
  | (refine exm_ins (by assumption) (by first | assumption | exact Ne.symm (by assumption)) ?_; walk_at "ha"))
-- what stood stands
local macro_rules | `(tactic| walk_at "hp") => `(tactic| first
  | assumption
  | exact upd_same
  | (walk_at "ha"; done)
  | (refine ex_at (by assumption) ?_; walk_at "hp")
  | (refine ex_at (ex_new (by assumption)) ?_; walk_at "hp")
  | (rw [upd_ne (by first | assumption | exact Ne.symm (by assumption) | (intro z; subst z; simp_all))]; walk_at "hp"))
local macro_rules | `(tactic| walk_at "side") => `(tactic| first
  | ((with_reducible refine mwl ?_ ?_) <;> omega)
  | ((with_reducible refine mwr ?_ ?_) <;> omega)
  | ((with_reducible refine mw ?_ ?_ ?_ ?_) <;> omega)
  | ((with_reducible refine dw ?_ ?_) <;> omega)
  | ((try dsimp only); omega))
-- one step of a reading that has no choice
local macro_rules | `(tactic| walk_at "go0") => `(tactic| with_reducible first
  | refine i_seq ?_
  | refine v_0 ?_
  | refine v_1 ?_
  | refine v_2 ?_
  | refine v_3 ?_
  | refine v_4 ?_
  | refine v_5 ?_
  | refine v_6 ?_
  | refine v_7 ?_
  | refine v_8 ?_
  | refine v_9 ?_
  | refine v_10 ?_
  | refine v_11 ?_
  | refine v_12 ?_
  | refine v_13 ?_
  | refine v_14 ?_
  | refine v_15 ?_
  | refine v_16 ?_
  | refine v_17 ?_
  | refine v_18 ?_
  | refine v_19 ?_
  | refine v_20 ?_
  | refine v_21 ?_
  | refine v_22 ?_
  | refine v_23 ?_
  | refine v_24 ?_
  | refine v_25 ?_
  | refine i_c ?_
  | refine i_op ?_
  | refine i_I0 ?_
  | refine i_asg ?_
  | refine g_0 ?_
  | refine g_1 ?_
  | refine g_2 ?_
  | refine g_3 ?_
  | refine g_4 ?_
  | refine g_5 ?_
  | refine g_6 ?_
  | refine g_7 ?_
  | refine g_8 ?_
  | refine g_9 ?_
  | refine g_10 ?_
  | refine g_11 ?_
  | refine g_12 ?_
  | refine g_13 ?_
  | refine g_14 ?_
  | refine g_15 ?_
  | refine g_16 ?_
  | refine g_17 ?_
  | refine g_18 ?_
  | refine g_19 ?_
  | refine g_20 ?_
  | refine g_21 ?_
  | refine g_22 ?_
  | refine g_23 ?_
  | refine g_24 ?_
  | refine g_25 ?_
  | refine i_cons ?_
  | refine i_nil ?_
  | refine i_B ?_
  | refine i_exbl ?_
  | refine i_ifs ?_
  | refine i_ret ?_
  | refine i_T ?_
  | refine i_F ?_
  | refine i_NT ?_
  | refine i_NF ?_
  | refine i_iteNN ?_
  | refine i_test ?_
  | refine i_not ?_
  | refine i_and ?_
  | refine i_or ?_
  | refine i_eqI ?_
  | refine i_neI ?_
  | refine i_eqS ?_
  | refine i_neS ?_
  | refine i_cb ?_
  | refine i_callO ?_
  | refine i_callW ?_
  | refine i_abs ?_
  | refine i_int ?_
  | refine i_par ?_
  | refine i_par3 ?_
  | (refine i_ex2 ?_; dsimp only [List.set])
  | (refine i_ex3 ?_; dsimp only [List.set])
  | refine i_un ?_
  | refine i_for ?_
  | refine i_sl ?_
  | refine i_nopart ?_
  | refine i_part ?_
  | refine i_exint ?_
  | refine i_gsub ?_
  | refine i_gcons ?_
  | refine i_gnil ?_
  | refine i_bm ?_
  | refine i_bm0 ?_
  | refine i_body ?_
  | refine i_rng1 ?_
  | refine i_rng2 ?_
  | refine i_ilist ?_
  | refine i_itup ?_
  | refine i_exI1 ?_
  | refine i_exI2 ?_
  | refine i_lc ?_
  | refine i_U ?_
  | refine i_next ?_
  | refine i_drop ?_
  | refine i_if ?_
  | refine i_tup ?_
  | refine i_lst ?_
  | refine i_chain ?_
  | refine i_andv ?_
  | refine i_orv ?_
  | refine i_notv ?_
  | refine i_isn ?_
  | refine i_notn ?_
  | refine i_retn ?_
  | refine i_brk ?_
  | refine i_cont ?_)
local macro_rules | `(tactic| walk_at "go1") => `(tactic| first
  | walk_at "go0"
  | ((with_reducible apply i_pow); (refine ⟨?_, ?_, ?_⟩ <;> first | omega | decide); (simp only [Int.reduceToNat, Int.reducePow] <;> rfl))
  | ((with_reducible refine i_I ?_ ?_); walk_at "side")
  | ((with_reducible apply i_tyL); walk_at "hp")
  | ((with_reducible apply i_ixL); (walk_at "hp"); rfl)
  | ((with_reducible apply i_ixT); (walk_at "hp"); rfl)
  | ((with_reducible apply i_setL); (walk_at "hp"); rfl)
  | ((with_reducible apply i_gtup); (walk_at "hp"); rfl)
  | ((with_reducible apply i_lenL); walk_at "hp")
  | ((with_reducible apply i_lenT); walk_at "hp"))
local macro_rules | `(tactic| walk_at "go") => `(tactic| repeat walk_at "go1")
-- the beginning of a reading
local macro_rules | `(tactic| walk_at "start") => `(tactic| (simp only [L2.start, List.map_cons, List.map_nil, List.length_cons, List.length_nil, List.replicate, List.cons_append, List.nil_append, Nat.reduceAdd, Nat.reduceSub, Nat.zero_add, Nat.sub_self, Nat.sub_zero]; try dsimp only [cxOf]))

def bl : List Str := ["ValueError", "abs", "all", "bool", "int", "isinstance", "len", "min", "range", "repr"]
/-! ### the text -/
def topS (i : Nat) : Stmt := PySem.Challenge.pw_fieldplots_k19_whole_signs_of_great_numb.main.body.getD i (.Pass ⟨0, 0, 0, 0⟩)
abbrev s_is_integer : Stmt := topS 1
abbrev s_is_within : Stmt := topS 2
abbrev s_primes_of : Stmt := topS 3
abbrev s_is_prime : Stmt := topS 4
abbrev s_prime_sign : Stmt := topS 10
abbrev s_law_of_two : Stmt := topS 11
abbrev s__law_hand : Stmt := topS 13
abbrev s__law_draw : Stmt := topS 14
abbrev s__law_some : Stmt := topS 15
abbrev s__law_word : Stmt := topS 16
abbrev s__law_is_prime : Stmt := topS 17
abbrev s__law_prime : Stmt := topS 18
abbrev s__law_sign : Stmt := topS 19
abbrev s__law_number : Stmt := topS 20
abbrev s__law_is_right : Stmt := topS 21
abbrev s_law : Stmt := topS 22
def sp_is_integer : Sp := fun vs H Q _ => ∃ v, vs = [v] ∧ Thing H v ∧ Q (.bl (asInt v).isSome) H
theorem c_is_integer {H : Hp} {Q : VK} {E : XK} {v : V} (h : Thing H v) (q : Q (.bl (asInt v).isSome) H) : sp_is_integer [v] H Q E := ⟨v, rfl, h, q⟩

theorem sc_is_integer : FnScope ["thing"] ["thing"] (defScope s_is_integer) := ⟨rfl, rfl, rfl, by decide +kernel, rfl, by decide +kernel, by decide +kernel⟩
theorem ok_is_integer {P : Program} {w : World} {K : PySem.W.Frag} {mg : Str → Option Value} {base : Heap} {f : Addr} {fd : FuncData}  (D : Dn K mg "is_integer" s_is_integer ["thing"] f fd) (hB : ∀ x ∈ bl, mg x = none) : OkE P w K mg base 1 "is_integer" ["thing"] sp_is_integer := by
  refine D.ok sc_is_integer (by walk_at "len") (fun cdv A outer s H vs Q E hr h => ?_)
  obtain ⟨v, rfl, hv, q⟩ := h
  refine ⟨_, (pss_one (ps_ret (pe_and (pe_callB call_isi (by rfl) (hB "isinstance" (by decide)) (by decide +kernel) (pa_cons (pv 0) (pa_cons (pe_bltn (v := .ty "int") (by rfl) (hB "int" (by decide)) (by decide +kernel) rfl) pa_nil))) (pe_one (pe_not (pe_callB call_isi (by rfl) (hB "isinstance" (by decide)) (by decide +kernel) (pa_cons (pv 0) (pa_cons (pe_bltn (v := .ty "bool") (by rfl) (hB "bool" (by decide)) (by decide +kernel) rfl) pa_nil)))))))), ?_⟩
  walk_at "start"
  walk_at "go"
  cases hv with
  | non => exact i_isi (.base .non) (b := false) (by decide +kernel) (i_exbl (i_F q))
  | bl b => refine i_isi (.base (.bl b)) (b := true) (by decide +kernel) (i_exbl (i_T ?_)); walk_at "go"; exact i_isi (.base (.bl b)) (b := true) (by decide +kernel) (i_exbl q)
  | int i => refine i_isi (.base (.int i)) (b := true) (by decide +kernel) (i_exbl (i_T ?_)); walk_at "go"; exact i_isi (.base (.int i)) (b := false) (by decide +kernel) (i_exbl q)
  | str x => exact i_isi (.base (.str x)) (b := false) (by decide +kernel) (i_exbl (i_F q))
  | lst h => exact i_isi (.base (.lst h)) (b := false) (by decide +kernel) (i_exbl (i_F q))
  | tup h => exact i_isi (.base (.tup h)) (b := false) (by decide +kernel) (i_exbl (i_F q))


def inB (v : V) (a b : Int) : Bool := match asInt v with
  | some i => decide (a ≤ i) && decide (i ≤ b)
  | none => false
def sp_is_within : Sp := fun vs H Q _ => ∃ v a b, vs = [v, .int a, .int b] ∧ Thing H v ∧ Q (.bl (inB v a b)) H
theorem c_is_within {H : Hp} {Q : VK} {E : XK} {v : V} {a b : Int} (h : Thing H v) (q : Q (.bl (inB v a b)) H) : sp_is_within [v, .int a, .int b] H Q E := ⟨v, a, b, rfl, h, q⟩
theorem inB_int (i a b : Int) : inB (.int i) a b = (decide (a ≤ i) && decide (i ≤ b)) := rfl
theorem inB_true {v : V} {a b : Int} (h : inB v a b = true) : ∃ i, v = .int i ∧ a ≤ i ∧ i ≤ b := by
  cases v with
  | int i =>
    rw [inB_int, Bool.and_eq_true, decide_eq_true_eq, decide_eq_true_eq] at h
    exact ⟨i, rfl, h.1, h.2⟩
  | _ => cases h
theorem inB_yes {i a b : Int} (h1 : a ≤ i) (h2 : i ≤ b) : inB (.int i) a b = true := by rw [inB_int, decide_eq_true h1, decide_eq_true h2]; rfl
theorem inB_no {i a b : Int} (h : ¬ (a ≤ i ∧ i ≤ b)) : inB (.int i) a b = false := by
  rw [inB_int]
  by_cases h1 : a ≤ i
  · rw [decide_eq_true h1, decide_eq_false (fun z => h ⟨h1, z⟩)]; rfl
  · rw [decide_eq_false h1]; rfl

theorem sc_is_within : FnScope ["thing", "low", "high"] ["thing", "low", "high"] (defScope s_is_within) := ⟨rfl, rfl, rfl, by decide +kernel, rfl, by decide +kernel, by decide +kernel⟩
theorem ok_is_within {P : Program} {w : World} {K : PySem.W.Frag} {mg : Str → Option Value} {base : Heap} {f : Addr} {fd : FuncData}  (D : Dn K mg "is_within" s_is_within ["thing", "low", "high"] f fd) (G_is_integer : OkE P w K mg base 1 "is_integer" ["thing"] sp_is_integer) : OkE P w K mg base 2 "is_within" ["thing", "low", "high"] sp_is_within := by
  refine D.ok sc_is_within (by walk_at "len") (fun cdv A outer s H vs Q E hr h => ?_)
  obtain ⟨v, a, b, rfl, hv, q⟩ := h
  refine ⟨_, (pss_one (ps_ret (pe_and (pe_callO G_is_integer hr (by decide) (by rfl) passB (pa_cons (pv 0) pa_nil)) (pe_one (pe_chain op_le op_le (pv 1) (pv 0) (pv 2)))))), ?_⟩
  walk_at "start"
  walk_at "go"
  refine c_is_integer hv ?_
  walk_at "go"
  cases hv with
  | int i =>
    refine i_T ?_
    walk_at "go"
    refine i_ite (fun h1 => ?_) (fun h1 => ?_)
    · walk_at "go"
      rw [inB_int, decide_eq_true h1, Bool.true_and] at q
      exact q
    · rw [inB_int, decide_eq_false h1, Bool.false_and] at q
      exact q
  | _ => exact i_F q


theorem nv_ints (l : List Nat) : l.map nv = (l.map fun (n : Nat) => (n : Int)).map V.int := by rw [List.map_map]; rfl
def sp_primes_of : Sp := fun vs H Q _ => ∃ n : Nat, vs = [.int (n : Int)] ∧ (1 ≤ n ∧ n ≤ 10 ^ 9) ∧ ∀ p H', H p = none → Ex H H' → H' p = some (.lst ((primesOf n).map nv)) → Q (.ref p) H'
theorem c_primes_of {H : Hp} {Q : VK} {E : XK} {n : Nat} (h : 1 ≤ n ∧ n ≤ 10 ^ 9) (q : ∀ p H', H p = none → Ex H H' → H' p = some (.lst ((primesOf n).map nv)) → Q (.ref p) H') : sp_primes_of [.int (n : Int)] H Q E := ⟨n, rfl, h, q⟩
theorem asc_len : ∀ (l : List Nat) (lo hi : Nat), l.Pairwise (· < ·) → (∀ x ∈ l, lo ≤ x ∧ x < hi) → l.length ≤ hi - lo
  | [], _, _, _, _ => Nat.zero_le _
  | x :: t, lo, hi, hp, hb => by
    rw [List.pairwise_cons] at hp
    have h1 := hb x List.mem_cons_self
    have := asc_len t (x + 1) hi hp.2 fun y hy => ⟨hp.1 y hy, (hb y (List.mem_cons_of_mem _ hy)).2⟩
    rw [List.length_cons]; omega
theorem PInv.len {n : Nat} {found : List Nat} {rest p : Nat} (I : PInv n found rest p) : found.length ≤ p := by
  have := asc_len found 0 p I.asc fun x hx => ⟨Nat.zero_le _, ((I.mem x).mp hx).2.2⟩
  omega

theorem sc_primes_of : FnScope ["number", "found", "rest", "prime"] ["number"] (defScope s_primes_of) := ⟨rfl, rfl, rfl, by decide +kernel, rfl, by decide +kernel, by decide +kernel⟩
theorem ok_primes_of {P : Program} {w : World} {K : PySem.W.Frag} {mg : Str → Option Value} {base : Heap} {f : Addr} {fd : FuncData}  (D : Dn K mg "primes_of" s_primes_of ["number"] f fd) : OkE P w K mg base 1 "primes_of" ["number"] sp_primes_of := by
  refine D.ok sc_primes_of (by walk_at "len") (fun cdv A outer s H vs Q E hr h => ?_)
  obtain ⟨n, rfl, ⟨hn1, hn2⟩, q⟩ := h
  refine ⟨_, (pss_cons (ps_par3 (i := 1) (j := 2) (l := 3) (by rfl) sc_primes_of.nd rfl rfl rfl (by decide) (by decide) (by decide) rfl rfl rfl (pa_cons (pe_lst pa_nil) (pa_cons (pv 0) (pa_cons pe_int pa_nil))) (by rfl))
(pss_cons (ps_while (passes_of rfl) (pt_cmpR op_le (pe_op op_mulU (pv 3) (pv 3)) (pv 2) (nomark _)) (pss_cons (ps_if (pt_cmpR op_eq (pe_op op_mod (pv 2) (pv 3)) pe_int (nomark _)) (pss_cons (ps_expr (pe_bm PySem.F.plainAttrs_list PySem.F.slot_list_append PySem.F.type_list_append mt_append (pv 1) (pa_cons (pv 3) pa_nil)))
(pss_one (ps_while (passes_of rfl) (pt_cmpR op_eq (pe_op op_mod (pv 2) (pv 3)) pe_int (nomark _)) (pss_one (ps_set (i := 2) sc_primes_of.nd rfl (Or.inl rfl) (pe_op op_fdivW (pv 2) (pv 3))))))) pss_nil)
(pss_one (ps_set (i := 3) sc_primes_of.nd rfl (Or.inl rfl) (pe_op op_add (pv 3) pe_int)))))
(pss_cons (ps_if (pt_cmpR op_gt (pv 2) pe_int (nomark _)) (pss_one (ps_expr (pe_bm PySem.F.plainAttrs_list PySem.F.slot_list_append PySem.F.type_list_append mt_append (pv 1) (pa_cons (pv 2) pa_nil)))) pss_nil)
(pss_one (ps_ret (pv 1)))))), ?_⟩
  walk_at "start"
  walk_at "go"
  refine i_newL (lz rfl) (fun l H1 hl e1 hl1 => ?_)
  walk_at "go"
  refine i_while (fun (a : List Nat × Nat × Nat) => [some (.int (n : Int)), some (.ref l), some (.int (a.2.1 : Int)), some (.int (a.2.2 : Int))])
    (fun a H' => PInv n a.1 a.2.1 a.2.2 ∧ a.2.2 ≤ 31623 ∧ Ex H H' ∧ H' l = some (.lst (a.1.map nv))) (fun a => a.2.1 + 1 - a.2.2) ([], n, 2) rfl ⟨PInv.start hn1, by dsimp only; omega, e1, hl1⟩ ?_
  rintro ⟨fo, r, p⟩ H2 ⟨I, hp, e2, hl2⟩
  dsimp only at I hp hl2 ⊢
  have hr := Nat.le_of_dvd hn1 I.dvd
  have hp2 := I.p2
  walk_at "go"
  refine i_ite (fun hz => ?_) (fun hz => ?_)
  · have hz2 : p * p ≤ r := Int.ofNat_le.mp (by rw [Int.natCast_mul]; exact hz)
    have hp3 := sq_small hz2 (by omega)
    have hlt : p < r := by
      have : 2 * p ≤ p * p := Nat.mul_le_mul_right p hp2
      omega
    walk_at "go"
    refine i_ite (fun hd => ?_) (fun hd => ?_)
    · have hd2 := dvd_of_emod hd
      walk_at "go"
      refine i_append hl2 (by rw [List.length_map]; have := I.len; omega) ?_
      walk_at "go"
      refine i_while (fun (s : Nat × Nat) => [some (.int (n : Int)), some (.ref l), some (.int (s.1 : Int)), some (.int (p : Int))])
        (fun s H' => r = s.1 * p ^ s.2 ∧ H' = upd H2 l (.lst (fo.map nv ++ [.int (p : Int)]))) (fun s => s.1) (r, 0) rfl ⟨by dsimp only; rw [Nat.pow_zero, Nat.mul_one], rfl⟩ ?_
      rintro ⟨s, k⟩ H3 ⟨hs, rfl⟩
      dsimp only at hs ⊢
      have hs1 : 1 ≤ s := by
        rcases Nat.eq_zero_or_pos s with z | z
        · subst z; rw [Nat.zero_mul] at hs; have := I.r1; omega
        · exact z
      have hsr : s ≤ r := Nat.le_of_dvd I.r1 (hs ▸ Nat.dvd_mul_right _ _)
      walk_at "go"
      refine i_ite (fun hm => ?_) (fun hm => ?_)
      · have hm2 := dvd_of_emod hm
        walk_at "go"
        refine ⟨(s / p, k + 1), rfl, ⟨?_, rfl⟩, Nat.div_lt_self hs1 (by omega)⟩
        dsimp only
        rw [hs, Nat.pow_succ, Nat.mul_comm (p ^ k) p, ← Nat.mul_assoc, Nat.div_mul_cancel hm2]
      · have hm2 : ¬ p ∣ s := fun z => hm (emod_of_dvd z)
        walk_at "go"
        refine ⟨(fo ++ [p], s, p + 1), rfl, ⟨I.take hd2 k hs hm2, by dsimp only; omega, ex_upd hl e2, ?_⟩, by dsimp only; omega⟩
        rw [upd_same, List.map_append]; rfl
    · have hd2 : ¬ p ∣ r := fun z => hd (emod_of_dvd z)
      walk_at "go"
      exact ⟨(fo, r, p + 1), rfl, ⟨I.skip hd2, by dsimp only; omega, e2, hl2⟩, by dsimp only; omega⟩
  · have hz2 : r < p * p := by
      apply Classical.byContradiction
      intro c
      exact hz (by rw [← Int.natCast_mul]; exact Int.ofNat_le.mpr (by omega))
    have hdone := I.done hn1 hz2
    walk_at "go"
    refine i_ite (fun h1 => ?_) (fun h1 => ?_)
    · rw [if_pos (by omega)] at hdone
      walk_at "go"
      refine i_append hl2 (by rw [List.length_map]; have := I.len; omega) ?_
      walk_at "go"
      refine q l _ hl (ex_upd hl e2) ?_
      rw [upd_same, ← hdone, List.map_append]; rfl
    · rw [if_neg (by omega)] at hdone
      walk_at "go"
      refine q l _ hl e2 ?_
      rw [hl2, hdone]


def isPI (i : Int) : Bool := isPb i.toNat
theorem isPI_nat (n : Nat) : isPI (n : Int) = isPb n := rfl
def sp_is_prime : Sp := fun vs H Q _ => ∃ i : Int, vs = [.int i] ∧ i ≤ 10 ^ 9 ∧ ∀ H', Ex H H' → Q (.bl (isPI i)) H'
theorem c_is_prime {H : Hp} {Q : VK} {E : XK} {i : Int} (h : i ≤ 10 ^ 9) (q : ∀ H', Ex H H' → Q (.bl (isPI i)) H') : sp_is_prime [.int i] H Q E := ⟨i, rfl, h, q⟩

theorem sc_is_prime : FnScope ["number"] ["number"] (defScope s_is_prime) := ⟨rfl, rfl, rfl, by decide +kernel, rfl, by decide +kernel, by decide +kernel⟩
theorem ok_is_prime {P : Program} {w : World} {K : PySem.W.Frag} {mg : Str → Option Value} {base : Heap} {f : Addr} {fd : FuncData}  (D : Dn K mg "is_prime" s_is_prime ["number"] f fd) (G_primes_of : OkE P w K mg base 1 "primes_of" ["number"] sp_primes_of) : OkE P w K mg base 2 "is_prime" ["number"] sp_is_prime := by
  refine D.ok sc_is_prime (by walk_at "len") (fun cdv A outer s H vs Q E hr h => ?_)
  obtain ⟨i, rfl, hi, q⟩ := h
  refine ⟨_, (pss_one (ps_ret (pe_and (pe_cmpR op_gt (pv 0) pe_int (nomark _)) (pe_one (pe_cmpR (op_eqD hr.units) (pe_callO G_primes_of hr (by decide) (by rfl) passB (pa_cons (pv 0) pa_nil)) (pe_lst (pa_cons (pv 0) pa_nil)) (nomark _)))))), ?_⟩
  walk_at "start"
  walk_at "go"
  by_cases h1 : 1 < i
  · obtain ⟨n, rfl⟩ := Int.eq_ofNat_of_zero_le (show 0 ≤ i by omega)
    rw [decide_eq_true h1]
    walk_at "go"
    refine c_primes_of ⟨by omega, by omega⟩ (fun p H1 hp e1 hp1 => ?_)
    walk_at "go"
    refine i_newL (lz rfl) (fun l H2 hl e2 hl2 => ?_)
    refine i_eqLI (xs := (primesOf n).map fun (n : Nat) => (n : Int)) (ys := [(n : Int)]) (by rw [← nv_ints]; walk_at "hp") hl2 ?_
    have e : decide (((primesOf n).map fun (n : Nat) => (n : Int)) = [(n : Int)]) = isPI (n : Int) := by
      rw [isPI_nat]
      have h2 := primesOf_self (n := n) (by omega)
      by_cases h3 : IsP n
      · rw [(isPb_iff n).mpr h3, decide_eq_true]
        rw [h2.mpr h3]; rfl
      · have h4 : isPb n = false := by
          cases hb : isPb n
          · rfl
          · exact absurd ((isPb_iff n).mp hb) h3
        rw [h4, decide_eq_false]
        intro z
        refine h3 (h2.mp ?_)
        have z2 : (primesOf n).map (fun (n : Nat) => (n : Int)) = ([n] : List Nat).map fun (n : Nat) => (n : Int) := z
        exact (List.map_inj_right (fun a b hab => Int.ofNat.inj hab)).mp z2
    rw [e]
    exact q _ (e1.trans e2)
  · rw [decide_eq_false h1]
    have e : isPI i = false := by
      unfold isPI isPb
      rw [decide_eq_false (show ¬ 2 ≤ i.toNat by omega)]; rfl
    rw [e] at q
    exact i_F (q H (Same.refl H))


def isN30 (v : V) : Bool := match v with
  | .int i => decide (i.natAbs ≤ 10 ^ 30)
  | _ => false
def isP6 (v : V) : Bool := match v with
  | .int i => isPI i && decide (3 ≤ i ∧ i ≤ 10 ^ 6)
  | _ => false
theorem isP6_int {v : V} (h : isP6 v = true) : ∃ p : Nat, v = .int (p : Int) ∧ IsP p ∧ 3 ≤ p ∧ p ≤ 10 ^ 6 := by
  cases v with
  | int i =>
    have h2 : (isPI i && decide (3 ≤ i ∧ i ≤ 10 ^ 6)) = true := h
    rw [Bool.and_eq_true, decide_eq_true_eq] at h2
    have h3 := (isPb_iff i.toNat).mp h2.1
    refine ⟨i.toNat, ?_, h3, by omega, by omega⟩
    rw [Int.toNat_of_nonneg (by omega)]
  | _ => cases h
theorem isP6_nat {p : Nat} (h : IsP p) (h2 : 3 ≤ p ∧ p ≤ 10 ^ 6) : isP6 (.int (p : Int)) = true := by
  show (isPI (p : Int) && decide (3 ≤ (p : Int) ∧ (p : Int) ≤ 10 ^ 6)) = true
  rw [isPI_nat, (isPb_iff p).mpr h, decide_eq_true (by omega)]; rfl
theorem isP6_out {v : V} (h : inB v 3 (10 ^ 6) = false) : isP6 v = false := by
  cases v with
  | int i =>
    rw [inB_int] at h
    show (isPI i && decide (3 ≤ i ∧ i ≤ 10 ^ 6)) = false
    rw [decide_eq_false, Bool.and_false]
    intro z
    rw [decide_eq_true z.1, decide_eq_true z.2] at h
    cases h
  | _ => rfl
theorem isP6_in {i : Int} (h : 3 ≤ i ∧ i ≤ 10 ^ 6) : isP6 (.int i) = isPI i := by
  show (isPI i && decide (3 ≤ i ∧ i ≤ 10 ^ 6)) = _
  rw [decide_eq_true h, Bool.and_true]
def sp_prime_sign (C_BadNumber C_BadPrime : Addr) : Sp := fun vs H Q E => ∃ v u, vs = [v, u] ∧ Thing H v ∧ Thing H u ∧ (isN30 v = false → ∀ H', Ex H H' → E (.ref C_BadNumber) none H') ∧
  (isN30 v = true → isP6 u = false → ∀ H', Ex H H' → E (.ref C_BadPrime) none H') ∧
  (∀ (n : Int) (p : Nat), v = .int n → n.natAbs ≤ 10 ^ 30 → u = .int (p : Int) → isP6 u = true → ∀ H', Ex H H' → Q (.int (sgn n p)) H')
theorem c_sign {C1 C2 : Addr} {H : Hp} {Q : VK} {E : XK} {n : Int} {p : Nat} (hn : n.natAbs ≤ 10 ^ 30) (hp : isP6 (.int (p : Int)) = true) (q : ∀ H', Ex H H' → Q (.int (sgn n p)) H') : sp_prime_sign C1 C2 [.int n, .int (p : Int)] H Q E := by
  refine ⟨_, _, rfl, .int _, .int _, fun z => ?_, fun _ z => ?_, fun n' p' e1 _ e2 _ => ?_⟩
  · have : decide (n.natAbs ≤ 10 ^ 30) = false := z
    rw [decide_eq_true hn] at this
    cases this
  · rw [hp] at z
    cases z
  · cases e1
    have : (p : Int) = (p' : Int) := by injection e2
    have : p = p' := by omega
    subst this
    exact q
theorem odd_of {p : Nat} (h : IsP p) (h3 : 3 ≤ p) : p % 2 = 1 := by
  apply Classical.byContradiction
  intro c
  rcases h.2 2 (Nat.dvd_of_mod_eq_zero (by omega)) with z | z <;> omega

theorem sc_prime_sign : FnScope ["number", "prime", "rest", "found", "often"] ["number", "prime"] (defScope s_prime_sign) := ⟨rfl, rfl, rfl, by decide +kernel, rfl, by decide +kernel, by decide +kernel⟩
theorem ok_prime_sign {P : Program} {w : World} {K : PySem.W.Frag} {mg : Str → Option Value} {base : Heap} {f : Addr} {fd : FuncData} {C_BadNumber : Addr} {C_BadPrime : Addr} (D : Dn K mg "prime_sign" s_prime_sign ["number", "prime"] f fd) (hB : ∀ x ∈ bl, mg x = none) (G_is_integer : OkE P w K mg base 1 "is_integer" ["thing"] sp_is_integer) (G_is_prime : OkE P w K mg base 2 "is_prime" ["number"] sp_is_prime) (G_is_within : OkE P w K mg base 2 "is_within" ["thing", "low", "high"] sp_is_within) (x_BadNumber : ErrC K mg "BadNumber" C_BadNumber) (x_BadPrime : ErrC K mg "BadPrime" C_BadPrime) : OkE P w K mg base 3 "prime_sign" ["number", "prime"] (sp_prime_sign C_BadNumber C_BadPrime) := by
  refine D.ok sc_prime_sign (by walk_at "len") (fun cdv A outer s H vs Q E hr h => ?_)
  obtain ⟨v, u, rfl, hv, hu, q1, q2, q3⟩ := h
  refine ⟨_, (pss_cons (ps_if (PW.pt (pw_or (pt_not (pt_val (pe_callO G_is_integer hr (by decide) (by rfl) passB (pa_cons (pv 0) pa_nil)))) (pw_or1 (pt_cmpR op_gt (pe_callB cr_abs (by rfl) (hB "abs" (by decide)) (by decide +kernel) (pa_cons (pv 0) pa_nil)) (pe_op op_pow pe_int pe_int) (nomark _))))) (pss_one (ps_raise rfl (takes_of rfl rfl rfl rfl) (pmk_own0 x_BadNumber (by rfl)))) pss_nil)
(pss_cons (ps_if (PW.pt (pw_or (pt_not (pt_val (pe_callO G_is_within hr (by decide) (by rfl) passB (pa_cons (pv 1) (pa_cons pe_int (pa_cons (pe_op op_pow pe_int pe_int) pa_nil)))))) (pw_or1 (pt_not (pt_val (pe_callO G_is_prime hr (by decide) (by rfl) passB (pa_cons (pv 1) pa_nil))))))) (pss_one (ps_raise rfl (takes_of rfl rfl rfl rfl) (pmk_own0 x_BadPrime (by rfl)))) pss_nil)
(pss_cons (ps_par3 (i := 2) (j := 3) (l := 4) (by rfl) sc_prime_sign.nd rfl rfl rfl (by decide) (by decide) (by decide) rfl rfl rfl (pa_cons (pe_op op_mod (pv 0) (pv 1)) (pa_cons pe_int (pa_cons (pe_op op_fdivW (pe_op op_sub (pv 1) pe_int) pe_int) pa_nil))) (by rfl))
(pss_cons (ps_if (pt_cmpR op_eq (pv 2) pe_int (nomark _)) (pss_one (ps_ret pe_int)) pss_nil)
(pss_cons (ps_while (passes_of rfl) (pt_cmpR op_gt (pv 4) pe_int (nomark _)) (pss_cons (ps_if (pt_cmpR op_eq (pe_op op_mod (pv 4) pe_int) pe_int (nomark _)) (pss_one (ps_set (i := 3) sc_prime_sign.nd rfl (Or.inl rfl) (pe_op op_mod (pe_op op_mulU (pv 3) (pv 2)) (pv 1)))) pss_nil)
(pss_one (ps_par (i := 2) (j := 4) (by rfl) sc_prime_sign.nd rfl rfl (by decide) rfl rfl (pa_cons (pe_op op_mod (pe_op op_mulU (pv 2) (pv 2)) (pv 1)) (pa_cons (pe_op op_fdivW (pv 4) pe_int) pa_nil)) (by rfl)))))
(pss_one (ps_ret (pe_ifExp (pt_cmpR op_eq (pv 3) pe_int (nomark _)) pe_int (pe_un un_neg pe_int))))))))), ?_⟩
  walk_at "start"
  walk_at "go"
  refine c_is_integer hv ?_
  walk_at "go"
  have hbad : isN30 v = false → (sp_prime_sign C_BadNumber C_BadPrime [v, u] H Q E) := fun z => ⟨v, u, rfl, hv, hu, q1, q2, q3⟩
  cases ha : asInt v with
  | none =>
    have hz : isN30 v = false := by cases v <;> first | rfl | cases ha
    walk_at "go"
    exact q1 hz _ (Same.refl _)
  | some i =>
    have hvi : v = .int i := by
      cases v with
      | int j => cases ha; rfl
      | _ => cases ha
    subst hvi
    walk_at "go"
    simp only [Option.isSome_some, Bool.not_true, Bool.false_eq_true, if_false]
    walk_at "go"
    refine i_ite (fun h1 => ?_) (fun h1 => ?_)
    · walk_at "go"
      exact q1 (decide_eq_false (by omega)) _ (Same.refl _)
    have hn : i.natAbs ≤ 10 ^ 30 := by omega
    have hN : isN30 (.int i) = true := decide_eq_true hn
    have q2' := q2 hN
    clear q1 q2 hbad
    walk_at "go"
    refine c_is_within hu ?_
    walk_at "go"
    refine i_iteNb (fun h2 => ?_) (fun h2 => ?_)
    · exact i_T (q2' (isP6_out h2) _ (Same.refl _))
    obtain ⟨m, rfl, hm⟩ := inB_true h2
    obtain ⟨p, rfl⟩ := Int.eq_ofNat_of_zero_le (show 0 ≤ m by omega)
    walk_at "go"
    refine c_is_prime (by omega) (fun H1 e1 => ?_)
    walk_at "go"
    refine i_iteNb (fun h4 => ?_) (fun h4 => ?_)
    · exact q2' (by rw [isP6_in hm]; exact h4) _ e1
    have hP6 : isP6 (.int (p : Int)) = true := by rw [isP6_in hm]; exact h4
    have q := q3 i p rfl hn rfl hP6
    clear q2' q3
    have h3 : 3 ≤ p := by omega
    walk_at "go"
    rw [show ((p : Int) - 1) / 2 = (((p - 1) / 2 : Nat) : Int) by omega]
    refine i_ite (fun h0 => ?_) (fun h0 => ?_)
    · walk_at "go"
      have q := q H1 e1
      rw [sgn_zero h0] at q
      exact q
    walk_at "go"
    have st : SqInv (p : Int) (i ^ ((p - 1) / 2) % (p : Int)) 1 (i % (p : Int)) ((((p - 1) / 2 : Nat) : Int)) := by
      have := SqInv.start (a := i) (m := (p : Int)) (e := (((p - 1) / 2 : Nat) : Int)) (by omega) (by omega)
      rw [Int.emod_eq_of_lt (by decide) (show (1 : Int) < (p : Int) by omega), Int.toNat_natCast] at this
      exact this
    refine i_while (fun (s : Int × Int × Int) => [some (.int i), some (.int (p : Int)), some (.int s.2.1), some (.int s.1), some (.int s.2.2)]) (fun s H' => SqInv (p : Int) (i ^ ((p - 1) / 2) % (p : Int)) s.1 s.2.1 s.2.2 ∧ Ex H H') (fun s => s.2.2.toNat) (1, i % (p : Int), (((p - 1) / 2 : Nat) : Int)) rfl ⟨st, e1⟩ ?_
    rintro ⟨x, y, z⟩ H3 ⟨I, e3⟩
    dsimp only at I ⊢
    have := I.e0; have := I.f0; have := I.fm; have := I.b0; have := I.bm
    walk_at "go"
    refine i_ite (fun hz => ?_) (fun hz => ?_)
    · walk_at "go"
      refine i_ite (fun ho => ?_) (fun ho => ?_)
      · walk_at "go"
        exact ⟨(x * y % p, y * y % p, z / 2), rfl, ⟨I.odd (by omega) ho, e3⟩, by dsimp only; omega⟩
      · walk_at "go"
        exact ⟨(x, y * y % p, z / 2), rfl, ⟨I.even (by omega) ho, e3⟩, by dsimp only; omega⟩
    · have hd := I.done hz
      have q := q H3 e3
      unfold sgn at q
      rw [if_neg h0, ← hd] at q
      walk_at "go"
      refine i_ite (fun h1 => ?_) (fun h1 => ?_)
      · walk_at "go"
        rw [if_pos h1] at q
        exact q
      · walk_at "go"
        rw [if_neg h1] at q
        exact q


def sp_law_of_two (C_BadNumber C_BadPrime : Addr) : Sp := fun vs H Q E => ∃ v u, vs = [v, u] ∧ Thing H v ∧ Thing H u ∧ ((isP6 v && isP6 u) = false → ∀ H', Ex H H' → E (.ref C_BadPrime) none H') ∧
  (∀ p : Nat, v = .int (p : Int) → u = .int (p : Int) → isP6 v = true → ∀ H', Ex H H' → E (.ref C_BadPrime) none H') ∧
  (∀ p q : Nat, v = .int (p : Int) → u = .int (q : Int) → isP6 v = true → isP6 u = true → p ≠ q → ∀ t H', H t = none → Ex H H' → H' t = some (.tup [.int (sgn p q), .int (sgn q p), .bl (decide (p % 4 = 3 ∧ q % 4 = 3))]) → Q (.ref t) H')

theorem sc_law_of_two : FnScope ["one", "other", "prime"] ["one", "other"] (defScope s_law_of_two) := ⟨rfl, rfl, rfl, by decide +kernel, rfl, by decide +kernel, by decide +kernel⟩
theorem ok_law_of_two {P : Program} {w : World} {K : PySem.W.Frag} {mg : Str → Option Value} {base : Heap} {f : Addr} {fd : FuncData} {C_BadNumber : Addr} {C_BadPrime : Addr} (D : Dn K mg "law_of_two" s_law_of_two ["one", "other"] f fd) (G_is_prime : OkE P w K mg base 2 "is_prime" ["number"] sp_is_prime) (G_is_within : OkE P w K mg base 2 "is_within" ["thing", "low", "high"] sp_is_within) (G_prime_sign : OkE P w K mg base 3 "prime_sign" ["number", "prime"] (sp_prime_sign C_BadNumber C_BadPrime)) (x_BadPrime : ErrC K mg "BadPrime" C_BadPrime) : OkE P w K mg base 4 "law_of_two" ["one", "other"] (sp_law_of_two C_BadNumber C_BadPrime) := by
  refine D.ok sc_law_of_two (by walk_at "len") (fun cdv A outer s H vs Q E hr h => ?_)
  obtain ⟨v, u, rfl, hv, hu, q1, q2, q3⟩ := h
  refine ⟨_, (pss_cons (ps_for (passes_of rfl) rfl (pi_tup (pe_tup (pa_cons (pv 0) (pa_cons (pv 1) pa_nil)))) (pg_name (i := 2) sc_law_of_two.nd rfl (Or.inl rfl)) (pss_one (ps_if (PW.pt (pw_or (pt_not (pt_val (pe_callO G_is_within hr (by decide) (by rfl) passB (pa_cons (pv 2) (pa_cons pe_int (pa_cons (pe_op op_pow pe_int pe_int) pa_nil)))))) (pw_or1 (pt_not (pt_val (pe_callO G_is_prime hr (by decide) (by rfl) passB (pa_cons (pv 2) pa_nil))))))) (pss_one (ps_raise rfl (takes_of rfl rfl rfl rfl) (pmk_own0 x_BadPrime (by rfl)))) pss_nil)))
(pss_cons (ps_if (pt_cmpR op_eq (pv 0) (pv 1) (nomark _)) (pss_one (ps_raise rfl (takes_of rfl rfl rfl rfl) (pmk_own0 x_BadPrime (by rfl)))) pss_nil)
(pss_one (ps_ret (pe_tup (pa_cons (pe_callO G_prime_sign hr (by decide) (by rfl) passB (pa_cons (pv 0) (pa_cons (pv 1) pa_nil))) (pa_cons (pe_callO G_prime_sign hr (by decide) (by rfl) passB (pa_cons (pv 1) (pa_cons (pv 0) pa_nil))) (pa_cons (pe_and (pe_cmpR op_eq (pe_op op_mod (pv 0) pe_int) pe_int (nomark _)) (pe_one (pe_cmpR op_eq (pe_op op_mod (pv 1) pe_int) pe_int (nomark _)))) pa_nil)))))))), ?_⟩
  walk_at "start"
  walk_at "go"
  refine i_newT (lz rfl) (fun T H1 hT e1 hT1 => ?_)
  refine i_exT (sqt_of hT1) ?_
  refine forT (fun i (s : Option V) => [some v, some u, s]) (fun i s H' => Ex H1 H' ∧ (1 ≤ i → isP6 v = true) ∧ (2 ≤ i → isP6 u = true)) none rfl ⟨Same.refl _, fun h => absurd h (by decide), fun h => absurd h (by decide)⟩
    (fun i s H' p => sqt_of (p.1 _ _ hT1)) (fun i x s H3 hx ⟨e3, p1, p2⟩ => ?_) (fun s H3 ⟨e3, p1, p2⟩ => ?_)
  · have hx' : Thing H3 x ∧ ((i = 0 ∧ x = v) ∨ (i = 1 ∧ x = u)) := by
      match i, hx with
      | 0, hx => cases hx; exact ⟨(hv.ex e1).ex e3, .inl ⟨rfl, rfl⟩⟩
      | 1, hx => cases hx; exact ⟨(hu.ex e1).ex e3, .inr ⟨rfl, rfl⟩⟩
      | i + 2, hx => exact absurd hx (by simp)
    have bad : isP6 x = false → (isP6 v && isP6 u) = false := fun z => by
      rcases hx'.2 with ⟨_, y⟩ | ⟨_, y⟩
      · subst y; rw [z]; rfl
      · subst y; rw [z, Bool.and_false]
    have good : isP6 x = true → (1 ≤ i + 1 → isP6 v = true) ∧ (2 ≤ i + 1 → isP6 u = true) := fun z => by
      rcases hx'.2 with ⟨y1, y⟩ | ⟨y1, y⟩
      · subst y; exact ⟨fun _ => z, fun k => by omega⟩
      · subst y; exact ⟨fun _ => p1 (by omega), fun _ => z⟩
    walk_at "go"
    refine c_is_within hx'.1 ?_
    walk_at "go"
    refine i_iteNb (fun h2 => ?_) (fun h2 => ?_)
    · exact i_T (q1 (bad (isP6_out h2)) _ (e1.trans e3))
    obtain ⟨m, rfl, hm⟩ := inB_true h2
    walk_at "go"
    refine c_is_prime (by omega) (fun H4 e4 => ?_)
    walk_at "go"
    refine i_iteNb (fun h4 => ?_) (fun h4 => ?_)
    · exact q1 (bad (by rw [isP6_in hm]; exact h4)) _ (e1.trans (e3.trans e4))
    · have g := good (by rw [isP6_in hm]; exact h4)
      walk_at "go"
      exact ⟨_, rfl, e3.trans e4, g⟩
  · have h3 := p1 (Nat.le_of_ble_eq_true rfl)
    have h4 := p2 (Nat.le_of_ble_eq_true rfl)
    obtain ⟨p, rfl, hp, hp3, hp6⟩ := isP6_int h3
    obtain ⟨r, rfl, hr', hr3, hr6⟩ := isP6_int h4
    walk_at "go"
    refine i_ite (fun h5 => ?_) (fun h5 => ?_)
    · walk_at "go"
      have : p = r := by omega
      subst this
      exact q2 p rfl rfl h3 _ (e1.trans e3)
    · have hne : p ≠ r := fun z => h5 (by rw [z])
      walk_at "go"
      refine c_sign (by omega) h4 (fun H4 e4 => ?_)
      walk_at "go"
      refine c_sign (by omega) h3 (fun H5 e5 => ?_)
      walk_at "go"
      have e45 := e1.trans (e3.trans (e4.trans e5))
      have dd : ∀ b : Bool, b = decide (p % 4 = 3 ∧ r % 4 = 3) → NewT [V.int (sgn (p : Int) r), V.int (sgn (r : Int) p), V.bl b] H5 Q := fun b hb => by
        subst hb
        exact i_newT (lz rfl) (fun t H6 ht e6 ht6 => q3 p r rfl rfl h3 h4 hne t H6 (ex_no e45 ht) (e45.trans e6) ht6)
      refine i_ite (fun h7 => ?_) (fun h7 => ?_)
      · walk_at "go"
        refine dd _ ?_
        by_cases h8 : (r : Int) % 4 = 3
        · rw [decide_eq_true h8, decide_eq_true ⟨by omega, by omega⟩]
        · rw [decide_eq_false h8, decide_eq_false (fun z => h8 (by omega))]
      · walk_at "go"
        refine dd _ ?_
        rw [decide_eq_false (fun z => h7 (by omega))]


def sp__law_hand (K : PySem.W.Frag) : Sp := fun vs H Q _ => ∃ (a : Addr) (ns : List Int), vs = [.ref a] ∧ SqL K H a (ns.map V.int) ∧ ns.length ≤ 63 ∧ ∀ p H', H p = none → Ex H H' → HandAt H' p → Q (.ref p) H'

theorem sc__law_hand : FnScope ["script", "cells", "cell"] ["script"] (defScope s__law_hand) := ⟨rfl, rfl, rfl, by decide +kernel, rfl, by decide +kernel, by decide +kernel⟩
theorem ok__law_hand {P : Program} {w : World} {K : PySem.W.Frag} {mg : Str → Option Value} {base : Heap} {f : Addr} {fd : FuncData}  (D : Dn K mg "_law_hand" s__law_hand ["script"] f fd) (hB : ∀ x ∈ bl, mg x = none) : OkE P w K mg base 1 "_law_hand" ["script"] (sp__law_hand K) := by
  refine D.ok sc__law_hand (by walk_at "len") (fun cdv A outer s H vs Q E hr h => ?_)
  obtain ⟨a, ns, rfl, hS, hl, q⟩ := h
  refine ⟨_, (pss_cons (ps_setLc (i := 1) (own := [("cell", 2)]) (by rfl) sc__law_hand.nd rfl rfl (sw_true rfl rfl rfl (by decide +kernel)) (pi_list (pe_slice sl_list (pv 0) po_none (po_some pe_int))) (blkOk_by (N := ["script", "cells", "cell"]) (sc := defScope s__law_hand) (by decide +kernel)) (fun _ _ _ _ _ => (pg_name (i := 2) sc__law_hand.nd rfl (Or.inl rfl))) (fun _ _ _ _ _ => pts_nil) (fun _ _ _ _ _ => (pe_op op_mod (pe_callTy cr_int1 (by rfl) (hB "int" (by decide)) (by decide +kernel) (pa_cons (pe_callB cr_abs (by rfl) (hB "abs" (by decide)) (by decide +kernel) (pa_cons (pe_callTy cr_int1 (by rfl) (hB "int" (by decide)) (by decide +kernel) (pa_cons (pv 2) pa_nil)) pa_nil)) pa_nil)) (pe_op op_pow pe_int pe_int))))
(pss_one (ps_ret (pe_lst (pa_cons (pv 1) (pa_cons pe_int (pa_cons pe_int (pa_cons (pe_op op_add pe_int (pe_op op_mulU pe_int (pe_callB cr_lenS (by rfl) (hB "len" (by decide)) (by decide +kernel) (pa_cons (pv 1) pa_nil)))) (pa_cons pe_int pa_nil))))))))), ?_⟩
  walk_at "start"
  walk_at "go"
  refine i_slL hS (fun c H1 hc e1 hc1 => ?_)
  rw [cut_map] at hc1
  generalize hys : (ns.drop (HT.sIx ns.length 0 none)).take (HT.sIx ns.length ns.length (some 63) - HT.sIx ns.length 0 none) = ys at hc1
  have hyl : ys.length ≤ 63 := by
    rw [← hys, List.length_take, List.length_drop]; omega
  refine i_exL (sql_of hc1) ?_
  refine lcL (xs := ys.map V.int) (fun _ x => match x with | .int n => .int ((n.natAbs : Int) % 10 ^ 36) | _ => .non) (sql_of hc1) (by rw [List.length_map]; omega) (fun i x H' R hi e k => ?_) (fun D H2 hD e2 hD2 => ?_)
  · rw [List.getElem?_map] at hi
    obtain ⟨n, hn, rfl⟩ := Option.map_eq_some_iff.mp hi
    simp only [wipe, List.set]
    walk_at "go"
    refine ⟨rfl, ?_⟩
    walk_at "go"
    exact k _ (Same.refl _)
  · have hD3 : H2 D = some (.lst ((ys.map fun n => ((n.natAbs : Int) % 10 ^ 36)).map V.int)) := by
      rw [hD2]
      congr 2
      apply List.ext_getElem?
      intro i
      rw [List.getElem?_mapIdx, List.getElem?_map, List.getElem?_map, List.getElem?_map]
      cases ys[i]? <;> rfl
    walk_at "go"
    refine i_newL (lz rfl) (fun p H3 hp e3 hp3 => ?_)
    refine q p H3 (ex_no (e1.trans e2) hp) (e1.trans (e2.trans e3)) ?_
    refine HandAt.of hp3 (ne_of_none hD2 hp) (e3 _ _ hD3) (by decide) (by decide) ?_ (by decide) ?_
    · rw [List.length_map, List.length_map]; omega
    · intro x hx
      obtain ⟨n, _, rfl⟩ := List.mem_map.mp hx
      have := Int.emod_nonneg (n.natAbs : Int) (show (10 ^ 36 : Int) ≠ 0 by decide)
      have := Int.emod_lt_of_pos (n.natAbs : Int) (show (0 : Int) < 10 ^ 36 by decide)
      omega


def sp__law_draw : Sp := fun vs H Q _ => ∃ (T : List (Addr × Str)) (p : Addr) (n : Int), vs = [.ref p, .int n] ∧ Wd T H p ∧ (0 < n ∧ n < 10 ^ 50) ∧ ∀ x H', 0 ≤ x → x < n → Wd T H' p → ExM p H H' → Q (.int x) H'
theorem c_draw {T : List (Addr × Str)} {H : Hp} {Q : VK} {E : XK} {p : Addr} {n : Int} (w : Wd T H p) (h0 : 0 < n) (h1 : n < 10 ^ 50) (q : ∀ x H', 0 ≤ x → x < n → Wd T H' p → ExM p H H' → Q (.int x) H') : sp__law_draw [.ref p, .int n] H Q E := ⟨T, p, n, rfl, w, ⟨h0, h1⟩, q⟩
theorem hand_upd {T : List (Addr × Str)} {H : Hp} {p c : Addr} {i d m k i' d' m' k' : Int} {cells : List Int} (t : LamX.Tabs T H) (e1 : H p = some (.lst [.ref c, .int i, .int d, .int m, .int k])) (hc : c ≠ p) (e2 : H c = some (.lst (cells.map V.int))) (hx : ∀ x ∈ cells, 0 ≤ x ∧ x < 10 ^ 40)
    (hi : 0 ≤ i') (hd : 0 ≤ d' ∧ d' < 10 ^ 40) (hm : 0 ≤ m' ∧ m' < 10 ^ 20) (hk : 0 ≤ k') : Wd T (upd H p (.lst [.ref c, .int i', .int d', .int m', .int k'])) p ∧ ExM p H (upd H p (.lst [.ref c, .int i', .int d', .int m', .int k'])) :=
  ⟨⟨HandAt.of upd_same hc (by rw [upd_ne hc]; exact e2) hi hd hm hk hx, tabs_but e1 t fun a o ha q => by rw [upd_ne ha]; exact q⟩, fun a o ha _ q => by rw [upd_ne ha]; exact q, fun c' r q => ⟨_, by rw [e1] at q; cases q; exact upd_same⟩⟩

theorem sc__law_draw : FnScope ["hand", "many", "cell", "digit", "number"] ["hand", "many"] (defScope s__law_draw) := ⟨rfl, rfl, rfl, by decide +kernel, rfl, by decide +kernel, by decide +kernel⟩
theorem ok__law_draw {P : Program} {w : World} {K : PySem.W.Frag} {mg : Str → Option Value} {base : Heap} {f : Addr} {fd : FuncData}  (D : Dn K mg "_law_draw" s__law_draw ["hand", "many"] f fd) (hB : ∀ x ∈ bl, mg x = none) : OkE P w K mg base 1 "_law_draw" ["hand", "many"] sp__law_draw := by
  refine D.ok sc__law_draw (by walk_at "len") (fun cdv A outer s H vs Q E hr h => ?_)
  obtain ⟨T, p, n, rfl, w, ⟨h0, h1⟩, q⟩ := h
  refine ⟨_, (C8.pss_cut (ps_if (PW.pt (pw_and (pt_cmpR op_eq (pe_ix ix_seq (pv 0) pe_int (fun _ _ => rfl)) pe_int (nomark _)) (pw_and1 (pt_cmpR op_lt (pe_ix ix_seq (pv 0) pe_int (fun _ _ => rfl)) (pe_callB cr_lenS (by rfl) (hB "len" (by decide)) (by decide +kernel) (pa_cons (pe_ix ix_seq (pv 0) pe_int (fun _ _ => rfl)) pa_nil)) (nomark _))))) (pss_cons (ps_set (i := 2) sc__law_draw.nd rfl (Or.inl rfl) (pe_ix ix_seq (pe_ix ix_seq (pv 0) pe_int (fun _ _ => rfl)) (pe_ix ix_seq (pv 0) pe_int (fun _ _ => rfl)) (fun _ _ => rfl)))
(pss_cons (ps_asg (pe_op op_add (pe_ix ix_seq (pv 0) pe_int (fun _ _ => rfl)) pe_int) (pg_sub (pv 0) pe_int set_list))
(pss_cons (ps_asg (pe_op op_mod (pe_callTy cr_int1 (by rfl) (hB "int" (by decide)) (by decide +kernel) (pa_cons (pe_op op_add (pe_op op_add (pe_op op_mulU (pe_ix ix_seq (pv 0) pe_int (fun _ _ => rfl)) pe_int) (pe_op op_mulU (pv 2) pe_int)) pe_int) pa_nil)) pe_int) (pg_sub (pv 0) pe_int set_list))
(pss_one (ps_asg (pe_ifExp (pt_cmpR op_ge (pv 2) (pe_op op_pow pe_int pe_int) (nomark _)) (pv 2) pe_int) (pg_sub (pv 0) pe_int set_list)))))) pss_nil)
(pss_cons (ps_if (pt_cmpR op_gt (pe_ix ix_seq (pv 0) pe_int (fun _ _ => rfl)) pe_int (nomark _)) (pss_cons (ps_set (i := 3) sc__law_draw.nd rfl (Or.inl rfl) (pe_op op_mod (pe_callTy cr_int1 (by rfl) (hB "int" (by decide)) (by decide +kernel) (pa_cons (pe_ix ix_seq (pv 0) pe_int (fun _ _ => rfl)) pa_nil)) (pv 1)))
(pss_cons (ps_asg (pe_op op_fdivW (pe_ix ix_seq (pv 0) pe_int (fun _ _ => rfl)) (pv 1)) (pg_sub (pv 0) pe_int set_list))
(pss_one (ps_ret (pv 3))))) pss_nil)
(pss_cons (ps_asg (pe_op op_add (pe_ix ix_seq (pv 0) pe_int (fun _ _ => rfl)) pe_int) (pg_sub (pv 0) pe_int set_list))
(pss_cons (ps_set (i := 4) sc__law_draw.nd rfl (Or.inl rfl) (pe_op op_mod (pe_callTy cr_int1 (by rfl) (hB "int" (by decide)) (by decide +kernel) (pa_cons (pe_op op_mulU (pe_callTy cr_int1 (by rfl) (hB "int" (by decide)) (by decide +kernel) (pa_cons (pe_op op_add (pe_ix ix_seq (pv 0) pe_int (fun _ _ => rfl)) (pe_op op_mulU pe_int (pe_ix ix_seq (pv 0) pe_int (fun _ _ => rfl)))) pa_nil)) pe_int) pa_nil)) pe_int))
(pss_cons (ps_set (i := 4) sc__law_draw.nd rfl (Or.inl rfl) (pe_op op_mod (pe_callTy cr_int1 (by rfl) (hB "int" (by decide)) (by decide +kernel) (pa_cons (pe_op op_mulU (pv 4) (pe_op op_add (pe_op op_fdivW (pv 4) pe_int) pe_int)) pa_nil)) pe_int))
(pss_one (ps_ret (pe_op op_mod (pe_callTy cr_int1 (by rfl) (hB "int" (by decide)) (by decide +kernel) (pa_cons (pe_op op_fdivW (pv 4) pe_int) pa_nil)) (pv 1))))))))), ?_⟩
  walk_at "start"
  refine i_cut (fun σ' H' => ∃ x, σ' = [some (.ref p), some (.int n), x, none, none] ∧ Wd T H' p ∧ ExM p H H') ?_ ?_
  · obtain ⟨c, i, d, m, k, cells, e1, hc, e2, hi, hd, hm, hk, hx⟩ := w.hand.ex
    walk_at "go"
    refine i_ite (fun hd0 => ?_) (fun hd0 => ?_)
    · walk_at "go"
      refine i_ite (fun hl => ?_) (fun hl => ?_)
      · obtain ⟨j, rfl⟩ := Int.eq_ofNat_of_zero_le hi
        rw [List.length_map] at hl
        have hj : j < cells.length := by omega
        have hcell := hx _ (List.getElem_mem hj)
        walk_at "go"
        refine i_ixL e2 (atI_nat (by rw [List.getElem?_map, List.getElem?_eq_getElem hj]; rfl)) ?_
        generalize cells[j] = x at hcell
        walk_at "go"
        refine i_ite (fun hb => ?_) (fun hb => ?_)
        · walk_at "go"
          refine ⟨_, rfl, ?_⟩
          simp only [upd_upd]
          exact hand_upd w.tabs e1 hc e2 hx (by omega) (by omega) ⟨Int.emod_nonneg _ (by decide), by have := Int.emod_lt_of_pos (m * 69621 + x * 48271 + 37) (show (0 : Int) < 2147483587 by decide); omega⟩ hk
        · walk_at "go"
          refine ⟨_, rfl, ?_⟩
          simp only [upd_upd]
          exact hand_upd w.tabs e1 hc e2 hx (by omega) (by omega) ⟨Int.emod_nonneg _ (by decide), by have := Int.emod_lt_of_pos (m * 69621 + x * 48271 + 37) (show (0 : Int) < 2147483587 by decide); omega⟩ hk
      · walk_at "go"
        exact ⟨_, rfl, w, ExM.refl _ _⟩
    · walk_at "go"
      exact ⟨_, rfl, w, ExM.refl _ _⟩
  · rintro σ' H1 ⟨x, rfl, w1, x1⟩
    obtain ⟨c, i, d, m, k, cells, e1, hc, e2, hi, hd, hm, hk, hx⟩ := w1.hand.ex
    walk_at "go"
    refine i_ite (fun hd0 => ?_) (fun hd0 => ?_)
    · walk_at "go"
      have hq := Int.ediv_nonneg hd.1 (show 0 ≤ n by omega)
      have hq2 := Int.ediv_le_self n hd.1
      obtain ⟨w2, x2⟩ := hand_upd (i' := i) (d' := d / n) (m' := m) (k' := k) w1.tabs e1 hc e2 hx hi ⟨hq, by omega⟩ hm hk
      exact q _ _ (Int.emod_nonneg _ (by omega)) (Int.emod_lt_of_pos _ h0) w2 (x1.trans x2)
    · walk_at "go"
      obtain ⟨w2, x2⟩ := hand_upd (i' := i) (d' := d) (m' := m) (k' := k + 1) w1.tabs e1 hc e2 hx hi hd hm (by omega)
      have hb := Int.emod_nonneg ((m + 7879 * (k + 1)) * 40692) (show (2147483399 : Int) ≠ 0 by decide)
      have hb2 := Int.emod_lt_of_pos ((m + 7879 * (k + 1)) * 40692) (show (0 : Int) < 2147483399 by decide)
      generalize ((m + 7879 * (k + 1)) * 40692) % 2147483399 = z at hb hb2
      walk_at "go"
      exact q _ _ (Int.emod_nonneg _ (by omega)) (Int.emod_lt_of_pos _ h0) w2 (x1.trans x2)


def sp__law_some : Sp := fun vs H Q _ => ∃ (T : List (Addr × Str)) (p t : Addr) (xs : List V), vs = [.ref p, .ref t] ∧ Wd T H p ∧ t ≠ p ∧ H t = some (.lst xs) ∧ (1 ≤ xs.length ∧ xs.length ≤ 100000) ∧ ∀ x H', x ∈ xs → Wd T H' p → ExM p H H' → Q x H'
theorem c_some {T : List (Addr × Str)} {H : Hp} {Q : VK} {E : XK} {p t : Addr} {xs : List V} (w : Wd T H p) (ht : t ≠ p) (hx : H t = some (.lst xs)) (hl : 1 ≤ xs.length ∧ xs.length ≤ 100000) (q : ∀ x H', x ∈ xs → Wd T H' p → ExM p H H' → Q x H') : sp__law_some [.ref p, .ref t] H Q E := ⟨T, p, t, xs, rfl, w, ht, hx, hl, q⟩

theorem sc__law_some : FnScope ["hand", "things"] ["hand", "things"] (defScope s__law_some) := ⟨rfl, rfl, rfl, by decide +kernel, rfl, by decide +kernel, by decide +kernel⟩
theorem ok__law_some {P : Program} {w : World} {K : PySem.W.Frag} {mg : Str → Option Value} {base : Heap} {f : Addr} {fd : FuncData}  (D : Dn K mg "_law_some" s__law_some ["hand", "things"] f fd) (hB : ∀ x ∈ bl, mg x = none) (G__law_draw : OkE P w K mg base 1 "_law_draw" ["hand", "many"] sp__law_draw) : OkE P w K mg base 2 "_law_some" ["hand", "things"] sp__law_some := by
  refine D.ok sc__law_some (by walk_at "len") (fun cdv A outer s H vs Q E hr h => ?_)
  obtain ⟨T, p, t, xs, rfl, w, ht, hx, hl, q⟩ := h
  refine ⟨_, (pss_one (ps_ret (pe_ix ix_seq (pv 1) (pe_callO G__law_draw hr (by decide) (by rfl) passB (pa_cons (pv 0) (pa_cons (pe_callB cr_lenS (by rfl) (hB "len" (by decide)) (by decide +kernel) (pa_cons (pv 1) pa_nil)) pa_nil))) (fun _ _ => rfl)))), ?_⟩
  walk_at "start"
  walk_at "go"
  refine c_draw w (by omega) (by omega) (fun x H1 h0 h1 w1 x1 => ?_)
  obtain ⟨j, rfl⟩ := Int.eq_ofNat_of_zero_le h0
  have hj : j < xs.length := by omega
  refine i_ixL (exm_lst x1 ht hx) (atI_nat (List.getElem?_eq_getElem hj)) ?_
  exact q _ _ (List.getElem_mem hj) w1 x1


/-- the word of an error's class -/
def WordIs (C_BadPrime C_BadNumber : Addr) (cls : Value) (w : Str) : Prop := (cls = .ref C_BadPrime ∧ w = "prime") ∨ (cls = .ref C_BadNumber ∧ w = "number")
def TTw (C_BadPrime C_BadNumber : Addr) : (XK → Hp → VK → Prop) → Hp → VK → Prop := fun act H Q => ∀ (E : XK) (Q' : VK),
  (∀ cls d H' w, d = none → WordIs C_BadPrime C_BadNumber cls w → (∀ H'', Ex H' H'' → Q (.str w) H'') → E cls d H') → (∀ v H', Q (.str "told") H' → Q' v H') → act E H Q'
/-- what the two errors' classes say of one another -/
structure Errs2 (K : PySem.W.Frag) (B C1 C2 : Addr) : Prop where
  e1 : ExcC K C1
  e2 : ExcC K C2
  k11 : PySem.W.kitOne K (.ref C1) (.ref C1) = some true
  k12 : PySem.W.kitOne K (.ref C1) (.ref C2) = some false
  k21 : PySem.W.kitOne K (.ref C2) (.ref C1) = some false
  k22 : PySem.W.kitOne K (.ref C2) (.ref C2) = some true
  m1 : PySem.W.exmOne K (.ref C1) (.ref B) = some true
  m2 : PySem.W.exmOne K (.ref C2) (.ref B) = some true

theorem sc__law_word : FnScope ["call", "error", "flags"] ["call"] (defScope s__law_word) := ⟨rfl, rfl, rfl, by decide +kernel, rfl, by decide +kernel, by decide +kernel⟩
theorem gives__law_word {X : Cx} {g : Addr} {q : Str} {k : Nat} {C_PlotError C_BadPrime C_BadNumber : Addr} (hB : ∀ x ∈ bl, X.mg x = none) (x_PlotError : ErrC X.K X.mg "PlotError" C_PlotError) (x_BadPrime : ErrC X.K X.mg "BadPrime" C_BadPrime)
    (x_BadNumber : ErrC X.K X.mg "BadNumber" C_BadNumber) (es : Errs2 X.K C_PlotError C_BadPrime C_BadNumber) (cdg : Value) : Gives X ["call", "error", "flags"] "_law_word" (defScope s__law_word) g cdg (defBody s__law_word) "call" q k (TTw C_BadPrime C_BadNumber) := by
  intro f c' s H Q act hr hact hc h
  refine ⟨_, (pss_cons (ps_try_own (i := 1) (Wout := fun _ _ _ _ => False) rfl rfl sc__law_word.nd rfl rfl ⟨rfl, by decide, .inl x_PlotError.gl⟩ L2.takes0 (fun W pn xe tk tp => (pss_one (ps_expr (hact W pn xe _ _ tk)))) (fun a oe cls d pn hz hf => (pss_cons (ps_set (i := 2) sc__law_word.nd rfl (Or.inl rfl) (pe_lst (pa_cons (pe_callB (call_isX hz hf) (by rfl) (hB "isinstance" (by decide)) (by decide +kernel) (pa_cons (pv 1) (pa_cons (pe_glob (v := .ref C_BadPrime) (by rfl) x_BadPrime.gl rfl) pa_nil))) (pa_cons (pe_callB (call_isX hz hf) (by rfl) (hB "isinstance" (by decide)) (by decide +kernel) (pa_cons (pv 1) (pa_cons (pe_glob (v := .ref C_BadNumber) (by rfl) x_BadNumber.gl rfl) pa_nil))) pa_nil))))
(pss_one (ps_ret (pe_ifExp (pt_cmpR op_eq (pe_bm PySem.F.plainAttrs_list PySem.F.slot_list_count PySem.F.type_list_count mt_cntB (pv 2) (pa_cons pe_bl pa_nil)) pe_int (nomark _)) (pe_ix ix_seq (pe_lst (pa_cons pe_str (pa_cons pe_str pa_nil))) (pe_bm PySem.F.plainAttrs_list PySem.F.slot_list_index PySem.F.type_list_index mt_index (pv 2) (pa_cons pe_bl pa_nil)) (fun _ _ => rfl)) pe_str))))))
(pss_one (ps_ret pe_str))), ?_⟩
  walk_at "start"
  walk_at "go"
  refine ⟨rfl, hc, fun cls d H' => d = none ∧ ∃ w, WordIs C_BadPrime C_BadNumber cls w ∧ ∀ H'', Ex H' H'' → Q (.str w) H'', fun cls d H' hE => ?_, h _ _ (fun cls d H' w hd hw hq => ⟨hd, w, hw, hq⟩) (fun v H' hq => by first | exact ⟨_, rfl, hq⟩ | exact hq)⟩
  obtain ⟨rfl, w, hw, hq⟩ := hE
  refine ⟨true, ?_, fun _ a ha oe pn => ?_, fun z => Bool.noConfusion z⟩
  · rcases hw with ⟨rfl, rfl⟩ | ⟨rfl, rfl⟩
    · exact es.m1
    · exact es.m2
  · rcases hw with ⟨rfl, rfl⟩ | ⟨rfl, rfl⟩
    · dsimp only [List.set]
      walk_at "go"
      refine i_isX es.e1 es.k11 ?_
      walk_at "go"
      refine i_isX es.e1 es.k12 ?_
      walk_at "go"
      refine i_newL (lz rfl) (fun l H2 hl e2 hl2 => ?_)
      walk_at "go"
      refine i_cntB (bs := [true, false]) hl2 ?_
      walk_at "go"
      rw [if_pos (by decide)]
      walk_at "go"
      refine i_newL (lz rfl) (fun l3 H3 hl3 e3 hl33 => ?_)
      walk_at "go"
      refine i_indexB (bs := [true, false]) 0 (ex_at e3 hl2) rfl (fun m z hm => absurd hm (Nat.not_lt_zero m)) ?_
      walk_at "go"
      exact hq _ (e2.trans e3)
    · dsimp only [List.set]
      walk_at "go"
      refine i_isX es.e2 es.k21 ?_
      walk_at "go"
      refine i_isX es.e2 es.k22 ?_
      walk_at "go"
      refine i_newL (lz rfl) (fun l H2 hl e2 hl2 => ?_)
      walk_at "go"
      refine i_cntB (bs := [false, true]) hl2 ?_
      walk_at "go"
      rw [if_pos (by decide)]
      walk_at "go"
      refine i_newL (lz rfl) (fun l3 H3 hl3 e3 hl33 => ?_)
      walk_at "go"
      refine i_indexB (bs := [false, true]) 1 (ex_at e3 hl2) rfl (fun m z hm hz => by cases (show m = 0 by omega) ; cases hz ; rfl) ?_
      walk_at "go"
      exact hq _ (e2.trans e3)


def sp__law_is_prime : Sp := fun vs H Q _ => ∃ n : Nat, vs = [.int (n : Int)] ∧ n ≤ 10 ^ 9 ∧ Q (.bl (isPb n)) H
theorem c_lis_prime {H : Hp} {Q : VK} {E : XK} {n : Nat} (h : n ≤ 10 ^ 9) (q : Q (.bl (isPb n)) H) : sp__law_is_prime [.int (n : Int)] H Q E := ⟨n, rfl, h, q⟩
theorem least_prime {n p : Nat} (hn : 1 < n) (hl : ∀ d, 2 ≤ d → d < p → ¬ d ∣ n) (h : n < p * p) : IsP n := by
  refine ⟨hn, fun d ⟨e, he⟩ => ?_⟩
  have hd0 : d ≠ 0 := fun z => by rw [z, Nat.zero_mul] at he; omega
  have he0 : e ≠ 0 := fun z => by rw [z, Nat.mul_zero] at he; omega
  by_cases h2 : d < p
  · by_cases h3 : 2 ≤ d
    · exact absurd ⟨e, he⟩ (hl d h3 h2)
    · left; omega
  · have h4 : e < p := by
      apply Classical.byContradiction
      intro c
      have : p * p ≤ d * e := Nat.mul_le_mul (by omega) (by omega)
      omega
    by_cases h5 : 2 ≤ e
    · exact absurd ⟨d, by rw [he, Nat.mul_comm]⟩ (hl e h5 h4)
    · have : e = 1 := by omega
      right; rw [he, this, Nat.mul_one]

theorem sc__law_is_prime : FnScope ["number", "one"] ["number"] (defScope s__law_is_prime) := ⟨rfl, rfl, rfl, by decide +kernel, rfl, by decide +kernel, by decide +kernel⟩
theorem ok__law_is_prime {P : Program} {w : World} {K : PySem.W.Frag} {mg : Str → Option Value} {base : Heap} {f : Addr} {fd : FuncData}  (D : Dn K mg "_law_is_prime" s__law_is_prime ["number"] f fd) (hB : ∀ x ∈ bl, mg x = none) : OkE P w K mg base 1 "_law_is_prime" ["number"] sp__law_is_prime := by
  refine D.ok sc__law_is_prime (by walk_at "len") (fun cdv A outer s H vs Q E hr h => ?_)
  obtain ⟨n, rfl, hn, q⟩ := h
  refine ⟨_, (pss_cons (ps_set (i := 1) sc__law_is_prime.nd rfl (Or.inl rfl) pe_int)
(pss_cons (ps_while (passes_of rfl) (pt_cmpR op_le (pe_op op_mulU (pv 1) (pv 1)) (pv 0) (nomark _)) (pss_cons (ps_if (pt_cmpR op_eq (pe_op op_mod (pe_callTy cr_int1 (by rfl) (hB "int" (by decide)) (by decide +kernel) (pa_cons (pv 0) pa_nil)) (pv 1)) pe_int (nomark _)) (pss_one (ps_ret pe_bl)) pss_nil)
(pss_one (ps_set (i := 1) sc__law_is_prime.nd rfl (Or.inl rfl) (pe_op op_add (pv 1) pe_int)))))
(pss_one (ps_ret (pe_cmpR op_gt (pv 0) pe_int (nomark _)))))), ?_⟩
  walk_at "start"
  walk_at "go"
  refine i_while (fun (d : Nat) => [some (.int (n : Int)), some (.int (d : Int))]) (fun d H' => H' = H ∧ 2 ≤ d ∧ d ≤ 31623 ∧ ∀ e, 2 ≤ e → e < d → ¬ e ∣ n) (fun d => n + 1 - d) 2 rfl ⟨rfl, by decide, by decide, fun e h1 h2 => absurd h1 (by omega)⟩ ?_
  rintro d H' ⟨rfl, h2, h3, hl⟩
  dsimp only at h2 h3 hl ⊢
  walk_at "go"
  refine i_ite (fun hz => ?_) (fun hz => ?_)
  · have hz2 : d * d ≤ n := Int.ofNat_le.mp (by rw [Int.natCast_mul]; exact hz)
    have hd3 := sq_small hz2 hn
    have hdn : 2 * d ≤ d * d := Nat.mul_le_mul_right d h2
    walk_at "go"
    refine i_ite (fun hm => ?_) (fun hm => ?_)
    · have hm2 := dvd_of_emod hm
      walk_at "go"
      have : isPb n = false := by
        cases hb : isPb n with
        | false => rfl
        | true =>
          have := ((isPb_iff n).mp hb).2 d hm2
          omega
      rw [← this]
      exact q
    · have hm2 : ¬ d ∣ n := fun z => hm (emod_of_dvd z)
      walk_at "go"
      refine ⟨d + 1, rfl, ⟨rfl, by omega, by omega, fun e e1 e2 => ?_⟩, by omega⟩
      by_cases e3 : e = d
      · rw [e3]; exact hm2
      · exact hl e e1 (by omega)
  · have hz2 : n < d * d := by
      apply Classical.byContradiction
      intro c
      exact hz (by rw [← Int.natCast_mul]; exact Int.ofNat_le.mpr (by omega))
    walk_at "go"
    have : isPb n = decide ((n : Int) > 1) := by
      by_cases h1 : 1 < n
      · rw [decide_eq_true (by omega)]
        exact (isPb_iff n).mpr (least_prime h1 hl hz2)
      · rw [decide_eq_false (by omega)]
        cases hb : isPb n with
        | false => rfl
        | true => have := ((isPb_iff n).mp hb).1; omega
    rw [this] at q
    exact q


def sp__law_prime : Sp := fun vs H Q _ => ∃ (T : List (Addr × Str)) (h : Addr), vs = [.ref h] ∧ Wd T H h ∧ ∀ (p : Nat) H', IsP p → 3 ≤ p → p ≤ 999983 → Wd T H' h → ExM h H H' → Q (.int (p : Int)) H'
theorem c_lprime {T : List (Addr × Str)} {H : Hp} {Q : VK} {E : XK} {h : Addr} (w : Wd T H h) (q : ∀ (p : Nat) H', IsP p → 3 ≤ p → p ≤ 999983 → Wd T H' h → ExM h H H' → Q (.int (p : Int)) H') : sp__law_prime [.ref h] H Q E := ⟨T, h, rfl, w, q⟩

theorem sc__law_prime : FnScope ["hand", "at"] ["hand"] (defScope s__law_prime) := ⟨rfl, rfl, rfl, by decide +kernel, rfl, by decide +kernel, by decide +kernel⟩
theorem ok__law_prime {P : Program} {w : World} {K : PySem.W.Frag} {mg : Str → Option Value} {base : Heap} {f : Addr} {fd : FuncData}  (D : Dn K mg "_law_prime" s__law_prime ["hand"] f fd) (hB : ∀ x ∈ bl, mg x = none) (G__law_some : OkE P w K mg base 2 "_law_some" ["hand", "things"] sp__law_some) (G__law_draw : OkE P w K mg base 1 "_law_draw" ["hand", "many"] sp__law_draw) (G__law_is_prime : OkE P w K mg base 1 "_law_is_prime" ["number"] sp__law_is_prime) : OkE P w K mg base 3 "_law_prime" ["hand"] sp__law_prime := by
  refine D.ok sc__law_prime (by walk_at "len") (fun cdv A outer s H vs Q E hr h => ?_)
  obtain ⟨T, h, rfl, w, q⟩ := h
  refine ⟨_, (pss_cons (ps_set (i := 1) sc__law_prime.nd rfl (Or.inl rfl) (pe_op op_add (pe_callO G__law_some hr (by decide) (by rfl) passB (pa_cons (pv 0) (pa_cons (pe_lst (pa_cons (pe_callO G__law_draw hr (by decide) (by rfl) passB (pa_cons (pv 0) (pa_cons pe_int pa_nil))) (pa_cons (pe_callO G__law_draw hr (by decide) (by rfl) passB (pa_cons (pv 0) (pa_cons (pe_op op_sub (pe_op op_pow pe_int pe_int) pe_int) pa_nil))) (pa_cons pe_int (pa_cons (pe_callO G__law_draw hr (by decide) (by rfl) passB (pa_cons (pv 0) (pa_cons pe_int pa_nil))) pa_nil))))) pa_nil))) pe_int))
(pss_cons (ps_set (i := 1) sc__law_prime.nd rfl (Or.inl rfl) (pe_callB (call_min2 rfl) (by rfl) (hB "min" (by decide)) (by decide +kernel) (pa_cons (pv 1) (pa_cons pe_int pa_nil))))
(pss_cons (ps_while (passes_of rfl) (PW.pt (pw_or (pt_not (pt_val (pe_callO G__law_is_prime hr (by decide) (by rfl) passB (pa_cons (pv 1) pa_nil)))) (pw_or1 (pt_cmpR op_eq (pv 1) pe_int (nomark _))))) (pss_one (ps_set (i := 1) sc__law_prime.nd rfl (Or.inl rfl) (pe_ifExp (pt_cmpR op_gt (pv 1) pe_int (nomark _)) (pe_op op_sub (pv 1) pe_int) pe_int))))
(pss_one (ps_ret (pv 1)))))), ?_⟩
  walk_at "start"
  walk_at "go"
  refine c_draw w (by omega) (by omega) (fun a H1 a0 a1 w1 x1 => ?_)
  walk_at "go"
  refine c_draw w1 (by omega) (by omega) (fun b H2 b0 b1 w2 x2 => ?_)
  walk_at "go"
  refine c_draw w2 (by omega) (by omega) (fun c H3 c0 c1 w3 x3 => ?_)
  walk_at "go"
  refine i_newLW (lz rfl) w3 (fun l H4 hl w4 e4 hl4 => ?_)
  walk_at "go"
  refine c_some w4 hl hl4 ⟨Nat.le_of_ble_eq_true rfl, Nat.le_of_ble_eq_true rfl⟩ (fun v H5 hv w5 x5 => ?_)
  have hv2 : ∃ i : Int, v = .int i ∧ 0 ≤ i := by
    simp only [List.mem_cons, List.not_mem_nil, or_false] at hv
    rcases hv with z | z | z | z <;> exact ⟨_, z, by omega⟩
  obtain ⟨i, rfl, hi⟩ := hv2
  have xx : ExM h H H5 := x1.trans (x2.trans (x3.trans ((ExM.of e4).trans x5)))
  walk_at "go"
  obtain ⟨n, hn, hn3, hn9⟩ : ∃ n : Nat, (if (999983 : Int) < i + 3 then (999983 : Int) else i + 3) = (n : Int) ∧ 3 ≤ n ∧ n ≤ 999983 := by
    split
    · exact ⟨999983, rfl, by decide, by decide⟩
    · exact ⟨(i + 3).toNat, by omega, by omega, by omega⟩
  rw [hn]
  refine i_while (fun (n : Nat) => [some (.ref h), some (.int (n : Int))]) (fun n H' => H' = H5 ∧ 3 ≤ n ∧ n ≤ 999983) (fun n => n) n rfl ⟨rfl, hn3, hn9⟩ ?_
  rintro m H' ⟨rfl, m3, m9⟩
  dsimp only at m3 m9 ⊢
  walk_at "go"
  refine c_lis_prime (by omega) ?_
  walk_at "go"
  refine i_iteNb (fun hb => ?_) (fun hb => ?_)
  · have hm : m ≠ 3 := fun z => by rw [z] at hb; exact absurd (hb.symm.trans (show isPb 3 = true from rfl)) (by decide)
    walk_at "go"
    refine i_ite (fun h4 => ?_) (fun h4 => absurd (show (m : Int) > 3 by omega) h4)
    walk_at "go"
    exact ⟨m - 1, by rw [show ((m - 1 : Nat) : Int) = (m : Int) - 1 by omega], ⟨rfl, by omega, by omega⟩, by omega⟩
  · walk_at "go"
    refine i_ite (fun h4 => by omega) (fun h4 => ?_)
    walk_at "go"
    exact q m _ ((isPb_iff m).mp hb) m3 m9 w5 xx


def sp__law_sign : Sp := fun vs H Q _ => ∃ (n : Int) (p : Nat), vs = [.int n, .int (p : Int)] ∧ (3 ≤ p ∧ p ≤ 10 ^ 6) ∧ Q (.int (sgn n p)) H
theorem c_lsign {H : Hp} {Q : VK} {E : XK} {n : Int} {p : Nat} (h : 3 ≤ p ∧ p ≤ 10 ^ 6) (q : Q (.int (sgn n p)) H) : sp__law_sign [.int n, .int (p : Int)] H Q E := ⟨n, p, rfl, h, q⟩
theorem half_nat {p : Nat} (h : 3 ≤ p) : ((p : Int) - 1) / 2 = (((p - 1) / 2 : Nat) : Int) := by omega

theorem sc__law_sign : FnScope ["number", "prime", "found", "here", "often"] ["number", "prime"] (defScope s__law_sign) := ⟨rfl, rfl, rfl, by decide +kernel, rfl, by decide +kernel, by decide +kernel⟩
theorem ok__law_sign {P : Program} {w : World} {K : PySem.W.Frag} {mg : Str → Option Value} {base : Heap} {f : Addr} {fd : FuncData}  (D : Dn K mg "_law_sign" s__law_sign ["number", "prime"] f fd) (hB : ∀ x ∈ bl, mg x = none) : OkE P w K mg base 1 "_law_sign" ["number", "prime"] sp__law_sign := by
  refine D.ok sc__law_sign (by walk_at "len") (fun cdv A outer s H vs Q E hr h => ?_)
  obtain ⟨n, p, rfl, ⟨h3, h6⟩, q⟩ := h
  refine ⟨_, (pss_cons (ps_par3 (i := 2) (j := 3) (l := 4) (by rfl) sc__law_sign.nd rfl rfl rfl (by decide) (by decide) (by decide) rfl rfl rfl (pa_cons pe_int (pa_cons (pe_op op_mod (pe_callTy cr_int1 (by rfl) (hB "int" (by decide)) (by decide +kernel) (pa_cons (pv 0) pa_nil)) (pv 1)) (pa_cons (pe_op op_fdivW (pe_op op_sub (pv 1) pe_int) pe_int) pa_nil))) (by rfl))
(pss_cons (ps_if (pt_cmpR op_eq (pv 3) pe_int (nomark _)) (pss_one (ps_ret pe_int)) pss_nil)
(pss_cons (ps_while (passes_of rfl) (pt_cmpR op_gt (pv 4) pe_int (nomark _)) (pss_cons (ps_if (pt_cmpR op_eq (pe_op op_mod (pe_callTy cr_int1 (by rfl) (hB "int" (by decide)) (by decide +kernel) (pa_cons (pv 4) pa_nil)) pe_int) pe_int (nomark _)) (pss_one (ps_set (i := 2) sc__law_sign.nd rfl (Or.inl rfl) (pe_op op_mod (pe_callTy cr_int1 (by rfl) (hB "int" (by decide)) (by decide +kernel) (pa_cons (pe_op op_mulU (pv 2) (pv 3)) pa_nil)) (pv 1)))) pss_nil)
(pss_one (ps_par (i := 3) (j := 4) (by rfl) sc__law_sign.nd rfl rfl (by decide) rfl rfl (pa_cons (pe_op op_mod (pe_callTy cr_int1 (by rfl) (hB "int" (by decide)) (by decide +kernel) (pa_cons (pe_op op_mulU (pv 3) (pv 3)) pa_nil)) (pv 1)) (pa_cons (pe_op op_fdivW (pv 4) pe_int) pa_nil)) (by rfl)))))
(pss_one (ps_ret (pe_ifExp (pt_cmpR op_eq (pv 2) pe_int (nomark _)) pe_int (pe_un un_neg pe_int))))))), ?_⟩
  walk_at "start"
  walk_at "go"
  rw [half_nat h3]
  refine i_ite (fun h0 => ?_) (fun h0 => ?_)
  · walk_at "go"
    rw [sgn_zero h0] at q
    exact q
  walk_at "go"
  have st : SqInv (p : Int) (n ^ ((p - 1) / 2) % (p : Int)) 1 (n % (p : Int)) ((((p - 1) / 2 : Nat) : Int)) := by
    have := SqInv.start (a := n) (m := (p : Int)) (e := (((p - 1) / 2 : Nat) : Int)) (by omega) (by omega)
    rw [Int.emod_eq_of_lt (by decide) (show (1 : Int) < (p : Int) by omega), Int.toNat_natCast] at this
    exact this
  refine i_while (fun (s : Int × Int × Int) => [some (.int n), some (.int (p : Int)), some (.int s.1), some (.int s.2.1), some (.int s.2.2)]) (fun s H' => SqInv (p : Int) (n ^ ((p - 1) / 2) % (p : Int)) s.1 s.2.1 s.2.2 ∧ H' = H) (fun s => s.2.2.toNat) (1, n % (p : Int), (((p - 1) / 2 : Nat) : Int)) rfl ⟨st, rfl⟩ ?_
  rintro ⟨x, y, z⟩ H' ⟨I, rfl⟩
  dsimp only at I ⊢
  have := I.e0; have := I.f0; have := I.fm; have := I.b0; have := I.bm
  walk_at "go"
  refine i_ite (fun hz => ?_) (fun hz => ?_)
  · walk_at "go"
    refine i_ite (fun ho => ?_) (fun ho => ?_)
    · walk_at "go"
      exact ⟨(x * y % p, y * y % p, z / 2), rfl, ⟨I.odd (by omega) ho, rfl⟩, by dsimp only; omega⟩
    · walk_at "go"
      exact ⟨(x, y * y % p, z / 2), rfl, ⟨I.even (by omega) ho, rfl⟩, by dsimp only; omega⟩
  · have hd := I.done hz
    unfold sgn at q
    rw [if_neg h0, ← hd] at q
    walk_at "go"
    refine i_ite (fun h1 => ?_) (fun h1 => ?_)
    · walk_at "go"
      rw [if_pos h1] at q
      exact q
    · walk_at "go"
      rw [if_neg h1] at q
      exact q


def sp__law_number : Sp := fun vs H Q _ => ∃ (T : List (Addr × Str)) (h : Addr) (p : Nat), vs = [.ref h, .int (p : Int)] ∧ p ≤ 10 ^ 6 ∧ Wd T H h ∧ ∀ (n : Int) H', n.natAbs ≤ 10 ^ 30 → Wd T H' h → ExM h H H' → Q (.int n) H'
theorem c_lnumber {T : List (Addr × Str)} {H : Hp} {Q : VK} {E : XK} {h : Addr} {p : Nat} (hp : p ≤ 10 ^ 6) (w : Wd T H h) (q : ∀ (n : Int) H', n.natAbs ≤ 10 ^ 30 → Wd T H' h → ExM h H H' → Q (.int n) H') : sp__law_number [.ref h, .int (p : Int)] H Q E := ⟨T, h, p, rfl, hp, w, q⟩

theorem sc__law_number : FnScope ["hand", "prime", "one", "found"] ["hand", "prime"] (defScope s__law_number) := ⟨rfl, rfl, rfl, by decide +kernel, rfl, by decide +kernel, by decide +kernel⟩
theorem ok__law_number {P : Program} {w : World} {K : PySem.W.Frag} {mg : Str → Option Value} {base : Heap} {f : Addr} {fd : FuncData}  (D : Dn K mg "_law_number" s__law_number ["hand", "prime"] f fd) (hB : ∀ x ∈ bl, mg x = none) (G__law_draw : OkE P w K mg base 1 "_law_draw" ["hand", "many"] sp__law_draw) (G__law_some : OkE P w K mg base 2 "_law_some" ["hand", "things"] sp__law_some) : OkE P w K mg base 3 "_law_number" ["hand", "prime"] sp__law_number := by
  refine D.ok sc__law_number (by walk_at "len") (fun cdv A outer s H vs Q E hr h => ?_)
  obtain ⟨T, h, p, rfl, hp, w, q⟩ := h
  refine ⟨_, (pss_cons (ps_set (i := 2) sc__law_number.nd rfl (Or.inl rfl) (pe_callO G__law_draw hr (by decide) (by rfl) passB (pa_cons (pv 0) (pa_cons (pe_callO G__law_some hr (by decide) (by rfl) passB (pa_cons (pv 0) (pa_cons (pe_lst (pa_cons pe_int (pa_cons (pe_op op_pow pe_int pe_int) (pa_cons (pe_op op_pow pe_int pe_int) pa_nil)))) pa_nil))) pa_nil))))
(pss_cons (ps_set (i := 3) sc__law_number.nd rfl (Or.inl rfl) (pe_callO G__law_some hr (by decide) (by rfl) passB (pa_cons (pv 0) (pa_cons (pe_lst (pa_cons (pv 2) (pa_cons (pe_op op_mulU (pv 2) (pv 2)) (pa_cons (pe_op op_mulU (pv 2) (pv 1)) (pa_cons (pe_op op_mulU (pv 2) (pe_op op_sub (pe_op op_pow pe_int pe_int) pe_int)) (pa_cons (pe_op op_pow pe_int pe_int) (pa_cons (pe_op op_add (pe_op op_mulU (pe_op op_mulU (pv 2) (pv 2)) (pv 1)) pe_int) pa_nil))))))) pa_nil))))
(pss_cons (ps_set (i := 3) sc__law_number.nd rfl (Or.inl rfl) (pe_callB (call_min2 rfl) (by rfl) (hB "min" (by decide)) (by decide +kernel) (pa_cons (pv 3) (pa_cons (pe_op op_pow pe_int pe_int) pa_nil))))
(pss_one (ps_ret (pe_ifExp (pt_cmpR op_eq (pe_callO G__law_draw hr (by decide) (by rfl) passB (pa_cons (pv 0) (pa_cons pe_int pa_nil))) pe_int (nomark _)) (pe_op op_sub pe_int (pv 3)) (pv 3))))))), ?_⟩
  walk_at "start"
  walk_at "go"
  refine i_newLW (lz rfl) w (fun l H1 hl w1 e1 hl1 => ?_)
  walk_at "go"
  refine c_some w1 hl hl1 ⟨Nat.le_of_ble_eq_true rfl, Nat.le_of_ble_eq_true rfl⟩ (fun v H2 hv w2 x2 => ?_)
  have hv2 : ∃ i : Int, v = .int i ∧ 0 < i ∧ i ≤ 10 ^ 15 := by
    simp only [List.mem_cons, List.not_mem_nil, or_false] at hv
    rcases hv with z | z | z <;> exact ⟨_, z, by omega, by omega⟩
  obtain ⟨i, rfl, hi0, hi⟩ := hv2
  walk_at "go"
  refine c_draw w2 (by omega) (by omega) (fun a H3 a0 a1 w3 x3 => ?_)
  walk_at "go"
  have hp0 : 0 ≤ (p : Int) := by omega
  have haa : a * a ≤ 10 ^ 15 * 10 ^ 15 := Int.mul_le_mul (by omega) (by omega) a0 (by decide)
  have haa0 : 0 ≤ a * a := Int.mul_nonneg a0 a0
  have hap0 : 0 ≤ a * (p : Int) := Int.mul_nonneg a0 hp0
  have haap0 : 0 ≤ a * a * (p : Int) := Int.mul_nonneg haa0 hp0
  refine i_newLW (lz rfl) w3 (fun t H4 ht w4 e4 ht4 => ?_)
  walk_at "go"
  refine c_some w4 ht ht4 ⟨Nat.le_of_ble_eq_true rfl, Nat.le_of_ble_eq_true rfl⟩ (fun v H5 hv w5 x5 => ?_)
  have hv2 : ∃ i : Int, v = .int i ∧ 0 ≤ i := by
    simp only [List.mem_cons, List.not_mem_nil, or_false] at hv
    rcases hv with z | z | z | z | z | z <;> exact ⟨_, z, by omega⟩
  obtain ⟨f, rfl, hf⟩ := hv2
  walk_at "go"
  obtain ⟨n, hn, hn0, hn9⟩ : ∃ n : Int, (if (10 : Int) ^ 30 < f then (10 : Int) ^ 30 else f) = n ∧ 0 ≤ n ∧ n ≤ 10 ^ 30 := ⟨_, rfl, by split <;> omega, by split <;> omega⟩
  have xx : ExM h H H5 := (ExM.of e1).trans (x2.trans (x3.trans ((ExM.of e4).trans x5)))
  have hn' : (if (1000000000000000000000000000000 : Int) < f then (1000000000000000000000000000000 : Int) else f) = n := hn
  rw [hn']
  refine c_draw w5 (by omega) (by omega) (fun d H6 d0 d1 w6 x6 => ?_)
  walk_at "go"
  refine i_ite (fun hz => ?_) (fun hz => ?_)
  · walk_at "go"
    exact q _ _ (by omega) w6 (xx.trans x6)
  · walk_at "go"
    exact q _ _ (by omega) w6 (xx.trans x6)


def sp__law_is_right (P : Addr) : Sp := fun vs H Q _ => ∃ (T : List (Addr × Str)) (h : Addr), vs = [.ref h] ∧ Wd T H h ∧ (P, LQ "_law_is_right") ∈ T ∧ (∀ x ∈ T, x.1 = P → x.2 = LQ "_law_is_right") ∧ ∀ H', Wd T H' h → ExM h H H' → Q (.bl true) H'
theorem c_is_right {P : Addr} {T : List (Addr × Str)} {H : Hp} {Q : VK} {E : XK} {h : Addr} (w : Wd T H h) (hm : (P, LQ "_law_is_right") ∈ T) (hu : ∀ x ∈ T, x.1 = P → x.2 = LQ "_law_is_right") (q : ∀ H', Wd T H' h → ExM h H H' → Q (.bl true) H') : sp__law_is_right P [.ref h] H Q E := ⟨T, h, rfl, w, hm, hu, q⟩
section
variable {C1 C2 : Addr} {H : Hp} {Q : VK} {E : XK} {v u : V}
theorem s_badp {n : Int} (hn : n.natAbs ≤ 10 ^ 30) (hu : Thing H u) (hb : isP6 u = false) (q : ∀ H', Ex H H' → E (.ref C2) none H') : sp_prime_sign C1 C2 [.int n, u] H Q E := by
  refine ⟨_, u, rfl, .int _, hu, fun z => ?_, fun _ _ => q, fun n' p' e1 _ e2 z => ?_⟩
  · have : decide (n.natAbs ≤ 10 ^ 30) = false := z
    rw [decide_eq_true hn] at this
    cases this
  · rw [hb] at z
    cases z
theorem s_badn (hv : Thing H v) (hu : Thing H u) (hb : isN30 v = false) (q : ∀ H', Ex H H' → E (.ref C1) none H') : sp_prime_sign C1 C2 [v, u] H Q E := by
  refine ⟨v, u, rfl, hv, hu, fun _ => q, fun z _ => ?_, fun n' p' e1 hn e2 z => ?_⟩
  · rw [hb] at z
    cases z
  · subst e1
    have : decide (n'.natAbs ≤ 10 ^ 30) = false := hb
    rw [decide_eq_true hn] at this
    cases this
theorem t_bad (hv : Thing H v) (hu : Thing H u) (hb : (isP6 v && isP6 u) = false) (q : ∀ H', Ex H H' → E (.ref C2) none H') : sp_law_of_two C1 C2 [v, u] H Q E := by
  refine ⟨v, u, rfl, hv, hu, fun _ => q, fun p _ _ _ => q, fun p r _ _ z1 z2 => ?_⟩
  rw [z1, z2] at hb
  cases hb
theorem t_same {p : Nat} (q : ∀ H', Ex H H' → E (.ref C2) none H') (hp : isP6 (.int (p : Int)) = true) : sp_law_of_two C1 C2 [.int (p : Int), .int (p : Int)] H Q E := by
  refine ⟨_, _, rfl, .int _, .int _, fun _ => q, fun p _ _ _ => q, fun p' r e1 e2 _ _ hne => ?_⟩
  exfalso
  have h1 : (p : Int) = (p' : Int) := by injection e1
  have h2 : (p : Int) = (r : Int) := by injection e2
  omega
theorem c_two {p r : Nat} (hp : isP6 (.int (p : Int)) = true) (hr : isP6 (.int (r : Int)) = true) (hne : p ≠ r)
    (q : ∀ t H', H t = none → Ex H H' → H' t = some (.tup [.int (sgn p r), .int (sgn r p), .bl (decide (p % 4 = 3 ∧ r % 4 = 3))]) → Q (.ref t) H') : sp_law_of_two C1 C2 [.int (p : Int), .int (r : Int)] H Q E := by
  refine ⟨_, _, rfl, .int _, .int _, fun z => ?_, fun p' e1 e2 _ => ?_, fun p' r' e1 e2 _ _ _ => ?_⟩
  · rw [hp, hr] at z
    cases z
  · exfalso
    have h1 : (p : Int) = (p' : Int) := by injection e1
    have h2 : (r : Int) = (p' : Int) := by injection e2
    omega
  · have h1 : (p : Int) = (p' : Int) := by injection e1
    have h2 : (r : Int) = (r' : Int) := by injection e2
    obtain rfl : p = p' := by omega
    obtain rfl : r = r' := by omega
    exact q
end
def trip (a b : Int) (c : Bool) : PyData := .tuple [.int a, .int b, .bool c]
theorem trip_ok {a b : Int} (c : Bool) (ha : a = 0 ∨ a = 1 ∨ a = -1) (hb : b = 0 ∨ b = 1 ∨ b = -1) : (trip a b c).showable = true ∧ (trip a b c).hasDict = false ∧ (trip a b c).depth ≤ 60 ∧ (trip a b c).shown.length ≤ sizeLine ∧ SeqAt.shaped (trip a b c) = true ∧ PyData.eqv (trip a b c) (trip a b c) = true := by
  rcases ha with z | z | z <;> subst z <;> rcases hb with z | z | z <;> subst z <;> cases c <;> decide +kernel
theorem i_reprT {K : PySem.W.Frag} {H : Hp} {Q : VK} {t : Addr} {a b : Int} {c : Bool} (ht : H t = some (.tup [.int a, .int b, .bl c])) (ha : a = 0 ∨ a = 1 ∨ a = -1) (hb : b = 0 ∨ b = 1 ∨ b = -1) (q : ∀ z : Str, z = (trip a b c).shown → Q (.str z) H) : rReprX K [.ref t] H Q := by
  obtain ⟨h1, h2, h3, h4, _⟩ := trip_ok c ha hb
  exact .inr ⟨t, trip a b c, rfl, .tup (sqt_of ht) (.cons (.int _) (.cons (.int _) (.cons (.bl _) .nil))), h1, h2, h3, h4, q _ rfl⟩
theorem i_neTrip {K : PySem.W.Frag} {H : Hp} {Q : VK} {t t2 : Addr} {a b : Int} {c : Bool} (ht : H t = some (.tup [.int a, .int b, .bl c])) (ht2 : H t2 = some (.tup [.int a, .int b, .bl c])) (ha : a = 0 ∨ a = 1 ∨ a = -1) (hb : b = 0 ∨ b = 1 ∨ b = -1) (q : Q (.bl false) H) : L2.rNeD K (.ref t) (.ref t2) H Q := by
  obtain ⟨_, _, _, _, h5, h6⟩ := trip_ok c ha hb
  exact ⟨trip a b c, trip a b c, .tup (sqt_of ht) (.cons (.int _) (.cons (.int _) (.cons (.bl _) .nil))), .tup (sqt_of ht2) (.cons (.int _) (.cons (.int _) (.cons (.bl _) .nil))), h5, h5, by rw [h6]; exact q⟩
theorem i_eqTrip {K : PySem.W.Frag} {H : Hp} {Q : VK} {t t2 : Addr} {a b : Int} {c : Bool} (ht : H t = some (.tup [.int a, .int b, .bl c])) (ht2 : H t2 = some (.tup [.int a, .int b, .bl c])) (ha : a = 0 ∨ a = 1 ∨ a = -1) (hb : b = 0 ∨ b = 1 ∨ b = -1) (q : Q (.bl true) H) : L2.rEqD K (.ref t) (.ref t2) H Q := by
  obtain ⟨_, _, _, _, h5, h6⟩ := trip_ok c ha hb
  exact ⟨trip a b c, trip a b c, .tup (sqt_of ht) (.cons (.int _) (.cons (.int _) (.cons (.bl _) .nil))), .tup (sqt_of ht2) (.cons (.int _) (.cons (.int _) (.cons (.bl _) .nil))), h5, h5, by rw [h6]; exact q⟩
theorem bads6 {v : V} (h : v = .int 2 ∨ v = .int 1 ∨ v = .int 9 ∨ v = .int 0 ∨ v = .int (-7) ∨ v = .non ∨ v = .bl true ∨ v = .str "3" ∨ v = .int 1000003 ∨ v = .int 999985) : isP6 v = false := by
  have out : ∀ i : Int, ¬ (3 ≤ i ∧ i ≤ 10 ^ 6) → isP6 (.int i) = false := fun i hi => by
    show (_ && decide (3 ≤ i ∧ i ≤ 10 ^ 6)) = false
    rw [decide_eq_false hi, Bool.and_false]
  have np : ∀ i : Int, ¬ IsP i.toNat → isP6 (.int i) = false := fun i hi => by
    show (isPI i && _) = false
    have : isPI i = false := by
      show isPb i.toNat = false
      cases hb : isPb i.toNat with
      | false => rfl
      | true => exact absurd ((isPb_iff _).mp hb) hi
    rw [this]; rfl
  rcases h with z | z | z | z | z | z | z | z | z | z
  · subst z; exact out _ (by decide)
  · subst z; exact out _ (by decide)
  · subst z; exact np _ fun y => (y.2 3 ⟨3, rfl⟩).elim (by decide) (by decide)
  · subst z; exact out _ (by decide)
  · subst z; exact out _ (by decide)
  · subst z; rfl
  · subst z; rfl
  · subst z; rfl
  · subst z; exact out _ (by decide)
  · subst z; exact np _ fun y => (y.2 5 ⟨199997, rfl⟩).elim (by decide) (by decide)

theorem sc__law_is_right : FnScope ["hand", "prime", "other", "one", "two", "due", "told", "bad", "odd", "words"] ["hand"] (defScope s__law_is_right) := ⟨rfl, rfl, rfl, by decide +kernel, rfl, by decide +kernel, by decide +kernel⟩
theorem ok__law_is_right {P : Program} {w : World} {K : PySem.W.Frag} {mg : Str → Option Value} {base : Heap} {f gw c Pt : Addr} {fd fdw : FuncData} {C_PlotError C_BadPrime C_BadNumber : Addr} (D : Dn K mg "_law_is_right" s__law_is_right ["hand"] f fd) (hcode : fd.code = .ref c) (TB : LamX.TabB base mg c Pt)
    (D__law_word : Dn K mg "_law_word" s__law_word ["call"] gw fdw) (hB : ∀ x ∈ bl, mg x = none) (x_PlotError : ErrC K mg "PlotError" C_PlotError) (x_BadPrime : ErrC K mg "BadPrime" C_BadPrime) (x_BadNumber : ErrC K mg "BadNumber" C_BadNumber) (es : Errs2 K C_PlotError C_BadPrime C_BadNumber)
    (G__law_prime : OkE P w K mg base 3 "_law_prime" ["hand"] sp__law_prime) (G__law_number : OkE P w K mg base 3 "_law_number" ["hand", "prime"] sp__law_number) (G_prime_sign : OkE P w K mg base 3 "prime_sign" ["number", "prime"] (sp_prime_sign C_BadNumber C_BadPrime)) (G__law_sign : OkE P w K mg base 1 "_law_sign" ["number", "prime"] sp__law_sign) (G__law_draw : OkE P w K mg base 1 "_law_draw" ["hand", "many"] sp__law_draw) (G_law_of_two : OkE P w K mg base 4 "law_of_two" ["one", "other"] (sp_law_of_two C_BadNumber C_BadPrime)) (G__law_some : OkE P w K mg base 2 "_law_some" ["hand", "things"] sp__law_some) : OkGE P w K mg base 7 "_law_is_right" ["hand"] (sp__law_is_right Pt) := by
  refine Dn.okCG D sc__law_is_right hcode (by walk_at "len") (fun A outer s H vs Q E hr h => ?_)
  obtain ⟨T, h, rfl, w, hmT, hu, q⟩ := h
  refine ⟨_, (pss_cons (ps_asg (pe_tup (pa_cons (pe_callO G__law_prime hr.toRoom (by decide) (by rfl) passB (pa_cons (pv 0) pa_nil)) (pa_cons (pe_callO G__law_prime hr.toRoom (by decide) (by rfl) passB (pa_cons (pv 0) pa_nil)) pa_nil))) (pg_tup rfl (pgs_cons (pg_name (i := 1) sc__law_is_right.nd rfl (Or.inr rfl)) (pgs_cons (pg_name (i := 2) sc__law_is_right.nd rfl (Or.inl rfl)) pgs_nil))))
(pss_cons (ps_asg (pe_tup (pa_cons (pe_callO G__law_number hr.toRoom (by decide) (by rfl) passB (pa_cons (pv 0) (pa_cons (pv 1) pa_nil))) (pa_cons (pe_callO G__law_number hr.toRoom (by decide) (by rfl) passB (pa_cons (pv 0) (pa_cons (pv 1) pa_nil))) pa_nil))) (pg_tup rfl (pgs_cons (pg_name (i := 3) sc__law_is_right.nd rfl (Or.inr rfl)) (pgs_cons (pg_name (i := 4) sc__law_is_right.nd rfl (Or.inl rfl)) pgs_nil))))
(pss_cons (ps_if (pt_cmpR op_ne (pe_callB (call_reprX hr) (by rfl) (hB "repr" (by decide)) (by decide +kernel) (pa_cons (pe_callO G_prime_sign hr.toRoom (by decide) (by rfl) passB (pa_cons (pv 3) (pa_cons (pv 1) pa_nil))) pa_nil)) (pe_callB (call_reprX hr) (by rfl) (hB "repr" (by decide)) (by decide +kernel) (pa_cons (pe_callO G__law_sign hr.toRoom (by decide) (by rfl) passB (pa_cons (pv 3) (pa_cons (pv 1) pa_nil))) pa_nil)) (nomark _)) (pss_one (ps_ret pe_bl)) pss_nil)
(C8.pss_cut (ps_if (PW.pt (pw_and (pt_cmpR op_le (pe_callB cr_abs (by rfl) (hB "abs" (by decide)) (by decide +kernel) (pa_cons (pe_op op_mulU (pv 3) (pv 4)) pa_nil)) (pe_op op_pow pe_int pe_int) (nomark _)) (pw_and1 (pt_cmpR op_ne (pe_callO G_prime_sign hr.toRoom (by decide) (by rfl) passB (pa_cons (pe_op op_mulU (pv 3) (pv 4)) (pa_cons (pv 1) pa_nil))) (pe_op op_mulU (pe_callO G_prime_sign hr.toRoom (by decide) (by rfl) passB (pa_cons (pv 3) (pa_cons (pv 1) pa_nil))) (pe_callO G_prime_sign hr.toRoom (by decide) (by rfl) passB (pa_cons (pv 4) (pa_cons (pv 1) pa_nil)))) (nomark _))))) (pss_one (ps_ret pe_bl)) pss_nil)
(C8.pss_cut (ps_if (PW.pt (pw_and (pt_cmpR op_lt (pe_callB cr_abs (by rfl) (hB "abs" (by decide)) (by decide +kernel) (pa_cons (pv 3) pa_nil)) (pe_op op_pow pe_int pe_int) (nomark _)) (pw_and1 (pt_cmpR op_ne (pe_callO G_prime_sign hr.toRoom (by decide) (by rfl) passB (pa_cons (pe_op op_add (pv 3) (pe_op op_mulU (pv 1) (pe_op op_add pe_int (pe_callO G__law_draw hr.toRoom (by decide) (by rfl) passB (pa_cons (pv 0) (pa_cons (pe_op op_pow pe_int pe_int) pa_nil)))))) (pa_cons (pv 1) pa_nil))) (pe_callO G_prime_sign hr.toRoom (by decide) (by rfl) passB (pa_cons (pv 3) (pa_cons (pv 1) pa_nil))) (nomark _))))) (pss_one (ps_ret pe_bl)) pss_nil)
(C8.pss_cut (ps_if (pt_cmpR op_ne (pv 1) (pv 2) (nomark _)) (pss_cons (ps_set (i := 5) sc__law_is_right.nd rfl (Or.inl rfl) (pe_tup (pa_cons (pe_callO G__law_sign hr.toRoom (by decide) (by rfl) passB (pa_cons (pv 1) (pa_cons (pv 2) pa_nil))) (pa_cons (pe_callO G__law_sign hr.toRoom (by decide) (by rfl) passB (pa_cons (pv 2) (pa_cons (pv 1) pa_nil))) (pa_cons (pe_and (pe_cmpR op_eq (pe_op op_mod (pe_callTy cr_int1 (by rfl) (hB "int" (by decide)) (by decide +kernel) (pa_cons (pv 1) pa_nil)) pe_int) pe_int (nomark _)) (pe_one (pe_cmpR op_eq (pe_op op_mod (pe_callTy cr_int1 (by rfl) (hB "int" (by decide)) (by decide +kernel) (pa_cons (pv 2) pa_nil)) pe_int) pe_int (nomark _)))) pa_nil)))))
(pss_cons (ps_set (i := 6) sc__law_is_right.nd rfl (Or.inl rfl) (pe_callO G_law_of_two hr.toRoom (by decide) (by rfl) passB (pa_cons (pv 1) (pa_cons (pv 2) pa_nil))))
(pss_one (ps_if (PW.pt (pw_or (pt_cmpR op_ne (pe_callB (call_reprX hr) (by rfl) (hB "repr" (by decide)) (by decide +kernel) (pa_cons (pv 6) pa_nil)) (pe_callB (call_reprX hr) (by rfl) (hB "repr" (by decide)) (by decide +kernel) (pa_cons (pv 5) pa_nil)) (nomark _)) (pw_or (pt_cmpR op_ne (pe_cmpR op_ne (pe_ix ix_seq (pv 6) pe_int (fun _ _ => rfl)) (pe_ix ix_seq (pv 6) pe_int (fun _ _ => rfl)) (nomark _)) (pe_ix ix_seq (pv 6) pe_int (fun _ _ => rfl)) (nomark _)) (pw_or1 (pt_cmpR (op_neD hr.units) (pe_callO G_law_of_two hr.toRoom (by decide) (by rfl) passB (pa_cons (pv 2) (pa_cons (pv 1) pa_nil))) (pe_tup (pa_cons (pe_ix ix_seq (pv 5) pe_int (fun _ _ => rfl)) (pa_cons (pe_ix ix_seq (pv 5) pe_int (fun _ _ => rfl)) (pa_cons (pe_ix ix_seq (pv 5) pe_int (fun _ _ => rfl)) pa_nil)))) (nomark _)))))) (pss_one (ps_ret pe_bl)) pss_nil)))) pss_nil)
(pss_cons (ps_set (i := 7) sc__law_is_right.nd rfl (Or.inr rfl) (pe_callO G__law_some hr.toRoom (by decide) (by rfl) passB (pa_cons (pv 0) (pa_cons (pe_lst (pa_cons pe_int (pa_cons pe_int (pa_cons pe_int (pa_cons pe_int (pa_cons (pe_un un_neg pe_int) (pa_cons pe_non (pa_cons pe_bl (pa_cons pe_str (pa_cons pe_int (pa_cons pe_int pa_nil))))))))))) pa_nil))))
(pss_cons (ps_set (i := 8) sc__law_is_right.nd rfl (Or.inr rfl) (pe_callO G__law_some hr.toRoom (by decide) (by rfl) passB (pa_cons (pv 0) (pa_cons (pe_lst (pa_cons (pe_op op_add (pe_op op_pow pe_int pe_int) pe_int) (pa_cons (pe_un un_neg (pe_op op_pow pe_int pe_int)) (pa_cons pe_non (pa_cons pe_bl (pa_cons pe_str pa_nil)))))) pa_nil))))
(pss_cons (ps_set (i := 9) sc__law_is_right.nd rfl (Or.inl rfl) (pe_lst (pa_cons (pe_lmcall (k := 4) (ox := none) D__law_word (by rfl) sc__law_word rfl (Or.inl rfl) (fun cdg => gives__law_word hB x_PlotError x_BadPrime x_BadNumber es cdg) TB rfl hmT hu hr.toRoom (by decide) (lmS_by (N := ["hand", "prime", "other", "one", "two", "due", "told", "bad", "odd", "words"]) (sc := defScope s__law_is_right) (by decide +kernel)) (.none (fun _ => rfl) (fun _ _ _ _ _ => rfl)) (fun A outer s H E f c' hrl => (pe_callO G_prime_sign hrl (by decide) (by rfl) passLm (pa_cons (pv 3) (pa_cons (pv 7) pa_nil))))) (pa_cons (pe_lmcall (k := 4) (ox := some "of") D__law_word (by rfl) sc__law_word rfl (Or.inl rfl) (fun cdg => gives__law_word hB x_PlotError x_BadPrime x_BadNumber es cdg) TB rfl hmT hu hr.toRoom (by decide) (lmS_by (N := ["hand", "prime", "other", "one", "two", "due", "told", "bad", "odd", "words"]) (sc := defScope s__law_is_right) (by decide +kernel)) (.one "of" _ _ _ (fun _ => rfl) rfl (fun _ _ _ _ _ _ => ⟨_, rfl, fun _ => rfl⟩) rfl) (fun A outer s H E f c' hrl => (pe_callO G_law_of_two hrl (by decide) (by rfl) passLm (pa_cons (pv 7) (pa_cons (pv 1) pa_nil))))) pa_nil))))
(pss_cons (ps_set (i := 9) sc__law_is_right.nd rfl (Or.inl rfl) (pe_op op_cat (pv 9) (pe_lst (pa_cons (pe_lmcall (k := 4) (ox := none) D__law_word (by rfl) sc__law_word rfl (Or.inl rfl) (fun cdg => gives__law_word hB x_PlotError x_BadPrime x_BadNumber es cdg) TB rfl hmT hu hr.toRoom (by decide) (lmS_by (N := ["hand", "prime", "other", "one", "two", "due", "told", "bad", "odd", "words"]) (sc := defScope s__law_is_right) (by decide +kernel)) (.none (fun _ => rfl) (fun _ _ _ _ _ => rfl)) (fun A outer s H E f c' hrl => (pe_callO G_law_of_two hrl (by decide) (by rfl) passLm (pa_cons (pv 1) (pa_cons (pv 7) pa_nil))))) (pa_cons (pe_lmcall (k := 4) (ox := some "of") D__law_word (by rfl) sc__law_word rfl (Or.inl rfl) (fun cdg => gives__law_word hB x_PlotError x_BadPrime x_BadNumber es cdg) TB rfl hmT hu hr.toRoom (by decide) (lmS_by (N := ["hand", "prime", "other", "one", "two", "due", "told", "bad", "odd", "words"]) (sc := defScope s__law_is_right) (by decide +kernel)) (.one "of" _ _ _ (fun _ => rfl) rfl (fun _ _ _ _ _ _ => ⟨_, rfl, fun _ => rfl⟩) rfl) (fun A outer s H E f c' hrl => (pe_callO G_prime_sign hrl (by decide) (by rfl) passLm (pa_cons (pv 8) (pa_cons (pv 1) pa_nil))))) pa_nil)))))
(pss_cons (ps_expr (pe_bm PySem.F.plainAttrs_list PySem.F.slot_list_append PySem.F.type_list_append mt_append (pv 9) (pa_cons (pe_lmcall (k := 4) (ox := none) D__law_word (by rfl) sc__law_word rfl (Or.inl rfl) (fun cdg => gives__law_word hB x_PlotError x_BadPrime x_BadNumber es cdg) TB rfl hmT hu hr.toRoom (by decide) (lmS_by (N := ["hand", "prime", "other", "one", "two", "due", "told", "bad", "odd", "words"]) (sc := defScope s__law_is_right) (by decide +kernel)) (.none (fun _ => rfl) (fun _ _ _ _ _ => rfl)) (fun A outer s H E f c' hrl => (pe_callO G_law_of_two hrl (by decide) (by rfl) passLm (pa_cons (pv 1) (pa_cons (pv 1) pa_nil))))) pa_nil)))
(pss_one (ps_ret (pe_cmpR (op_eqD hr.units) (pv 9) (pe_lst (pa_cons pe_str (pa_cons pe_str (pa_cons pe_str (pa_cons pe_str (pa_cons pe_str pa_nil)))))) (nomark _))))))))))))))), ?_⟩
  walk_at "start"
  walk_at "go"
  refine c_lprime w (fun p H1 hp hp3 hp9 w1 x1 => ?_)
  walk_at "go"
  refine c_lprime w1 (fun r H2 hr1 hr3 hr9 w2 x2 => ?_)
  walk_at "go"
  refine i_newTW (lz rfl) w2 (fun t3 H3 ht3 w3 e3 hh3 => ?_)
  walk_at "go"
  refine c_lnumber (p := p) (by omega) w3 (fun a H4 ha w4 x4 => ?_)
  walk_at "go"
  refine c_lnumber (p := p) (by omega) w4 (fun b H5 hb w5 x5 => ?_)
  walk_at "go"
  refine i_newTW (lz rfl) w5 (fun t6 H6 ht6 w6 e6 hh6 => ?_)
  walk_at "go"
  have hp6 := isP6_nat hp ⟨hp3, by omega⟩
  have hr6 := isP6_nat hr1 ⟨hr3, by omega⟩
  have hpo := odd_of hp hp3
  have hro := odd_of hr1 hr3
  have sa : ∀ (n : Int) (m : Nat), -(10 ^ 60) < sgn n m ∧ sgn n m < 10 ^ 60 ∧ -1 ≤ sgn n m ∧ sgn n m ≤ 1 := fun n m => by
    rcases sgn_cases n m with z | z | z <;> rw [z] <;> decide
  have xm : ExM h H H6 := x1.trans (x2.trans ((ExM.of e3).trans (x4.trans (x5.trans (.of e6)))))
  clear x1 x2 e3 x4 x5 e6 w w1 w2 w3 w4 w5 hh3 hh6 ht3 ht6
  refine c_sign ha hp6 (fun H7 e7 => ?_)
  walk_at "go"
  refine .inl (i_reprI (log_small (sa a p).1 (sa a p).2.1) ?_)
  walk_at "go"
  refine c_lsign ⟨hp3, by omega⟩ ?_
  walk_at "go"
  refine .inl (i_reprI (log_small (sa a p).1 (sa a p).2.1) ?_)
  walk_at "go"
  rw [decide_eq_true rfl]
  walk_at "go"
  refine i_cut (fun σ' H' => σ' = [some (.ref h), some (.int (p : Int)), some (.int (r : Int)), some (.int a), some (.int b), none, none, none, none, none] ∧ Ex H7 H') ?_ ?_
  · walk_at "go"
    refine i_ite (fun hz => ?_) (fun hz => ?_)
    · walk_at "go"
      refine c_sign (by omega) hp6 (fun H8 e8 => ?_)
      walk_at "go"
      refine c_sign ha hp6 (fun H9 e9 => ?_)
      walk_at "go"
      refine c_sign hb hp6 (fun H10 e10 => ?_)
      have s1 := sa a p
      have s2 := sa b p
      walk_at "go"
      rw [sgn_mul hp hpo, decide_eq_true rfl]
      walk_at "go"
      exact ⟨rfl, e8.trans (e9.trans e10)⟩
    · walk_at "go"
      exact ⟨rfl, Same.refl _⟩
  rintro σ8 H8 ⟨rfl, e8⟩
  have xm8 := xm.trans (ExM.of (e7.trans e8))
  have w8 := w6.ex (e7.trans e8)
  clear xm e7 e8 w6
  refine i_cut (fun σ' H' => σ' = [some (.ref h), some (.int (p : Int)), some (.int (r : Int)), some (.int a), some (.int b), none, none, none, none, none] ∧ Wd T H' h ∧ ExM h H H') ?_ ?_
  · refine i_ifs (i_and (i_test (i_op ?_)))
    refine i_cb (i_cons ?_)
    refine v_3 (i_nil (i_abs (i_op (i_c (i_c ?_)))))
    obtain ⟨N, hN, hN2⟩ : ∃ N : Int, (10 : Int) ^ (20 : Int).toNat = N ∧ N ≤ 10 ^ 20 := ⟨_, rfl, by decide⟩
    refine i_pow (c := N) ⟨by decide, by decide, by decide⟩ hN (i_I0 (i_exbl ?_))
    clear hN
    refine i_ite (fun hz => ?_) (fun hz => ?_)
    · walk_at "go"
      refine c_draw w8 (by omega) (by omega) (fun d H9 d0 d1 w9 x9 => ?_)
      have hpd : (p : Int) * (1 + d) ≤ 10 ^ 6 * 10 ^ 9 := Int.mul_le_mul (by omega) (by omega) (by omega) (by decide)
      have hpd0 : 0 ≤ (p : Int) * (1 + d) := Int.mul_nonneg (by omega) (by omega)
      walk_at "go"
      refine c_sign (by omega) hp6 (fun H10 e10 => ?_)
      walk_at "go"
      refine c_sign ha hp6 (fun H11 e11 => ?_)
      walk_at "go"
      rw [sgn_congr (Int.add_mul_emod_self_left a p (1 + d)), decide_eq_true rfl]
      walk_at "go"
      exact ⟨rfl, w9.ex (e10.trans e11), xm8.trans (x9.trans (.of (e10.trans e11)))⟩
    · walk_at "go"
      exact ⟨rfl, w8, xm8⟩
  rintro σ9 H9 ⟨rfl, w9, xm9⟩
  clear xm8 w8
  refine i_cut (fun σ' H' => ∃ x y, σ' = [some (.ref h), some (.int (p : Int)), some (.int (r : Int)), some (.int a), some (.int b), x, y, none, none, none] ∧ Ex H9 H') ?_ ?_
  · walk_at "go"
    refine i_iteN (fun hz => ?_) (fun hz => ?_)
    · have hne : p ≠ r := fun z => hz (by rw [z])
      walk_at "go"
      refine c_lsign ⟨hr3, by omega⟩ ?_
      walk_at "go"
      refine c_lsign ⟨hp3, by omega⟩ ?_
      walk_at "go"
      have ca := sgn_cases (p : Int) r
      have cb := sgn_cases (r : Int) p
      have lt := law_two hp hr1 hpo hro hne
      have hc' : decide (r % 4 = 3 ∧ p % 4 = 3) = decide (p % 4 = 3 ∧ r % 4 = 3) := by
        by_cases h8 : p % 4 = 3 ∧ r % 4 = 3
        · rw [decide_eq_true h8, decide_eq_true ⟨h8.2, h8.1⟩]
        · rw [decide_eq_false h8, decide_eq_false (fun z => h8 ⟨z.2, z.1⟩)]
      have hx0 : (!decide (sgn (p : Int) r = sgn (r : Int) p)) = decide (p % 4 = 3 ∧ r % 4 = 3) := by
        by_cases h8 : p % 4 = 3 ∧ r % 4 = 3
        · rw [decide_eq_true h8, decide_eq_false (fun z => (lt.mp z) h8)]; rfl
        · rw [decide_eq_false h8, decide_eq_true (lt.mpr h8)]; rfl
      refine i_ite (fun h7 => ?_) (fun h7 => ?_)
      · walk_at "go"
        have hb' : decide (p % 4 = 3 ∧ r % 4 = 3) = decide ((r : Int) % 4 = 3) := by
          by_cases h8 : (r : Int) % 4 = 3
          · rw [decide_eq_true h8, decide_eq_true ⟨by omega, by omega⟩]
          · rw [decide_eq_false h8, decide_eq_false (fun z => h8 (by omega))]
        have hx := hx0.trans hb'
        refine i_newTW (lz rfl) w9 (fun t10 G1 ht10 v1 f1 hh1 => ?_)
        walk_at "go"
        refine c_two hp6 hr6 hne (fun t11 G2 ht11 f2 hh2 => ?_)
        rw [hb'] at hh2
        walk_at "go"
        refine i_reprT hh2 ca cb (fun z1 hz1 => ?_)
        walk_at "go"
        refine i_reprT (ex_at f2 hh1) ca cb (fun z2 hz2 => ?_)
        obtain rfl : z2 = z1 := hz2.trans hz1.symm
        clear hz1 hz2
        walk_at "go"
        rw [decide_eq_true rfl]
        walk_at "go"
        rw [hx]
        refine ⟨rfl, ?_⟩
        rw [decide_eq_true rfl]
        walk_at "go"
        refine c_two hr6 hp6 (Ne.symm hne) (fun t12 G3 ht12 f3 hh3 => ?_)
        rw [hc', hb'] at hh3
        walk_at "go"
        refine i_newT (lz rfl) (fun t13 G4 ht13 f4 hh4 => ?_)
        refine i_neTrip (ex_at f4 hh3) hh4 cb ca ?_
        walk_at "go"
        exact ⟨_, _, rfl, f1.trans (f2.trans (f3.trans f4))⟩
      · walk_at "go"
        have hb' : decide (p % 4 = 3 ∧ r % 4 = 3) = false := decide_eq_false (fun z => h7 (by omega))
        have hx := hx0.trans hb'
        refine i_newTW (lz rfl) w9 (fun t10 G1 ht10 v1 f1 hh1 => ?_)
        walk_at "go"
        refine c_two hp6 hr6 hne (fun t11 G2 ht11 f2 hh2 => ?_)
        rw [hb'] at hh2
        walk_at "go"
        refine i_reprT hh2 ca cb (fun z1 hz1 => ?_)
        walk_at "go"
        refine i_reprT (ex_at f2 hh1) ca cb (fun z2 hz2 => ?_)
        obtain rfl : z2 = z1 := hz2.trans hz1.symm
        clear hz1 hz2
        walk_at "go"
        rw [decide_eq_true rfl]
        walk_at "go"
        rw [hx]
        refine ⟨rfl, ?_⟩
        rw [decide_eq_true rfl]
        walk_at "go"
        refine c_two hr6 hp6 (Ne.symm hne) (fun t12 G3 ht12 f3 hh3 => ?_)
        rw [hc', hb'] at hh3
        walk_at "go"
        refine i_newT (lz rfl) (fun t13 G4 ht13 f4 hh4 => ?_)
        refine i_neTrip (ex_at f4 hh3) hh4 cb ca ?_
        walk_at "go"
        exact ⟨_, _, rfl, f1.trans (f2.trans (f3.trans f4))⟩
    · walk_at "go"
      exact ⟨_, _, rfl, Same.refl _⟩
  rintro σ10 H10 ⟨x10, y10, rfl, e10⟩
  have xm := xm9.trans (ExM.of e10)
  have w := w9.ex e10
  clear xm9 w9 e10
  walk_at "go"
  refine i_newLW (lz rfl) w (fun t1 H1 ht1 w1 e1 hh1 => ?_)
  walk_at "go"
  refine c_some w1 ht1 hh1 ⟨Nat.le_of_ble_eq_true rfl, Nat.le_of_ble_eq_true rfl⟩ (fun bad H2 hbm w2 x2 => ?_)
  have hbt : ∀ H, Thing H bad := by
    intro H
    simp only [List.mem_cons, List.not_mem_nil, or_false] at hbm
    rcases hbm with z | z | z | z | z | z | z | z | z | z <;> subst z <;> constructor
  have hbad : isP6 bad = false := by
    simp only [List.mem_cons, List.not_mem_nil, or_false] at hbm
    exact bads6 hbm
  walk_at "go"
  refine i_newLW (lz rfl) w2 (fun t3 H3 ht3 w3 e3 hh3 => ?_)
  walk_at "go"
  refine c_some w3 ht3 hh3 ⟨Nat.le_of_ble_eq_true rfl, Nat.le_of_ble_eq_true rfl⟩ (fun odd H4 hom w4 x4 => ?_)
  have hot : ∀ H, Thing H odd := by
    intro H
    simp only [List.mem_cons, List.not_mem_nil, or_false] at hom
    rcases hom with z | z | z | z | z <;> subst z <;> constructor
  have hon : isN30 odd = false := by
    simp only [List.mem_cons, List.not_mem_nil, or_false] at hom
    rcases hom with z | z | z | z | z <;> subst z <;> first | rfl | exact decide_eq_false (by decide)
  replace xm := xm.trans ((ExM.of e1).trans (x2.trans ((ExM.of e3).trans x4)))
  replace w := w4
  clear w1 w2 w3 w4 x2 x4 e1 e3 hh1 hh3 ht1 ht3 hbm hom
  walk_at "go"
  refine ⟨w.tabs, fun H1 en tb E' Q' hE hQ => ?_⟩
  replace xm := xm.trans (ExM.ofN en)
  replace w := w.exN en tb
  clear en tb hQ
  walk_at "go"
  refine s_badp ha (hbt _) hbad (fun H2 e2 => hE _ _ _ _ rfl (.inl ⟨rfl, rfl⟩) (fun H3 e3 => ?_))
  replace xm := xm.trans (ExM.of (e2.trans e3))
  replace w := w.ex (e2.trans e3)
  clear e2 e3
  walk_at "go"
  refine ⟨w.tabs, fun H1 en tb E' Q' hE hQ => ?_⟩
  replace xm := xm.trans (ExM.ofN en)
  replace w := w.exN en tb
  clear en tb hQ
  walk_at "go"
  refine t_bad (hbt _) (.int _) (by rw [hbad]; rfl) (fun H2 e2 => hE _ _ _ _ rfl (.inl ⟨rfl, rfl⟩) (fun H3 e3 => ?_))
  replace xm := xm.trans (ExM.of (e2.trans e3))
  replace w := w.ex (e2.trans e3)
  clear e2 e3
  walk_at "go"
  refine i_newLW (lz rfl) w (fun l1 H4 hl1 w4 e4 hh1 => ?_)
  replace xm := xm.trans (ExM.of e4)
  replace w := w4
  clear w4 e4
  walk_at "go"
  refine ⟨w.tabs, fun H1 en tb E' Q' hE hQ => ?_⟩
  replace xm := xm.trans (ExM.ofN en)
  replace w := w.exN en tb
  replace hh1 := en _ _ hh1 (fun _ z => by cases z)
  clear en tb hQ
  walk_at "go"
  refine t_bad (.int _) (hbt _) (by rw [hbad, Bool.and_false]) (fun H2 e2 => hE _ _ _ _ rfl (.inl ⟨rfl, rfl⟩) (fun H3 e3 => ?_))
  replace xm := xm.trans (ExM.of (e2.trans e3))
  replace w := w.ex (e2.trans e3)
  replace hh1 := ex_at (e2.trans e3) hh1
  clear e2 e3
  walk_at "go"
  refine ⟨w.tabs, fun H1 en tb E' Q' hE hQ => ?_⟩
  replace xm := xm.trans (ExM.ofN en)
  replace w := w.exN en tb
  replace hh1 := en _ _ hh1 (fun _ z => by cases z)
  clear en tb hQ
  walk_at "go"
  refine s_badn (hot _) (.int _) hon (fun H2 e2 => hE _ _ _ _ rfl (.inr ⟨rfl, rfl⟩) (fun H3 e3 => ?_))
  replace xm := xm.trans (ExM.of (e2.trans e3))
  replace w := w.ex (e2.trans e3)
  replace hh1 := ex_at (e2.trans e3) hh1
  clear e2 e3
  walk_at "go"
  refine i_newLW (lz rfl) w (fun l2 H4 hl2 w4 e4 hh2 => ?_)
  refine i_cat (ex_at e4 hh1) hh2 (lz rfl) (fun l H5 hl0 e5 hl => ?_)
  have w0 := w4
  have xb := xm.trans (ExM.of e4)
  replace w := w4.ex e5
  replace xm := ExM.of (h := h) e5
  clear w4 e5
  walk_at "go"
  refine ⟨w.tabs, fun H1 en tb E' Q' hE hQ => ?_⟩
  replace xm := xm.trans (ExM.ofN en)
  replace w := w.exN en tb
  replace hl := en _ _ hl (fun _ z => by cases z)
  clear en tb hQ
  walk_at "go"
  refine t_same (fun H2 e2 => hE _ _ _ _ rfl (.inl ⟨rfl, rfl⟩) (fun H3 e3 => ?_)) hp6
  replace xm := xm.trans (ExM.of (e2.trans e3))
  replace w := w.ex (e2.trans e3)
  replace hl := ex_at (e2.trans e3) hl
  clear e2 e3
  walk_at "go"
  refine i_append hl (Nat.le_of_ble_eq_true rfl) ?_
  obtain ⟨w5, x5⟩ := w0.write hl0 w xm hl (ys := [.str "prime", .str "prime", .str "prime", .str "number", .str "prime"])
  walk_at "go"
  refine i_newL (lz rfl) (fun a5 G5 ha5 f5 hh5 => ?_)
  refine ⟨_, _, .lst (sql_of (ex_at f5 upd_same)) (.cons (.str _) (.cons (.str _) (.cons (.str _) (.cons (.str _) (.cons (.str _) .nil))))), .lst (sql_of hh5) (.cons (.str _) (.cons (.str _) (.cons (.str _) (.cons (.str _) (.cons (.str _) .nil))))), by decide +kernel, by decide +kernel, ?_⟩
  have key : ∀ b : Bool, b = true → Q (.bl b) G5 := fun b e => by subst e; exact q _ (w5.ex f5) (xb.trans (x5.trans (.of f5)))
  exact key _ (by decide +kernel)

def sp_law (K : PySem.W.Frag) (P : Addr) : Sp := fun vs H Q _ => ∃ (a : Addr) (ns : List Int), vs = [.ref a] ∧ SqL K H a (ns.map V.int) ∧ ns.length ≤ 63 ∧ LamX.Tabs [(P, LQ "_law_is_right")] H ∧ ∀ H', Q (.bl true) H'
def noDiv (n : Nat) : Nat → Nat → Bool
  | lo, 0 => n % lo != 0
  | lo, k + 1 => noDiv n lo k && noDiv n (lo + 2 ^ k) k
theorem noDiv_ok {n : Nat} : ∀ {k lo : Nat}, noDiv n lo k = true → ∀ d, lo ≤ d → d < lo + 2 ^ k → n % d ≠ 0
  | 0, lo, h, d, h1, h2 => by
    have : d = lo := by omega
    subst this
    exact bne_iff_ne.mp h
  | k + 1, lo, h, d, h1, h2 => by
    have h3 : (noDiv n lo k && noDiv n (lo + 2 ^ k) k) = true := h
    rw [Bool.and_eq_true] at h3
    rw [Nat.pow_succ] at h2
    by_cases h4 : d < lo + 2 ^ k
    · exact noDiv_ok h3.1 d h1 h4
    · exact noDiv_ok h3.2 d (by omega) (by omega)
theorem isP_of {n : Nat} (h : noDiv n 2 15 = true) (h1 : 32770 ≤ n) (h2 : n < 32770 * 32770) : IsP n := by
  refine ⟨by omega, fun d ⟨e, he⟩ => ?_⟩
  have hd0 : d ≠ 0 := fun z => by rw [z, Nat.zero_mul] at he; omega
  have he0 : e ≠ 0 := fun z => by rw [z, Nat.mul_zero] at he; omega
  by_cases hd : d < 32770
  · by_cases h3 : 2 ≤ d
    · exact absurd (Nat.mod_eq_zero_of_dvd ⟨e, he⟩) (noDiv_ok h d h3 (by omega))
    · left; omega
  · by_cases h4 : 2 ≤ e
    · have : e < 32770 := by
        apply Classical.byContradiction
        intro c
        have : 32770 * 32770 ≤ d * e := Nat.mul_le_mul (by omega) (by omega)
        omega
      exact absurd (Nat.mod_eq_zero_of_dvd ⟨d, by rw [he, Nat.mul_comm]⟩) (noDiv_ok h e h4 (by omega))
    · have : e = 1 := by omega
      right; rw [he, this, Nat.mul_one]
theorem isP_last : IsP 999983 := isP_of (by decide +kernel) (by decide) (by decide)
theorem sgn27 : sgn 2 7 = 1 := by decide +kernel
theorem sgn37 : sgn 3 7 = -1 := by decide +kernel
theorem sgn73 : sgn 7 3 = 1 := by decide +kernel
theorem sgn147 : sgn (-14) 7 = 0 := by decide +kernel
theorem sgn_last : sgn (-1) 999983 = -1 := by
  unfold sgn
  rw [if_neg (by decide), neg_pow_par, if_neg (by decide)]

theorem sc_law : FnScope ["script", "hand", "lap"] ["script"] (defScope s_law) := ⟨rfl, rfl, rfl, by decide +kernel, rfl, by decide +kernel, by decide +kernel⟩
theorem ok_law {P : Program} {w : World} {K : PySem.W.Frag} {mg : Str → Option Value} {base : Heap} {f Pt : Addr} {fd : FuncData} {C_BadPrime C_BadNumber : Addr} (D : Dn K mg "law" s_law ["script"] f fd) (hB : ∀ x ∈ bl, mg x = none)
    (G__law_hand : OkE P w K mg base 1 "_law_hand" ["script"] (sp__law_hand K)) (G_prime_sign : OkE P w K mg base 3 "prime_sign" ["number", "prime"] (sp_prime_sign C_BadNumber C_BadPrime)) (G__law_is_right : OkGE P w K mg base 7 "_law_is_right" ["hand"] (sp__law_is_right Pt)) (G_law_of_two : OkE P w K mg base 4 "law_of_two" ["one", "other"] (sp_law_of_two C_BadNumber C_BadPrime)) : OkGE P w K mg base 8 "law" ["script"] (sp_law K Pt) := by
  refine D.okG sc_law (by walk_at "len") (fun cdv A outer s H vs Q E hr h => ?_)
  obtain ⟨a, ns, rfl, hS, hl, hT, q⟩ := h
  refine ⟨_, (pss_cons (ps_set (i := 1) sc_law.nd rfl (Or.inr rfl) (pe_callO G__law_hand hr.toRoom (by decide) (by rfl) passB (pa_cons (pv 0) pa_nil)))
(pss_cons (ps_if (pt_cmpR (op_neD hr.units) (pe_lst (pa_cons (pe_callO G_prime_sign hr.toRoom (by decide) (by rfl) passB (pa_cons pe_int (pa_cons pe_int pa_nil))) (pa_cons (pe_callO G_prime_sign hr.toRoom (by decide) (by rfl) passB (pa_cons pe_int (pa_cons pe_int pa_nil))) (pa_cons (pe_callO G_prime_sign hr.toRoom (by decide) (by rfl) passB (pa_cons (pe_un un_neg pe_int) (pa_cons pe_int pa_nil))) (pa_cons (pe_callO G_prime_sign hr.toRoom (by decide) (by rfl) passB (pa_cons (pe_un un_neg pe_int) (pa_cons pe_int pa_nil))) pa_nil))))) (pe_lst (pa_cons pe_int (pa_cons (pe_un un_neg pe_int) (pa_cons pe_int (pa_cons (pe_un un_neg pe_int) pa_nil))))) (nomark _)) (pss_one (ps_ret pe_bl)) pss_nil)
(pss_one (ps_ret (pe_and (pe_cmpR (op_eqD hr.units) (pe_callO G_law_of_two hr.toRoom (by decide) (by rfl) passB (pa_cons pe_int (pa_cons pe_int pa_nil))) (pe_tup (pa_cons (pe_un un_neg pe_int) (pa_cons pe_int (pa_cons pe_bl pa_nil)))) (nomark _)) (pe_one (pe_callB (cr_all rfl) (by rfl) (hB "all" (by decide)) (by decide +kernel) (pa_cons (pe_lc (own := [("lap", 2)]) (by rfl) sc_law.nd (pi_range1 (by rfl) (hB "range" (by decide)) (pa_cons pe_int pa_nil)) (blkOk_by (N := ["script", "hand", "lap"]) (sc := defScope s_law) (by decide +kernel)) (fun _ _ _ _ _ => (pg_name (i := 2) sc_law.nd rfl (Or.inl rfl))) (fun _ _ _ _ _ => pts_nil) (fun _ _ _ _ _ => (pe_callG G__law_is_right hr (by decide) (by rfl) passL (pa_cons (pv 1) pa_nil)))) pa_nil)))))))), ?_⟩
  walk_at "start"
  walk_at "go"
  refine ⟨a, ns, rfl, hS, hl, fun h H1 hh e1 hw => ?_⟩
  have w : Wd [(Pt, LQ "_law_is_right")] H1 h := ⟨hw, hT.ext e1⟩
  walk_at "go"
  have p7 : isP6 (.int ((7 : Nat) : Int)) = true := isP6_nat ((isPb_iff 7).mp rfl) (by decide)
  have p3 : isP6 (.int ((3 : Nat) : Int)) = true := isP6_nat ((isPb_iff 3).mp rfl) (by decide)
  have pl : isP6 (.int ((999983 : Nat) : Int)) = true := isP6_nat isP_last (by decide)
  refine c_sign (p := 7) (by decide) p7 (fun H2 e2 => ?_)
  walk_at "go"
  refine c_sign (p := 7) (by decide) p7 (fun H3 e3 => ?_)
  walk_at "go"
  refine c_sign (p := 7) (by decide) p7 (fun H4 e4 => ?_)
  walk_at "go"
  refine c_sign (p := 999983) (by decide) pl (fun H5 e5 => ?_)
  rw [sgn27, sgn37, sgn147, sgn_last]
  walk_at "go"
  refine i_newL (lz rfl) (fun l1 H6 hl1 e6 hh1 => ?_)
  walk_at "go"
  refine i_newL (lz rfl) (fun l2 H7 hl2 e7 hh2 => ?_)
  refine i_neLI (xs := [1, -1, 0, -1]) (ys := [1, -1, 0, -1]) (ex_at e7 hh1) hh2 ?_
  rw [decide_eq_true rfl]
  walk_at "go"
  refine c_two (p := 3) (r := 7) p3 p7 (by decide) (fun t8 H8 ht8 e8 hh8 => ?_)
  rw [show sgn (3 : Nat) 7 = -1 from sgn37, show sgn (7 : Nat) 3 = 1 from sgn73] at hh8
  walk_at "go"
  refine i_newT (lz rfl) (fun t9 H9 ht9 e9 hh9 => ?_)
  refine i_eqTrip (ex_at e9 hh8) hh9 (by decide) (by decide) ?_
  walk_at "go"
  have w9 : Wd [(Pt, LQ "_law_is_right")] H9 h := w.ex (e2.trans (e3.trans (e4.trans (e5.trans (e6.trans (e7.trans (e8.trans e9)))))))
  refine ⟨by decide, by decide, ?_⟩
  refine lcRW (fun _ y => y = .bl true) w9 (by decide) (fun i G R hi v9 x9 hR => ?_) (fun c G ys hy1 hy2 hc v9 x9 hc9 => ?_)
  · simp only [wipe, List.set]
    walk_at "go"
    refine ⟨rfl, ?_⟩
    walk_at "go"
    exact c_is_right v9 List.mem_cons_self (fun x hx _ => by rw [List.mem_singleton] at hx; rw [hx]) (fun G2 v10 x10 => hR _ _ rfl v10 x10)
  · have hys : ys = List.map V.bl [true, true, true, true] := by
      have : ys = List.replicate 4 (.bl true) := List.eq_replicate_iff.mpr ⟨hy1, fun b hb => by
        obtain ⟨i, hi⟩ := List.getElem?_of_mem hb
        exact hy2 i b hi⟩
      rw [this]; rfl
    rw [hys] at hc9
    walk_at "go"
    refine i_all hc9 ?_
    exact q _

def d_is_integer : He.DefD := ⟨("is_integer", none), "is_integer", "is_integer", defArgs s_is_integer, defBody s_is_integer, defScope s_is_integer, [], []⟩
def d_is_within : He.DefD := ⟨("is_within", none), "is_within", "is_within", defArgs s_is_within, defBody s_is_within, defScope s_is_within, [], []⟩
def d_primes_of : He.DefD := ⟨("primes_of", none), "primes_of", "primes_of", defArgs s_primes_of, defBody s_primes_of, defScope s_primes_of, [], []⟩
def d_is_prime : He.DefD := ⟨("is_prime", none), "is_prime", "is_prime", defArgs s_is_prime, defBody s_is_prime, defScope s_is_prime, [], []⟩
def d_prime_sign : He.DefD := ⟨("prime_sign", none), "prime_sign", "prime_sign", defArgs s_prime_sign, defBody s_prime_sign, defScope s_prime_sign, [], []⟩
def d_law_of_two : He.DefD := ⟨("law_of_two", none), "law_of_two", "law_of_two", defArgs s_law_of_two, defBody s_law_of_two, defScope s_law_of_two, [], []⟩
def d__law_hand : He.DefD := ⟨("_law_hand", none), "_law_hand", "_law_hand", defArgs s__law_hand, defBody s__law_hand, defScope s__law_hand, [], []⟩
def d__law_draw : He.DefD := ⟨("_law_draw", none), "_law_draw", "_law_draw", defArgs s__law_draw, defBody s__law_draw, defScope s__law_draw, [], []⟩
def d__law_some : He.DefD := ⟨("_law_some", none), "_law_some", "_law_some", defArgs s__law_some, defBody s__law_some, defScope s__law_some, [], []⟩
def d__law_word : He.DefD := ⟨("_law_word", none), "_law_word", "_law_word", defArgs s__law_word, defBody s__law_word, defScope s__law_word, [], []⟩
def d__law_is_prime : He.DefD := ⟨("_law_is_prime", none), "_law_is_prime", "_law_is_prime", defArgs s__law_is_prime, defBody s__law_is_prime, defScope s__law_is_prime, [], []⟩
def d__law_prime : He.DefD := ⟨("_law_prime", none), "_law_prime", "_law_prime", defArgs s__law_prime, defBody s__law_prime, defScope s__law_prime, [], []⟩
def d__law_sign : He.DefD := ⟨("_law_sign", none), "_law_sign", "_law_sign", defArgs s__law_sign, defBody s__law_sign, defScope s__law_sign, [], []⟩
def d__law_number : He.DefD := ⟨("_law_number", none), "_law_number", "_law_number", defArgs s__law_number, defBody s__law_number, defScope s__law_number, [], []⟩
def d__law_is_right : He.DefD := ⟨("_law_is_right", none), "_law_is_right", "_law_is_right", defArgs s__law_is_right, defBody s__law_is_right, defScope s__law_is_right, [], []⟩
def d_law : He.DefD := ⟨("law", none), "law", "law", defArgs s_law, defBody s_law, defScope s_law, [], []⟩
def fn_0 : List He.DefD := [d_is_integer, d_is_within, d_primes_of, d_is_prime, d_prime_sign, d_law_of_two, d__law_hand, d__law_draw, d__law_some, d__law_word, d__law_is_prime, d__law_prime, d__law_sign, d__law_number, d__law_is_right, d_law]
def fn : List He.DefD := fn_0
def fa_0 : List He.Fa := [.glo "is_integer", .glo "is_within", .glo "primes_of", .glo "is_prime", .glo "prime_sign", .glo "law_of_two", .glo "_law_hand", .glo "_law_draw", .glo "_law_some", .glo "_law_word", .glo "_law_is_prime", .glo "_law_prime", .glo "_law_sign", .glo "_law_number", .glo "_law_is_right", .glo "law", .glo "PlotError", .exc "PlotError", .glo "BadNumber", .exc "BadNumber", .glo "BadPrime", .exc "BadPrime", .exm "PlotError" "PlotError" true, .exm "PlotError" "BadNumber" false, .exm "PlotError" "BadPrime" false, .exm "BadNumber" "PlotError" true, .exm "BadNumber" "BadNumber" true, .exm "BadNumber" "BadPrime" false, .exm "BadPrime" "PlotError" true, .exm "BadPrime" "BadNumber" false]
def fa_1 : List He.Fa := [.exm "BadPrime" "BadPrime" true, .free "ValueError", .free "abs", .free "all", .free "bool", .free "int", .free "isinstance", .free "len", .free "min", .free "range", .free "repr"]
def fa : List He.Fa := fa_0 ++ fa_1
def names_0 : List PySem.Str := ["is_integer", "is_within", "primes_of", "is_prime", "PlotError", "BadNumber", "BadPrime", "prime_sign", "law_of_two", "_law_hand", "_law_draw", "_law_some", "_law_word", "_law_is_prime", "_law_prime", "_law_sign", "_law_number", "_law_is_right"]
def names : List PySem.Str := names_0
def tf : List He.Defn := [("_law_is_right", none)]
def exB (K : PySem.W.Frag) : Bool := excB K (He.ga K "BadPrime") && excB K (He.ga K "BadNumber") && kitB K (He.ga K "BadPrime") (He.ga K "BadPrime") true && kitB K (He.ga K "BadPrime") (He.ga K "BadNumber") false && kitB K (He.ga K "BadNumber") (He.ga K "BadPrime") false && kitB K (He.ga K "BadNumber") (He.ga K "BadNumber") true
abbrev R : PySem.W.OpenRow := PySem.W.OpenLaw.row PySem.Challenge.rw_fieldplots_k19_whole_signs_of_great_numb
abbrev hk : PySem.W.Hook := He.hookX 5 fa fn [] tf exB
def ob (s : PySem.W.SharedT) : He.AlX := He.obsX 5 fa fn [] tf exB (HandSHeadRun.getT s)
theorem ob_eq (s : PySem.W.SharedT) : ob s = hk.obs s.abs := He.obsX_eq (HandSHeadRun.getT_eq s)
theorem run (w : World) : HandSHeadRun.RunEq R (PySem.W.view R.prog [22]) hk ob 2000 names w := by
  intro os
  kernel_rfl
theorem law_facts {w : World} {K : PySem.W.Frag} {h : Heap} {mg : Str → Option Value} {f : Addr} (KX : K.In h) (G : h.Ns mainGlobals mg) (hfa : mg ("law" : Str) = some (.ref f)) (c : He.SaysX fa fn [] tf exB w h K) :
    LawG PySem.Challenge.rw_fieldplots_k19_whole_signs_of_great_numb w K 8 63 "script" mg f h := by
  have cd := c.t.d
  have hex := c.more
  unfold exB at hex
  simp only [Bool.and_eq_true] at hex
  obtain ⟨⟨⟨⟨⟨x0, x1⟩, x2⟩, x3⟩, x4⟩, x5⟩ := hex
  have xk_BadPrime := excB_ok x0
  have xk_BadNumber := excB_ok x1
  have kit_BadPrime_BadPrime := of_decide_eq_true x2
  have kit_BadPrime_BadNumber := of_decide_eq_true x3
  have kit_BadNumber_BadPrime := of_decide_eq_true x4
  have kit_BadNumber_BadNumber := of_decide_eq_true x5
  have hB : ∀ x ∈ bl, mg x = none := by
    intro x hx
    simp only [bl, List.mem_cons, List.not_mem_nil, or_false] at hx
    rcases hx with z | z | z | z | z | z | z | z | z | z
    · subst z; exact He.free_ok KX G (cd.fact 31 (f := .free "ValueError") rfl)
    · subst z; exact He.free_ok KX G (cd.fact 32 (f := .free "abs") rfl)
    · subst z; exact He.free_ok KX G (cd.fact 33 (f := .free "all") rfl)
    · subst z; exact He.free_ok KX G (cd.fact 34 (f := .free "bool") rfl)
    · subst z; exact He.free_ok KX G (cd.fact 35 (f := .free "int") rfl)
    · subst z; exact He.free_ok KX G (cd.fact 36 (f := .free "isinstance") rfl)
    · subst z; exact He.free_ok KX G (cd.fact 37 (f := .free "len") rfl)
    · subst z; exact He.free_ok KX G (cd.fact 38 (f := .free "min") rfl)
    · subst z; exact He.free_ok KX G (cd.fact 39 (f := .free "range") rfl)
    · subst z; exact He.free_ok KX G (cd.fact 40 (f := .free "repr") rfl)
  have x_PlotError := errC_of KX G (x := "PlotError") (cd.fact 16 rfl) (cd.fact 17 rfl)
  have x_BadNumber := errC_of KX G (x := "BadNumber") (cd.fact 18 rfl) (cd.fact 19 rfl)
  have x_BadPrime := errC_of KX G (x := "BadPrime") (cd.fact 20 rfl) (cd.fact 21 rfl)
  have exm_BadPrime_PlotError := He.exm_ok (x := "BadPrime") (y := "PlotError") (cd.fact 28 rfl)
  have exm_BadNumber_PlotError := He.exm_ok (x := "BadNumber") (y := "PlotError") (cd.fact 25 rfl)
  have es : Errs2 K _ _ _ := ⟨xk_BadPrime, xk_BadNumber, kit_BadPrime_BadPrime, kit_BadPrime_BadNumber, kit_BadNumber_BadPrime, kit_BadNumber_BadNumber, exm_BadPrime_PlotError, exm_BadNumber_PlotError⟩
  obtain ⟨fd_is_integer, F_is_integer⟩ := cd.def_ 0 (d := d_is_integer) rfl
  have D_is_integer : Dn K mg "is_integer" s_is_integer ["thing"] (He.fAd K ("is_integer", none)) fd_is_integer := ⟨fun_ofD F_is_integer, (He.glo_ok KX G (cd.fact 0 (f := .glo "is_integer") rfl)), F_is_integer.bindsN fun _ _ _ _ _ _ us hl => match us, hl with | [_], _ => rfl⟩
  obtain ⟨fd_is_within, F_is_within⟩ := cd.def_ 1 (d := d_is_within) rfl
  have D_is_within : Dn K mg "is_within" s_is_within ["thing", "low", "high"] (He.fAd K ("is_within", none)) fd_is_within := ⟨fun_ofD F_is_within, (He.glo_ok KX G (cd.fact 1 (f := .glo "is_within") rfl)), F_is_within.bindsN fun _ _ _ _ _ _ us hl => match us, hl with | [_, _, _], _ => rfl⟩
  obtain ⟨fd_primes_of, F_primes_of⟩ := cd.def_ 2 (d := d_primes_of) rfl
  have D_primes_of : Dn K mg "primes_of" s_primes_of ["number"] (He.fAd K ("primes_of", none)) fd_primes_of := ⟨fun_ofD F_primes_of, (He.glo_ok KX G (cd.fact 2 (f := .glo "primes_of") rfl)), F_primes_of.bindsN fun _ _ _ _ _ _ us hl => match us, hl with | [_], _ => rfl⟩
  obtain ⟨fd_is_prime, F_is_prime⟩ := cd.def_ 3 (d := d_is_prime) rfl
  have D_is_prime : Dn K mg "is_prime" s_is_prime ["number"] (He.fAd K ("is_prime", none)) fd_is_prime := ⟨fun_ofD F_is_prime, (He.glo_ok KX G (cd.fact 3 (f := .glo "is_prime") rfl)), F_is_prime.bindsN fun _ _ _ _ _ _ us hl => match us, hl with | [_], _ => rfl⟩
  obtain ⟨fd_prime_sign, F_prime_sign⟩ := cd.def_ 4 (d := d_prime_sign) rfl
  have D_prime_sign : Dn K mg "prime_sign" s_prime_sign ["number", "prime"] (He.fAd K ("prime_sign", none)) fd_prime_sign := ⟨fun_ofD F_prime_sign, (He.glo_ok KX G (cd.fact 4 (f := .glo "prime_sign") rfl)), F_prime_sign.bindsN fun _ _ _ _ _ _ us hl => match us, hl with | [_, _], _ => rfl⟩
  obtain ⟨fd_law_of_two, F_law_of_two⟩ := cd.def_ 5 (d := d_law_of_two) rfl
  have D_law_of_two : Dn K mg "law_of_two" s_law_of_two ["one", "other"] (He.fAd K ("law_of_two", none)) fd_law_of_two := ⟨fun_ofD F_law_of_two, (He.glo_ok KX G (cd.fact 5 (f := .glo "law_of_two") rfl)), F_law_of_two.bindsN fun _ _ _ _ _ _ us hl => match us, hl with | [_, _], _ => rfl⟩
  obtain ⟨fd__law_hand, F__law_hand⟩ := cd.def_ 6 (d := d__law_hand) rfl
  have D__law_hand : Dn K mg "_law_hand" s__law_hand ["script"] (He.fAd K ("_law_hand", none)) fd__law_hand := ⟨fun_ofD F__law_hand, (He.glo_ok KX G (cd.fact 6 (f := .glo "_law_hand") rfl)), F__law_hand.bindsN fun _ _ _ _ _ _ us hl => match us, hl with | [_], _ => rfl⟩
  obtain ⟨fd__law_draw, F__law_draw⟩ := cd.def_ 7 (d := d__law_draw) rfl
  have D__law_draw : Dn K mg "_law_draw" s__law_draw ["hand", "many"] (He.fAd K ("_law_draw", none)) fd__law_draw := ⟨fun_ofD F__law_draw, (He.glo_ok KX G (cd.fact 7 (f := .glo "_law_draw") rfl)), F__law_draw.bindsN fun _ _ _ _ _ _ us hl => match us, hl with | [_, _], _ => rfl⟩
  obtain ⟨fd__law_some, F__law_some⟩ := cd.def_ 8 (d := d__law_some) rfl
  have D__law_some : Dn K mg "_law_some" s__law_some ["hand", "things"] (He.fAd K ("_law_some", none)) fd__law_some := ⟨fun_ofD F__law_some, (He.glo_ok KX G (cd.fact 8 (f := .glo "_law_some") rfl)), F__law_some.bindsN fun _ _ _ _ _ _ us hl => match us, hl with | [_, _], _ => rfl⟩
  obtain ⟨fd__law_word, F__law_word⟩ := cd.def_ 9 (d := d__law_word) rfl
  have D__law_word : Dn K mg "_law_word" s__law_word ["call"] (He.fAd K ("_law_word", none)) fd__law_word := ⟨fun_ofD F__law_word, (He.glo_ok KX G (cd.fact 9 (f := .glo "_law_word") rfl)), F__law_word.bindsN fun _ _ _ _ _ _ us hl => match us, hl with | [_], _ => rfl⟩
  obtain ⟨fd__law_is_prime, F__law_is_prime⟩ := cd.def_ 10 (d := d__law_is_prime) rfl
  have D__law_is_prime : Dn K mg "_law_is_prime" s__law_is_prime ["number"] (He.fAd K ("_law_is_prime", none)) fd__law_is_prime := ⟨fun_ofD F__law_is_prime, (He.glo_ok KX G (cd.fact 10 (f := .glo "_law_is_prime") rfl)), F__law_is_prime.bindsN fun _ _ _ _ _ _ us hl => match us, hl with | [_], _ => rfl⟩
  obtain ⟨fd__law_prime, F__law_prime⟩ := cd.def_ 11 (d := d__law_prime) rfl
  have D__law_prime : Dn K mg "_law_prime" s__law_prime ["hand"] (He.fAd K ("_law_prime", none)) fd__law_prime := ⟨fun_ofD F__law_prime, (He.glo_ok KX G (cd.fact 11 (f := .glo "_law_prime") rfl)), F__law_prime.bindsN fun _ _ _ _ _ _ us hl => match us, hl with | [_], _ => rfl⟩
  obtain ⟨fd__law_sign, F__law_sign⟩ := cd.def_ 12 (d := d__law_sign) rfl
  have D__law_sign : Dn K mg "_law_sign" s__law_sign ["number", "prime"] (He.fAd K ("_law_sign", none)) fd__law_sign := ⟨fun_ofD F__law_sign, (He.glo_ok KX G (cd.fact 12 (f := .glo "_law_sign") rfl)), F__law_sign.bindsN fun _ _ _ _ _ _ us hl => match us, hl with | [_, _], _ => rfl⟩
  obtain ⟨fd__law_number, F__law_number⟩ := cd.def_ 13 (d := d__law_number) rfl
  have D__law_number : Dn K mg "_law_number" s__law_number ["hand", "prime"] (He.fAd K ("_law_number", none)) fd__law_number := ⟨fun_ofD F__law_number, (He.glo_ok KX G (cd.fact 13 (f := .glo "_law_number") rfl)), F__law_number.bindsN fun _ _ _ _ _ _ us hl => match us, hl with | [_, _], _ => rfl⟩
  obtain ⟨fd__law_is_right, F__law_is_right⟩ := cd.def_ 14 (d := d__law_is_right) rfl
  have D__law_is_right : Dn K mg "_law_is_right" s__law_is_right ["hand"] (He.fAd K ("_law_is_right", none)) fd__law_is_right := ⟨fun_ofD F__law_is_right, (He.glo_ok KX G (cd.fact 14 (f := .glo "_law_is_right") rfl)), F__law_is_right.bindsN fun _ _ _ _ _ _ us hl => match us, hl with | [_], _ => rfl⟩
  obtain ⟨fd_law, F_law⟩ := cd.def_ 15 (d := d_law) rfl
  have D_law : Dn K mg "law" s_law ["script"] (He.fAd K ("law", none)) fd_law := ⟨fun_ofD F_law, (He.glo_ok KX G (cd.fact 15 (f := .glo "law") rfl)), F_law.bindsN fun _ _ _ _ _ _ us hl => match us, hl with | [_], _ => rfl⟩
  refine ⟨fd_law, tf.map (He.cT K), sp_law K (He.cT K ("_law_is_right", none)).2, ⟨?_, ?_, ?_⟩, fun s u => F_law.bindsA (ps := ["script"]) (fun _ _ _ _ _ _ us hl => match us, hl with | [_], _ => rfl) s [u] rfl, ?_, ?_⟩
  · intro p hp
    obtain ⟨q, hq, e⟩ := List.mem_map.mp hp
    rw [← e]
    exact c.empty q hq
  · intro p hp
    obtain ⟨q, hq, e⟩ := List.mem_map.mp hp
    rw [← e]
    exact c.out q hq
  · intro p hp
    obtain ⟨q, hq, e⟩ := List.mem_map.mp hp
    rw [← e]
    exact PySem.W.codeHd_of_K KX (c.hd q hq)
  · intro H a ns hlen hbits hH hS
    exact ⟨a, ns, rfl, hS, hlen, fun p hp => by rw [List.mem_singleton] at hp; rw [hp]; exact LamX.TabS.nil (hH _ List.mem_cons_self), fun _ => rfl⟩
  · intro base hKb hNb hTB
    have hlw := hfa.symm.trans (He.glo_ok KX G (cd.fact 15 (f := .glo "law") rfl))
    cases hlw
    have TB := hTB (He.cT K ("_law_is_right", none)) List.mem_cons_self
    have G_is_integer := ok_is_integer (P := PySem.Challenge.rw_fieldplots_k19_whole_signs_of_great_numb.prog) (w := w) (base := base) D_is_integer hB
    have G_is_within := ok_is_within (P := PySem.Challenge.rw_fieldplots_k19_whole_signs_of_great_numb.prog) (w := w) (base := base) D_is_within G_is_integer
    have G_primes_of := ok_primes_of (P := PySem.Challenge.rw_fieldplots_k19_whole_signs_of_great_numb.prog) (w := w) (base := base) D_primes_of 
    have G_is_prime := ok_is_prime (P := PySem.Challenge.rw_fieldplots_k19_whole_signs_of_great_numb.prog) (w := w) (base := base) D_is_prime G_primes_of
    have G_prime_sign := ok_prime_sign (P := PySem.Challenge.rw_fieldplots_k19_whole_signs_of_great_numb.prog) (w := w) (base := base) D_prime_sign hB G_is_integer G_is_prime G_is_within x_BadNumber x_BadPrime
    have G_law_of_two := ok_law_of_two (P := PySem.Challenge.rw_fieldplots_k19_whole_signs_of_great_numb.prog) (w := w) (base := base) D_law_of_two G_is_prime G_is_within G_prime_sign x_BadPrime
    have G__law_hand := ok__law_hand (P := PySem.Challenge.rw_fieldplots_k19_whole_signs_of_great_numb.prog) (w := w) (base := base) D__law_hand hB
    have G__law_draw := ok__law_draw (P := PySem.Challenge.rw_fieldplots_k19_whole_signs_of_great_numb.prog) (w := w) (base := base) D__law_draw hB
    have G__law_some := ok__law_some (P := PySem.Challenge.rw_fieldplots_k19_whole_signs_of_great_numb.prog) (w := w) (base := base) D__law_some hB G__law_draw
    have G__law_is_prime := ok__law_is_prime (P := PySem.Challenge.rw_fieldplots_k19_whole_signs_of_great_numb.prog) (w := w) (base := base) D__law_is_prime hB
    have G__law_prime := ok__law_prime (P := PySem.Challenge.rw_fieldplots_k19_whole_signs_of_great_numb.prog) (w := w) (base := base) D__law_prime hB G__law_some G__law_draw G__law_is_prime
    have G__law_sign := ok__law_sign (P := PySem.Challenge.rw_fieldplots_k19_whole_signs_of_great_numb.prog) (w := w) (base := base) D__law_sign hB
    have G__law_number := ok__law_number (P := PySem.Challenge.rw_fieldplots_k19_whole_signs_of_great_numb.prog) (w := w) (base := base) D__law_number hB G__law_draw G__law_some
    have G__law_is_right := ok__law_is_right (P := PySem.Challenge.rw_fieldplots_k19_whole_signs_of_great_numb.prog) (w := w) (base := base) D__law_is_right (code_of D__law_is_right.fn) TB D__law_word hB x_PlotError x_BadPrime x_BadNumber es G__law_prime G__law_number G_prime_sign G__law_sign G__law_draw G_law_of_two G__law_some
    have G_law := ok_law (P := PySem.Challenge.rw_fieldplots_k19_whole_signs_of_great_numb.prog) (w := w) (base := base) D_law hB G__law_hand G_prime_sign G__law_is_right G_law_of_two
    exact G_law.fn D_law
end Fp
open PySem PySem.W PySem.Calls PyProof.Rows
theorem PySem.Challenge.cw_fieldplots_k19_whole_signs_of_great_numb_holds : PySem.Challenge.rw_fieldplots_k19_whole_signs_of_great_numb.Holds := by
  w_on; o_law
  refine HandSHeadRun.head_any (r := OpenLaw.row PySem.Challenge.rw_fieldplots_k19_whole_signs_of_great_numb) (q := view (OpenLaw.row PySem.Challenge.rw_fieldplots_k19_whole_signs_of_great_numb).prog [22]) (H := Fp.hk) (ob := Fp.ob) (M := 2000) (loose := Fp.names) (d := HandSHeadRun.topDef (OpenLaw.row PySem.Challenge.rw_fieldplots_k19_whole_signs_of_great_numb).prog 22) (kwd := []) Fp.ob_eq
    (by kernel_rfl) (fun s => by kernel_rfl) Fp.run (by kernel_rfl) (by kernel_rfl) (by kernel_rfl) (by rfl) (by first | assumption | decide +kernel) (by decide +kernel) ⟨rfl, rfl, rfl, rfl, rfl, by decide +kernel⟩ ?hw ?hc
  case hw => w_witness2
  case hc =>
    refine Fp.walk_G (l := PySem.Challenge.rw_fieldplots_k19_whole_signs_of_great_numb) (n := 63) (k := 8) (x := "script") rfl (by decide) (by kernel_rfl) ⟨rfl, by decide, by decide⟩ ?F
    intro w mg fa h Y G hmg0
    obtain ⟨K, KX, c⟩ := Y
    have hmg : mg ("law" : PySem.Str) = some (.ref fa) := by
      have e : (HandSHeadRun.topDef (OpenLaw.row PySem.Challenge.rw_fieldplots_k19_whole_signs_of_great_numb).prog 22).name = ("law" : PySem.Str) := by kernel_rfl
      rw [← e]
      exact hmg0
    exact ⟨K, KX, Fp.law_facts KX G hmg c⟩
