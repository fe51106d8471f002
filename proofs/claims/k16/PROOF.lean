import PyProof.Rows.All
import Wide.All
import OpenK.AllK
import Wide.FinOn
import PyProof.EqAt
import PyProof.EqKinds
import PyProof.TupleCall
import HandS.Base
import HandS.Call
import HandS.List
import HandS.Comp
import HandS.Ends
import HandS.Iter
import HandS.Exc
import HandS.ExcOwn
import HandS.ExcInit
import HandS.ClsMeth
import HandS.Words
import HandS.WordsList
import HandS.WordsExc
import HandS.ExcField
import HandS.TryMany
import HandS.IsInst
import HandS.FStr
import HandS.Conv
import HandS.Steps
import HandS.Evl
import HandS.RevTup
import HandS.Rev
import PyProof.ListRange
import HandS.NoneIn
import HandS.Defaults
import PySem.Challenge.RW_comestrue_k16_lines_that_hold_and_even_l
set_option Elab.async false
set_option linter.all false
set_option maxRecDepth 100000
set_option maxHeartbeats 4000000
namespace Lay
open PySem PySem.Spec PyProof.Rows L2 Evl

section
variable {X : Cx} {e : Expr} {es : List Expr} {ta : TA} {x : Str} {C0 : Addr} {mc : Value} {p1 p2 pos : Pos}
/-- Base.__init__(self, ..), Base an own class over ValueError without one of its own -/
theorem pe_binit {pl : Sem Bool} (hg : Gl X x) (hm : X.mg x = some (.ref C0)) (hr : ClX.CRead X.K C0 mc) (vV : PySem.W.findCls X.K (.ref C0) mc "__init__" = some (.val (.builtin "ValueError.__init__"))) (ha : PA X (e :: es) ta)
    (hdb : (x == ("__debug__" : Str)) = false := by decide)
    (hc : eval (.Call (.Attribute (.Name x p1) "__init__" p2) (e :: es) [] pos) X.env = (do
      let ov ← eval (.Name x p1) X.env
      standAt p2.atName
      let (f, first) ← holding [ov] (getMethod ov "__init__" pl)
      callWith pos f first (backTo pos (starEach (e :: es) X.env)) (backToKw pos (keywordEach [] X.env))) := by rfl)
    (he : starEach (e :: es) X.env = (false, eval e X.env) :: starEach es X.env := by rfl) (hpl : (backTo pos (starEach es X.env)).any (·.1) = false := by rfl) :
    PE X (.Call (.Attribute (.Name x p1) "__init__" p2) (e :: es) [] pos) (tVeI X.K ta) := by
  refine ⟨fun pins s σ H Q I h => ?_⟩
  refine PySem.W.methodCall_KW (ld_glob I hg hm ?_ hdb) hc
  refine PySem.W.method_cls I.kIn hr.ga (PySem.W.cls_value I.kIn hr.rd vV (by decide +kernel) ?_)
  show wpAny _ _ (callWith pos (Value.builtin "ValueError.__init__") [] (backTo pos (starEach (e :: es) X.env)) []) _ _ _
  refine PyProof.Rows.callWith_method1 (thn (ha.run pos pins _ σ H _ (I.tok _) h) fun us s1 ⟨vs, H1, I1, r1, a, C, ws, ev, hl, T, ea, q⟩ => ?_) he hpl
  subst ev
  cases r1 with
  | @cons _ u0 _ ur ra rw' =>
    obtain rfl : u0 = Value.ref a := ra
    have hlen : ur.length ≤ sizeLine := by
      rw [← Paired.length rw', sizeLine_eq]
      omega
    exact oinit_ok T I1 ea hlen fun s' J => ⟨.non, H1, J, rfl, q⟩
end

/-! ### a def as callers know it -/
structure Def (P : Program) (w : World) (K : PySem.W.Frag) (mg : Str → Option Value) (base : Heap) (x : Str) (k : Nat) (ps : List Str) (sp : Sp) : Prop where
  ex : ∃ (f : Addr) (fd : FuncData), FnOk P w K mg base (L2.CX P w) k f fd ps sp ∧ mg x = some (.ref f) ∧ PySem.W.keepIn K (.ref f) = true ∧ Binds K fd ps []
/-- the text of a def as it stands behind the top -/
structure At (K : PySem.W.Frag) (mg : Str → Option Value) (x : Str) (st : Stmt) (ps : List Str) : Prop where
  ex : ∃ (f : Addr) (fd : FuncData), Fun K x x st f fd ∧ mg x = some (.ref f) ∧ Binds K fd ps []
section
variable {P : Program} {w : World} {K : PySem.W.Frag} {mg : Str → Option Value} {base : Heap}
theorem Def.mk' {x : Str} {st : Stmt} {N ps : List Str} {k : Nat} {sp : Sp} (F : At K mg x st ps) (S : FnScope N ps (defScope st)) (len : ∀ vs H Q E, sp vs H Q E → vs.length = ps.length)
    (hbody : ∀ (f : Addr) (cdv : Value) (A : Around) (outer : List Env) (s : Shared) (H : Hp) (vs : List V) (Q : VK) (E : XK), Room k (A.deeper (envOfC x (defScope st) s.heap.objs.size f cdv)) → sp vs H Q E →
      ∃ t, PSs (cxOf (L2.CX P w) P w K mg base N x (defScope st) f cdv A outer s H E) (defBody st) t ∧ t { nx := fun _ H' => Q .non H', rt := Q } (start N vs) H) : Def P w K mg base x (k + 1) ps sp := by
  obtain ⟨f, fd, Ff, g, b⟩ := F.ex
  exact ⟨f, fd, Ff.okX S len (hbody f), g, Ff.kp, b⟩
theorem Def.imp {x : Str} {k : Nat} {ps : List Str} {sp sp' : Sp} (d : Def P w K mg base x k ps sp) (h : ∀ vs H Q E, sp' vs H Q E → sp vs H Q E) : Def P w K mg base x k ps sp' := by
  obtain ⟨f, fd, F, r⟩ := d.ex
  exact ⟨f, fd, F.imp h, r⟩
end
section
variable {X : Cx} {k : Nat} {ps : List Str} {sp : Sp} {E : XK} {x : Str} {p pos : Pos} {e : Expr} {es : List Expr} {t : TA}
theorem pe_d (d : Def X.prog X.w X.K X.mg X.base x k ps sp) (hr : Room k X.A) (hx : Passes (L2.CX X.prog X.w) X E) (ha : PA X (e :: es) t) (hg : Gl X x := by rfl)
    (hdb : (x == ("__debug__" : Str)) = false := by decide) (he : starEach (e :: es) X.env = (false, eval e X.env) :: starEach es X.env := by rfl) (hpl : (backTo pos (starEach es X.env)).any (·.1) = false := by rfl) :
    PE X (.Call (.Name x p) (e :: es) [] pos) (tCallS sp (fun _ => E) t) := by
  obtain ⟨f, fd, F, g, kp, b⟩ := d.ex
  exact pe_callS F hr hg g kp b (fun σ pins H s e s' I c => hx pins σ H s e s' I c) ha hdb he hpl
/-- in a try's body -/
theorem pe_dT {W : WX} (d : Def X.prog X.w X.K X.mg X.base x k ps sp) (hr : Room k X.A) (tk : Takes X W) (ha : PA X (e :: es) t) (hg : Gl X x := by rfl)
    (hdb : (x == ("__debug__" : Str)) = false := by decide) (he : starEach (e :: es) X.env = (false, eval e X.env) :: starEach es X.env := by rfl) (hpl : (backTo pos (starEach es X.env)).any (·.1) = false := by rfl) :
    PE X (.Call (.Name x p) (e :: es) [] pos) (tCallS sp (WE W) t) := by
  obtain ⟨f, fd, F, g, kp, b⟩ := d.ex
  exact pe_callS F hr hg g kp b (fun σ => passAt tk σ) ha hdb he hpl
end

/-! ### heaps -/
/-- all but what stands at l is as it was -/
def ExB (l : Addr) (H H' : Hp) : Prop := ∀ a o, a ≠ l → H a = some o → H' a = some o
theorem Ex.b {l : Addr} {H H' : Hp} (e : Ex H H') : ExB l H H' := fun a o _ h => e a o h
theorem ExB.refl (l : Addr) (H : Hp) : ExB l H H := fun _ _ _ h => h
theorem ExB.trans {l : Addr} {H H1 H2 : Hp} (a : ExB l H H1) (b : ExB l H1 H2) : ExB l H H2 := fun x o n h => b x o n (a x o n h)
theorem ExB.upd {l : Addr} {o : HO} {H H' : Hp} (e : ExB l H H') : ExB l H (upd H' l o) := fun a u n h => by
  rw [upd_ne n]
  exact e a u n h
/-- l is new since H -/
theorem ExB.ex {l : Addr} {H H1 H2 : Hp} (e : Ex H H1) (b : ExB l H1 H2) (n : H l = none) : Ex H H2 := fun a o h => b a o (ne_of_none h n) (e a o h)
theorem ExB.exB {l m : Addr} {H H1 H2 : Hp} (e : ExB m H H1) (b : ExB l H1 H2) (n : H l = none) : ExB m H H2 := fun a o h' h => b a o (ne_of_none h n) (e a o h' h)
theorem ex_at {H H' : Hp} {a : Addr} {o : HO} (e : Ex H H') (h : H a = some o) : H' a = some o := e a o h
theorem exb_at {l : Addr} {H H' : Hp} {a : Addr} {o : HO} (e : ExB l H H') (n : a ≠ l) (h : H a = some o) : H' a = some o := e a o n h
theorem exb_l {K : PySem.W.Frag} {l : Addr} {H H' : Hp} {a : Addr} {xs : List V} (e : ExB l H H') (n : a ≠ l) (h : SqL K H a xs) : SqL K H' a xs := by
  rcases h with (h | ⟨o, h⟩) | h
  · exact .inl (.inl (e _ _ n h))
  · exact .inl (.inr ⟨o, e _ _ n h⟩)
  · exact .inr h
theorem fresh_b {l : Addr} {H H' : Hp} {p : Addr} (e : Ex H H') (h : H' p = none) : H p = none := fresh_back e h
theorem exn {H : Hp} {p : Addr} {o : HO} (h : H p = none) : Ex H (upd H p o) := Ex.new h

/-! ### ints of a list -/
def gi (ns : List Int) (i : Int) : Int := ns.getD i.toNat 0
theorem atI_gi {ns : List Int} {i : Int} (h0 : 0 ≤ i) (h1 : i < ns.length) : atI (ns.map V.int) i = some (.int (gi ns i)) := by
  obtain ⟨j, rfl⟩ : ∃ j : Nat, i = (j : Int) := ⟨i.toNat, by omega⟩
  have hj : j < ns.length := by omega
  refine atI_nat ?_
  rw [List.getElem?_map]
  unfold gi
  rw [Int.toNat_natCast, List.getD_eq_getElem?_getD, List.getElem?_eq_getElem hj]
  rfl
theorem atI_V {xs : List V} {i : Int} {v : V} {j : Nat} (e : i = (j : Int)) (h : xs[j]? = some v) : atI xs i = some v := by
  rw [e]
  exact atI_nat h

/-! ### named readings -/
def rList (K : PySem.W.Frag) : List V → Hp → VK → Prop := fun xs H Q => ∃ p ys, xs = [.ref p] ∧ (SqL K H p ys ∨ SqT K H p ys) ∧ ∀ l, H l = none → Q (.ref l) (upd H l (.lst ys))
def rLen (K : PySem.W.Frag) : List V → Hp → VK → Prop := fun xs H Q => ∃ p ys, xs = [.ref p] ∧ (SqL K H p ys ∨ SqT K H p ys) ∧ Q (.int ys.length) H
def rInt1 : List V → Hp → VK → Prop := fun xs H Q => (∃ i, xs = [.int i] ∧ Q (.int i) H) ∨ ∃ k, xs = [.bl k] ∧ Q (.int (if k then 1 else 0)) H
def rAbs : List V → Hp → VK → Prop := fun xs H Q => ∃ i, xs = [.int i] ∧ Q (.int (if i < 0 then -i else i)) H
def rMx2 : List V → Hp → VK → Prop := fun xs H Q => ∃ i j, xs = [.int i, .int j] ∧ Q (.int (if j > i then j else i)) H
def rMn2 : List V → Hp → VK → Prop := fun xs H Q => ∃ i j, xs = [.int i, .int j] ∧ Q (.int (if j < i then j else i)) H
section
variable {X : Cx}
theorem c_list : CallR X (.type "list") (rList X.K) := call_list_of
theorem c_len : CallR X (.builtin "len") (rLen X.K) := call_len_seq
theorem c_int : CallR X (.type "int") rInt1 := call_int1
theorem c_abs : CallR X (.builtin "abs") rAbs := call_abs
theorem c_max2 (hc : X.calm = true) : CallR X (.builtin "max") rMx2 := call_max2 hc
theorem c_min2 (hc : X.calm = true) : CallR X (.builtin "min") rMn2 := call_min2 hc
end
/-- a new list, a new tuple: what follows is wished of it -/
def NewL (xs : List V) (H : Hp) (Q : VK) : Prop := xs.length ≤ sizeLine ∧ ∀ p, H p = none → Q (.ref p) (upd H p (.lst xs))
def NewT (xs : List V) (H : Hp) (Q : VK) : Prop := xs.length ≤ sizeLine ∧ ∀ p, H p = none → Q (.ref p) (upd H p (.tup xs))
/-! ### readings, step by step -/
section
variable {K : PySem.W.Frag} {σ : L2.St} {H : Hp} {D : Ends} {t u : TS} {te ta tb tc : TE} {c d : TT} {tr : TA} {Q : VK} {R : Bool → Hp → Prop} {S : List V → Hp → Prop} {v x y : V} {i j : Int} {n : Nat} {r : R2} {sp : Sp} {E : L2.St → XK}
theorem r_seq (h : t ⟨u D, D.rt, D.bk, D.ct⟩ σ H) : tSeq t u D σ H := h
theorem r_set (h : te σ H fun x H1 => D.nx (σ.set n (some x)) H1) : tAsg te (gName n) D σ H := h
theorem r_sub {s : TSet} (h : te σ H fun v H1 => ta σ H1 fun o H2 => tb σ H2 fun i H3 => s o i v H3 fun H4 => D.nx σ H4) : tAsg te (gSub ta tb s) D σ H := h
theorem r_aug {ti : TIp} (e : σ[n]? = some (some x)) (h : te σ H fun y H1 => ti x y H1 fun z H2 => D.nx (σ.set n (some z)) H2) : tAug n te ti D σ H := ⟨_, e, h⟩
theorem r_ipI {f : Int → Int → Int} (h : Q (.int (f i j)) H) : ipI f (.int i) (.int j) H Q := ⟨i, j, rfl, rfl, h⟩
theorem r_drop (h : te σ H fun _ H1 => D.nx σ H1) : tDrop te D σ H := h
theorem r_ret (h : te σ H D.rt) : tRet te D σ H := h
theorem r_retN (h : D.rt .non H) : tRetN D σ H := h
theorem r_if (h : c σ H fun b H1 => if b = true then t D σ H1 else u D σ H1) : tIfS c t u D σ H := h
theorem r_next (h : D.nx σ H) : tNext D σ H := h
theorem r_brk (h : D.bk σ H) : tBreak D σ H := h
theorem r_cont (h : D.ct σ H) : tCont D σ H := h
theorem r_var (e : σ[n]? = some (some v)) (h : Q v H) : tVar n σ H Q := ⟨v, e, h⟩
theorem r_c (h : Q v H) : tC v σ H Q := h
theorem r_op (h : ta σ H fun x H1 => tb σ H1 fun y H2 => r x y H2 Q) : tOp r ta tb σ H Q := h
theorem r_un {r : V → Hp → VK → Prop} (h : ta σ H fun x H1 => r x H1 Q) : tUn r ta σ H Q := h
theorem r_I0 {g : Int → Int → V} (h : Q (g i j) H) : rI0 g (.int i) (.int j) H Q := ⟨i, j, rfl, rfl, h⟩
theorem r_I {C : Int → Int → Prop} {g : Int → Int → V} (k : C i j) (h : Q (g i j) H) : rI C g (.int i) (.int j) H Q := ⟨i, j, rfl, rfl, k, h⟩
theorem r_U {g : Int → V} (h : Q (g i) H) : rU g (.int i) H Q := ⟨i, rfl, h⟩
theorem dI {i j : Int} : decide (V.int i = V.int j) = decide (i = j) := by
  by_cases e : i = j
  · rw [e]
    simp
  · rw [decide_eq_false e, decide_eq_false (fun h => e (V.int.inj h))]
theorem r_eqI (h : Q (.bl (decide (i = j))) H) : rEq (.int i) (.int j) H Q := ⟨rfl, by rw [dI]; exact h⟩
theorem r_neI (h : Q (.bl (!decide (i = j))) H) : rNe (.int i) (.int j) H Q := ⟨rfl, by rw [dI]; exact h⟩
theorem r_isN (h : Q (.bl (decide (x = .non))) H) : rIsN x .non H Q := ⟨rfl, h⟩
theorem r_notN (h : Q (.bl (!decide (x = .non))) H) : rNotN x .non H Q := ⟨rfl, h⟩
theorem r_test (h : te σ H fun x H' => ∃ k, x = .bl k ∧ R k H') : tTest te σ H R := h
theorem r_tB (h : te σ H fun x H' => ∃ k, x = .bl k ∧ R k H') : tB te σ H R := h
theorem r_bl {b : Bool} {P : Bool → Prop} (h : P b) : ∃ k, V.bl b = .bl k ∧ P k := ⟨b, rfl, h⟩
theorem r_and (h : c σ H fun b H1 => if b = true then d σ H1 R else R false H1) : tAnd c d σ H R := h
theorem r_or (h : c σ H fun b H1 => if b = true then R true H1 else d σ H1 R) : tOr c d σ H R := h
theorem r_not (h : c σ H fun b H1 => R (!b) H1) : tNot c σ H R := h
theorem r_andV (h : ta σ H fun x H1 => ∃ c, x = .bl c ∧ if c = true then tb σ H1 Q else Q (.bl false) H1) : tAndV ta tb σ H Q := h
theorem r_orV (h : ta σ H fun x H1 => ∃ c, x = .bl c ∧ if c = true then Q (.bl true) H1 else tb σ H1 Q) : tOrV ta tb σ H Q := h
theorem r_notV (h : ta σ H fun x H1 => ∃ c, x = .bl c ∧ Q (.bl (!c)) H1) : tNotV ta σ H Q := h
theorem r_tIf (h : c σ H fun b H1 => if b = true then ta σ H1 Q else tb σ H1 Q) : tIf c ta tb σ H Q := h
theorem r_nil (h : S [] H) : tNil σ H S := h
theorem r_cons (h : te σ H fun x H1 => tr σ H1 fun xs H2 => S (x :: xs) H2) : tCons te tr σ H S := h
theorem r_call (h : tr σ H fun vs H1 => sp vs H1 Q (E σ)) : tCallS sp E tr σ H Q := h
theorem r_cb {r : List V → Hp → VK → Prop} (h : tr σ H fun vs H1 => r vs H1 Q) : tCB r tr σ H Q := h
theorem r_lst (h : tr σ H fun xs H1 => NewL xs H1 Q) : tLst tr σ H Q := h
theorem r_tup (h : tr σ H fun xs H1 => NewT xs H1 Q) : tTup tr σ H Q := h
theorem r_newL {xs : List V} (l : xs.length ≤ 100000) (h : ∀ p H2, H p = none → Ex H H2 → H2 p = some (.lst xs) → Q (.ref p) H2) : NewL xs H Q := ⟨sz_of l, fun p hp => h p _ hp (Ex.new hp) upd_same⟩
theorem r_newT {xs : List V} (l : xs.length ≤ 100000) (h : ∀ p H2, H p = none → Ex H H2 → H2 p = some (.tup xs) → Q (.ref p) H2) : NewT xs H Q := ⟨sz_of l, fun p hp => h p _ hp (Ex.new hp) upd_same⟩
theorem r_ite {P : Prop} [Decidable P] {A B : Prop} (h1 : P → A) (h2 : ¬ P → B) : if decide P = true then A else B := by
  by_cases h : P
  · rw [if_pos (decide_eq_true h)]
    exact h1 h
  · rw [if_neg (by rw [decide_eq_false h]; decide)]
    exact h2 h
theorem r_iteN {P : Prop} [Decidable P] {A B : Prop} (h1 : ¬ P → A) (h2 : P → B) : if (!decide P) = true then A else B := by
  by_cases h : P
  · rw [decide_eq_true h]
    exact iteF (h2 h)
  · rw [decide_eq_false h]
    exact iteT (h1 h)
theorem r_yes {P : Prop} [Decidable P] {A B : Prop} (p : P) (h : A) : if decide P = true then A else B := r_ite (fun _ => h) fun q => absurd p q
theorem r_no {P : Prop} [Decidable P] {A B : Prop} (p : ¬ P) (h : B) : if decide P = true then A else B := r_ite (fun q => absurd q p) fun _ => h
theorem r_yesN {P : Prop} [Decidable P] {A B : Prop} (p : ¬ P) (h : A) : if (!decide P) = true then A else B := r_iteN (fun _ => h) fun q => absurd q p
theorem r_noN {P : Prop} [Decidable P] {A B : Prop} (p : P) (h : B) : if (!decide P) = true then A else B := r_iteN (fun q => absurd p q) fun _ => h
theorem r_nb {b : Bool} {A B : Prop} (h : if b = true then B else A) : if (!b) = true then A else B := by cases b <;> exact h
/-- xs[i] -/
theorem r_ixL {p : Addr} {xs : List V} (h : SqL K H p xs) (e : atI xs i = some v) (q : Q v H) : rIxL K (.ref p) (.int i) H Q := ⟨p, xs, i, v, rfl, rfl, h, e, q⟩
theorem r_ixI {p : Addr} {ns : List Int} (h : SqL K H p (ns.map V.int)) (h0 : 0 ≤ i) (h1 : i < ns.length) (q : Q (.int (gi ns i)) H) : rIxL K (.ref p) (.int i) H Q := r_ixL h (atI_gi h0 h1) q
theorem r_ixT {p : Addr} {xs : List V} (h : SqT K H p xs) (e : atI xs i = some v) (q : Q v H) : rIxT K (.ref p) (.int i) H Q := ⟨p, xs, i, v, rfl, rfl, h, e, q⟩
/-- xs[i] = v -/
theorem r_setL {p : Addr} {xs : List V} {Z : Hp → Prop} (h : H p = some (.lst xs)) (h0 : 0 ≤ i) (h1 : i < xs.length) (q : ∀ H2, ExB p H H2 → H2 p = some (.lst (xs.set i.toNat v)) → (∀ a, H a = none → H2 a = none) → Z H2) : rSetL (.ref p) (.int i) v H Z :=
  ⟨p, xs, i, i.toNat, rfl, rfl, h, by unfold ixN; rw [if_pos h0, if_pos h1], q _ (fun a o n e => by rw [upd_ne n]; exact e) upd_same fun a e => by rw [upd_ne (fun z => by rw [z, h] at e; cases e)]; exact e⟩
/-- xs.append(y) -/
theorem r_app {p : Addr} {xs : List V} (h : H p = some (.lst xs)) (l : xs.length < 100000) (q : ∀ H2, ExB p H H2 → H2 p = some (.lst (xs ++ [y])) → (∀ a, H a = none → H2 a = none) → Q .non H2) : rAppend (.ref p) [y] H Q :=
  ⟨p, xs, y, rfl, rfl, h, sz_lt l, q _ (fun a o n e => by rw [upd_ne n]; exact e) upd_same fun a e => by rw [upd_ne (fun z => by rw [z, h] at e; cases e)]; exact e⟩
theorem r_bmL {r : V → List V → Hp → VK → Prop} {p : Addr} {xs : List V} (h : SqL K H p xs) (q : tr σ H fun vs H2 => r (.ref p) vs H2 Q) (e : σ[n]? = some (some (.ref p))) : tBM K "list" r (tVar n) tr σ H Q := ⟨_, e, .inl ⟨rfl, _, h⟩, q⟩
theorem r_slL {p : Addr} {xs : List V} {lo hi : Option Int} (h : SqL K H p xs) (q : ∀ p2 H2, H p2 = none → Ex H H2 → H2 p2 = some (.lst (cutV xs lo hi)) → Q (.ref p2) H2) : rSlL K (.ref p) lo hi H Q := ⟨p, xs, rfl, h, fun p2 n => q p2 _ n (Ex.new n) upd_same⟩
theorem r_cat {p q : Addr} {xs ys : List V} (h : H p = some (.lst xs)) (h' : H q = some (.lst ys)) (l : xs.length + ys.length ≤ 100000) (k : ∀ p2 H2, H p2 = none → Ex H H2 → H2 p2 = some (.lst (xs ++ ys)) → Q (.ref p2) H2) : rCat (.ref p) (.ref q) H Q :=
  ⟨p, q, xs, ys, rfl, rfl, h, h', sz_of l, fun p2 n => k p2 _ n (Ex.new n) upd_same⟩
theorem r_list {p : Addr} {xs : List V} (h : SqL K H p xs) (k : ∀ p2 H2, H p2 = none → Ex H H2 → H2 p2 = some (.lst xs) → Q (.ref p2) H2) : rList K [.ref p] H Q := ⟨p, xs, rfl, .inl h, fun p2 n => k p2 _ n (Ex.new n) upd_same⟩
theorem r_len {p : Addr} {xs : List V} (h : SqL K H p xs) (q : Q (.int xs.length) H) : rLen K [.ref p] H Q := ⟨p, xs, rfl, .inl h, q⟩
theorem r_lenI {p : Addr} {ns : List Int} (h : SqL K H p (ns.map V.int)) (q : Q (.int ns.length) H) : rLen K [.ref p] H Q := r_len h (by rw [List.length_map]; exact q)
theorem r_int (q : Q (.int i) H) : rInt1 [.int i] H Q := .inl ⟨i, rfl, q⟩
theorem r_abs (q : Q (.int (if i < 0 then -i else i)) H) : rAbs [.int i] H Q := ⟨i, rfl, q⟩
theorem r_mx2 (q : Q (.int (if j > i then j else i)) H) : rMx2 [.int i, .int j] H Q := ⟨i, j, rfl, q⟩
theorem r_mn2 (q : Q (.int (if j < i then j else i)) H) : rMn2 [.int i, .int j] H Q := ⟨i, j, rfl, q⟩
theorem r_sum {p : Addr} {ns : List Int} (h : SqL K H p (ns.map V.int)) (q : Q (.int ns.sum) H) : rSum K [.ref p] H Q := ⟨p, ns, rfl, h, q⟩
theorem r_max {p : Addr} {ns : List Int} (h : SqL K H p (ns.map V.int)) (l : 0 < ns.length) (q : ∀ m, m ∈ ns → (∀ y, y ∈ ns → y ≤ m) → Q (.int m) H) : rMax K [.ref p] H Q := ⟨p, ns, rfl, h, l, q⟩
theorem r_eqD {x y : V} {d e : PyData} (hx : Dp K H x d) (hy : Dp K H y e) (s1 : SeqAt.shaped d = true) (s2 : SeqAt.shaped e = true) (q : Q (.bl (PyData.eqv d e)) H) : rEqD K x y H Q := ⟨d, e, hx, hy, s1, s2, q⟩
theorem r_neD {x y : V} {d e : PyData} (hx : Dp K H x d) (hy : Dp K H y e) (s1 : SeqAt.shaped d = true) (s2 : SeqAt.shaped e = true) (q : Q (.bl (!PyData.eqv d e)) H) : rNeD K x y H Q := ⟨d, e, hx, hy, s1, s2, q⟩
/-- isinstance of an int -/
theorem r_isiI {nm : String} {b : Bool} (h : PySem.W.kitOne K (.type "int") (.type nm) = some b) (q : Q (.bl b) H) : rIsi K [.int i, .ty nm] H Q := ⟨.int i, .ty nm, .type "int", .type nm, b, rfl, .ty nm, .base (.int i), h, q⟩
theorem r_isiL {nm : String} {b : Bool} {p : Addr} {xs : List V} (h : PySem.W.kitOne K (.type "list") (.type nm) = some b) (hp : H p = some (.lst xs)) (q : Q (.bl b) H) : rIsi K [.ref p, .ty nm] H Q := ⟨.ref p, .ty nm, .type "list", .type nm, b, rfl, .ty nm, .base (.lst hp), h, q⟩
end

/-! ### o[i] of a list, by values; o[i] op= e -/
section
variable {X : Cx}
theorem get_list : PGet X (rIxL X.K) := by
  intro pins s σ H ov iv xv yv Q I rx ry h
  obtain ⟨p, xs, i, z, rfl, rfl, hq, he, q⟩ := h
  cases rx
  obtain ⟨t, rfl⟩ := ry
  obtain ⟨its, r, pl, hz⟩ := I.list hq
  obtain ⟨j, h1, h2, h3, h4, h5⟩ := atI_get he
  obtain ⟨w, ew, rw'⟩ := r.get h2
  have hl := r.length
  have hn := line63
  have done : EP X pins σ Q w s := ⟨z, H, I, rw', q⟩
  by_cases h0 : 0 ≤ i
  · have hj : i.toNat = j := Option.some.inj ((seqIndex_of h0 h5).symm.trans h1)
    exact wpAny_getItem_list pl.isList h0 (by omega) (by rw [hj]; simpa using ew) done
  · have hj : (i + (its.toArray.size : Int)).toNat = j := by
      rw [List.size_toArray, ← hl]
      exact Option.some.inj ((seqIndex_neg (by omega) h4).symm.trans h1)
    exact wpAny_getItem_list_neg pl.isList (by omega) (by rw [List.size_toArray] <;> omega) (by omega) (by rw [hj]; simpa using ew) done
end
section
variable {K : PySem.W.Frag} {σ : L2.St} {H : Hp} {D : Ends} {to ti te : TE} {tg : V → V → Hp → VK → Prop} {tp : TIp} {ts : TSet}
theorem r_augS (h : to σ H fun o H1 => ti σ H1 fun i H2 => tg o i H2 fun x H3 => te σ H3 fun y H4 => tp x y H4 fun z H5 => ts o i z H5 fun H6 => D.nx σ H6) : tAugS to ti te tg tp ts D σ H := h
end

/-! ### several except clauses, each with a name -/
/-- behind a clause its name's slot is empty -/
def finA (i : Nat) (D : Ends) : Ends := ⟨fun s h => D.nx (s.set i none) h, D.rt, fun s h => D.bk (s.set i none) h, fun s h => D.ct (s.set i none) h⟩
abbrev ClA := Value × Nat × (Addr → Value → Option Addr → TS)
def wManyA (K : PySem.W.Frag) (W0 : WX) (D : Ends) : List ClA → WX
  | [] => W0
  | (c, i, ts) :: l => fun cls d σ H => ∃ b, PySem.W.exmOne K cls c = some b ∧ (b = true → ∀ a, H a = none → ts a cls d (finA i D) (σ.set i (some (.ref a))) H) ∧ (b = false → wManyA K W0 D l cls d σ H)
inductive HdsA (X : Cx) : List ExceptHandler → List ClA → Prop
  | nil : HdsA X [] []
  | cons {x n : Str} {c : Value} {i : Nat} {ts : Addr → Value → Option Addr → TS} {b0 : Stmt} {suite : List Stmt} {np ps : Pos} {hds : List ExceptHandler} {l : List ClA} (hc : Names X x c) (hi : X.N[i]? = some n) (hln : X.env.kindOf n = some .local)
      (hsu : ∀ (a : Addr) (oe : Obj) (cls : Value) (d : Option Addr) (pn : List (Addr × Obj)), Zc cls d oe → (∃ vs, oe.data = .fields vs) → PSs (X.suite a ((a, oe) :: pn)) (b0 :: suite) (ts a cls d)) (r : HdsA X hds l) :
      HdsA X (.ExceptHandler (some (.Name x np)) (some n) (b0 :: suite) ps :: hds) ((c, i, ts) :: l)
section
variable {X : Cx} {body : List Stmt} {h0 : ExceptHandler} {hds : List ExceptHandler} {l : List ClA} {pos : Pos} {tb : WX → TS} {W0 : WX}
theorem ps_tryA (hs : X.stack = X.env :: X.outer) (hf : X.env.frame = some X.env.locals) (hN : X.N.Nodup) (tk : Takes X W0)
    (hb : ∀ (W : WX) (pn : List (Addr × Obj)) (xe : Value → Shared → Prop), Takes (X.tr pn xe) W → PassesOwn (model X.prog X.w) X.A X.env xe → PSs (X.tr pn xe) body (tb W))
    (hh : HdsA X (h0 :: hds) l) : PS X (.Try body (h0 :: hds) [] [] pos) (fun D σ H => tb (wManyA X.K W0 D l) D σ H) := by
  refine ⟨fun pins s σ H D I hyp => ?_⟩
  have ok := I.ok
  have hfr : X.A.frames = some (X.env :: X.outer) := by rw [ok.frames, hs]
  refine wpAny_Try_except ?_
  refine wpAny_mono ((hb (wManyA X.K W0 D l) (X.pn ++ pins) (fun e z1 => wpAny (model X.prog X.w) X.A (noteFrame e X.env) (fun _ z2 => wpAny (model X.prog X.w) X.A (setFlight e none) (fun _ z3 =>
    wpAny (model X.prog X.w) X.A (handleBy e X.env (h0 :: hds)) (SP X pins D) X.xe z3) X.xe z2) X.xe z1) (fun u s' xx => ?_) PassesOwn.looking).run [] s σ H D (I.toTry _) hyp) (fun f s1 hsp => ?_) (fun _ _ z => z)
  · obtain ⟨a, B, sI, pins', σ', H', cls, d, rfl, Jt, nb, up, sky, na, os, ag, w⟩ := xx
    have J : Inv X pins σ' H' sI := Jt.ofTry ok
    have sk2 : Sky B (X.env :: X.outer) a (Zc cls d) X.env.locals s'.heap := by rw [← hs]; exact sky
    show wpAny (model X.prog X.w) X.A (noteFrame (.ref a) X.env) _ _ _
    refine Sky.land Zc.steady hfr hf sk2 fun h3 fl3 up3 => ?_
    have J3 : Inv X pins σ' H' { s' with heap := h3 } := J.landed nb fl3.1 (up.trans up3) os ag
    obtain ⟨oe3, vs3, he3, hz3, hd3⟩ := fl3.there
    have nfr : a ∉ frs (X.env :: X.outer) := fun hm => by
      obtain ⟨_, o', e', hnf⟩ := fl3.2.2.1.mem hm
      rw [he3] at e'
      cases e'
      exact hnf _ hd3
    have nL : a ≠ X.env.locals := fun z => nfr (List.mem_filterMap.mpr ⟨X.env, List.mem_cons_self, by rw [hf, z]⟩)
    have nF : a ∉ X.fs := fun hm => by
      obtain ⟨e, he, q⟩ := List.mem_filterMap.mp hm
      exact nfr (List.mem_filterMap.mpr ⟨e, List.mem_cons_of_mem _ he, q⟩)
    have S3 := J3.suite he3 hd3 na nL nF
    have go : ∀ {hd' : List ExceptHandler} {l' : List ClA}, HdsA X hd' l' → wManyA X.K W0 D l' cls d σ' H' →
        wpAny (model X.prog X.w) X.A (handleBy (.ref a) X.env hd') (SP X pins D) X.xe { s' with heap := h3 } := by
      intro hd' l' hk
      induction hk with
      | nil =>
        intro w
        refine wpAny_handleBy_nil ?_
        obtain ⟨_, _, _, oe, vs, T, oT, _, he, hz, hd, h1, hr⟩ := id fl3
        unfold PySem.passOn
        refine wpAny_bind (wpAny_field he hd h1 ?_)
        rw [if_neg (show ¬ ((Value.ref T == Value.none) = true) by simp)]
        have outw : wpAny (model X.prog X.w) X.A (setFlight (.ref a) X.env.frame) (fun _ s4 => wpAny (model X.prog X.w) X.A (throw (.ref a) : Sem Flow) (SP X pins D) X.xe s4) X.xe { s' with heap := h3 } := by
          rw [hf]
          refine HandSPX.setFlight_upZ fl3 fun h4 hh4 up4 => wpAny_throw (tk _ _ ?_)
          exact ⟨a, B, sI, pins, σ', H', cls, d, rfl, J, nb, (up.trans up3).trans up4, .inr (.inr (by rw [hs]; exact hh4)), na, os, ag, w⟩
        first
          | exact wpAny_bind (wpAny_pure (wpAny_bind outw))
          | exact wpAny_bind outw
      | @cons x n c i ts b0 suite np ps hd2 l2 hc hi hln hsu r ih =>
        intro w
        obtain ⟨b, hb1, hyes, hno⟩ := w
        refine wpAny_handleBy_cons (codeAny_handlers_test ?_) (by intro q; cases q)
        have LT : PySem.W.Looks (model X.prog X.w) h3 (typeOf (.ref a)) cls := fun A Q E s k q => wpAny_typeOf_ref (k _ _ he3) (by rw [hz3.1]; exact q)
        have LM := PySem.W.exm_one (M := model X.prog X.w) (J3.kIn) LT hb1
        have tst : ∀ {Q : Value → Shared → Prop} {E : Value → Shared → Prop}, Q c { s' with heap := h3 } → wpAny (model X.prog X.w) (X.A.mark (some (.ref a))) (eval (.Name x np) X.env) Q E { s' with heap := h3 } := fun {Q E} q => by
          obtain ⟨hg, hdbg, hm | ⟨hm, hv, hnn⟩⟩ := hc
          · exact ld_glob (X := X.suite a ((a, oe3) :: (X.pn ++ pins))) S3 hg hm q hdbg
          · exact ld_blt (X := X.suite a ((a, oe3) :: (X.pn ++ pins))) S3 hg hm hv q hnn hdbg
        refine tst (LM.here ?_)
        cases b with
        | false =>
          show wpAny _ X.A (handleBy (.ref a) X.env hd2) _ _ _
          exact ih (hno rfl)
        | true =>
          refine codeAny_handlers_suite_as ?_
          refine HandSPX.lands_againZ fl3 fun h4 fl4 up4 => ?_
          have J4 : Inv X pins σ' H' { s' with heap := h4 } := J.landed nb fl4.1 ((up.trans up3).trans up4) os ag
          obtain ⟨oe4, vs4, he4, hz4, hd4⟩ := fl4.there
          have S4 := J4.suite he4 hd4 na nL nF
          refine store_ok (X := X.suite a ((a, oe4) :: (X.pn ++ pins))) (v := .ref a) S4 hN hi (.inl hln) rfl (fun s5 S5 => ?_) (.inr hln)
          refine wpAny_mono ((hsu a oe4 cls d (X.pn ++ pins) hz4 ⟨_, hd4⟩).run [] s5 _ H' _ S5 (hyes rfl a na)) (fun f s6 hsp => ?_) (fun _ _ z => False.elim z)
          have fin_ : ∀ {σ6 : L2.St} {H6 : Hp} {Q : Shared → Prop}, Inv (X.suite a ((a, oe4) :: (X.pn ++ pins))) [] σ6 H6 s6 → (∀ s7, Inv X pins (σ6.set i none) H6 s7 → Q s7) →
              wpAny (model X.prog X.w) X.A (do bindName X.env n .none; unbindBehindTheSuite X.env n ps) (fun _ s7 => Q s7) X.xe s6 := fun {σ6 H6 Q} S6 hq => gone_ok (S6.unsuite ok) hN hi hln hq
          cases f with
          | next =>
            obtain ⟨σ6, H6, S6, q6⟩ := hsp
            exact fin_ S6 fun s7 J7 => ⟨_, _, J7, q6⟩
          | brk =>
            obtain ⟨σ6, H6, S6, q6⟩ := hsp
            exact fin_ S6 fun s7 J7 => ⟨_, _, J7, q6⟩
          | cont =>
            obtain ⟨σ6, H6, S6, q6⟩ := hsp
            exact fin_ S6 fun s7 J7 => ⟨_, _, J7, q6⟩
          | ret u =>
            obtain ⟨v6, σ6, H6, S6, r6, q6⟩ := hsp
            exact fin_ S6 fun s7 J7 => ⟨_, _, _, J7, r6, q6⟩
    exact go hh w
  · cases f with
    | next =>
      obtain ⟨σ', H', Jt, q⟩ := hsp
      exact wpAny_execs_nil ⟨σ', H', Jt.ofTry ok, q⟩
    | brk =>
      obtain ⟨σ', H', Jt, q⟩ := hsp
      exact ⟨σ', H', Jt.ofTry ok, q⟩
    | cont =>
      obtain ⟨σ', H', Jt, q⟩ := hsp
      exact ⟨σ', H', Jt.ofTry ok, q⟩
    | ret u =>
      obtain ⟨v, σ', H', Jt, r, q⟩ := hsp
      exact ⟨v, σ', H', Jt.ofTry ok, r, q⟩
end

/-! ### own exception classes with one field -/
theorem app_len (a b : Str) : (a ++ b).length = a.length + b.length := by
  show (a.cps ++ b.cps).size = _
  rw [Array.size_append]
  rfl
section
variable {σ : L2.St} {H : Hp} {ts : List TE} {te : TE} {acc s : Str} {R : Str → Hp → Prop} {i : Int}
theorem js_nil (h : R acc H) : tJs [] acc σ H R := h
theorem js_c {n : Nat} (ha : acc.length ≤ n) (hs : n + s.length ≤ 100000) (h : ∀ acc' : Str, acc'.length ≤ n + s.length → tJs ts acc' σ H R) : tJs (tC (.str s) :: ts) acc σ H R :=
  ⟨s, rfl, sz_of (by rw [app_len]; omega), h _ (by rw [app_len]; omega)⟩
theorem js_i {n : Nat} (ha : acc.length ≤ n) (hs : n ≤ 50000) (hv : i.natAbs.log2 < 1920) (hte : ∀ Q : VK, Q (.int i) H → te σ H Q) (h : ∀ acc' : Str, acc'.length ≤ n + 1921 → tJs ts acc' σ H R) : tJs (tFmt te :: ts) acc σ H R := by
  have hl : (Str.ofString (toString i)).length ≤ 1921 := by
    have e := PySem.int_text_length_le (k := 1920) (by decide) hv
    rw [PySem.ofString_length]
    omega
  exact hte _ (.inr ⟨i, rfl, hv, _, rfl, sz_of (by rw [app_len]; omega), h _ (by rw [app_len]; omega)⟩)
theorem js_s {n : Nat} (ha : acc.length ≤ n) (hs : n + s.length ≤ 100000) (hte : ∀ Q : VK, Q (.str s) H → te σ H Q) (h : ∀ acc' : Str, acc'.length ≤ n + s.length → tJs ts acc' σ H R) : tJs (tFmt te :: ts) acc σ H R :=
  hte _ (.inl ⟨s, rfl, sz_of (by omega), s, rfl, sz_of (by rw [app_len]; omega), h _ (by rw [app_len]; omega)⟩)
end
/-- what may be told in an error's text -/
def tellV : V → Prop
  | .int i => i.natAbs.log2 < 1920
  | .str s => s.length ≤ 1000
  | _ => False
/-- __init__(self, f): self.f = f -/
def spExc (K : PySem.W.Frag) (C : Addr) (f : Str) : Sp := fun vs H Q _ => ∃ (a : Addr) (v : V), vs = [.ref a, v] ∧ tellV v ∧ H a = some (exo a C none) ∧
  ∀ dx, H dx = none → dx ≠ a → Q .non (upd (upd H dx (exd dx [(f, v)])) a (exo a C (some dx)))
structure Exn (P : Program) (w : World) (K : PySem.W.Frag) (mg : Str → Option Value) (base : Heap) (x f : Str) (C : Addr) : Prop where
  o : OexC K C
  g : mg x = some (.ref C)
  init : ∃ (fI : Addr) (fd : FuncData), PySem.W.findIn K (.ref C) "__init__" = some (some (.ref fI)) ∧ PySem.W.typeIn K (.ref fI) = some (.type "function") ∧ FnOk P w K mg base (L2.CX P w) 1 fI fd ["self", f] (spExc K C f) ∧ Binds K fd ["self", f] []
  xf : XfC K C
  no : PySem.W.findIn K (.ref C) f = some none
  te : PySem.W.exmOne K (.ref C) (.ref C) = some true
def tRaiseE (C : Addr) (f : Str) (W : WX) (te : TE) : TS := fun _ σ H => te σ H fun v H1 => tellV v ∧ ∀ d H2, Ex H1 H2 → H2 d = some (.xd [(f, v)]) → W (.ref C) (some d) σ H2
section
variable {X : Cx} {x f : Str} {C : Addr} {W : WX} {e : Expr} {te : TE} {p pos pos2 : Pos}
theorem pe_cl (h : PE X e te) : PE X e (fun σ H Q => ∃ P1 : VK, te σ H P1 ∧ ∀ v H1, P1 v H1 → Q v H1) :=
  ⟨fun pins s σ H Q I ⟨P1, hp, pq⟩ => thn (h.run pins s σ H P1 I hp) fun u s1 ⟨v, H1, I1, r, q⟩ => ⟨v, H1, I1, r, pq v H1 q⟩⟩
theorem ps_raiseE (T : Exn X.prog X.w X.K X.mg X.base x f C) (hc : X.calm = true) (hr : Room 2 X.A) (tk : Takes X W) (he : PE X e te) (hg : Gl X x := by rfl) (hdb : (x == ("__debug__" : Str)) = false := by decide)
    (hs : starEach (e :: []) X.env = (false, eval e X.env) :: starEach [] X.env := by rfl) (hpl : (backTo pos (starEach [] X.env)).any (·.1) = false := by rfl) :
    PS X (.Raise (some (.Call (.Name x p) [e] [] pos)) none pos2) (tRaiseE C f W te) := by
  obtain ⟨fI, fd, iC, tI, F, b⟩ := T.init
  have hx : Passes (L2.CX X.prog X.w) X (fun _ _ _ => False) := passL
  have m := pmk_oex (pos := pos) (p := p) T.o iC tI F (hr.mono (Nat.le_refl _)) b .nil hx hg T.g (pa_cons (pe_cl he) pa_nil hs) hdb hs hpl
  have r := ps_raise (pos := pos2) hc tk m
  refine ⟨fun pins s σ H D I h => r.run pins s σ H D I ?_⟩
  show ∃ P1 : VK, te σ H P1 ∧ _
  have key : ∀ v H1, (tellV v ∧ ∀ d H2, Ex H1 H2 → H2 d = some (.xd [(f, v)]) → W (.ref C) (some d) σ H2) →
      ([v] : List V).length ≤ 1000 ∧ ∀ a, H1 a = none → spExc X.K C f (.ref a :: ([v] ++ [])) (upd H1 a (exo a C none))
        (fun u H2 => u = .non ∧ ∃ (d : Addr) (fs : List (Str × V)), H2 a = some (exo a C (some d)) ∧ H2 d = some (exd d fs) ∧ H1 d = none ∧ W (.ref C) (some d) σ (upd (del H2 a) d (.xd fs))) (fun _ _ _ => False) := by
    intro v H1 q
    refine ⟨by show 1 ≤ 1000; decide, fun a ha => ⟨a, v, rfl, q.1, upd_same, fun dx hdx hne => ⟨rfl, dx, [(f, v)], upd_same, ?_, ?_, ?_⟩⟩⟩
    · rw [upd_ne hne, upd_same]
    · rw [upd_ne hne] at hdx
      exact hdx
    · have hd1 : H1 dx = none := by
        rw [upd_ne hne] at hdx
        exact hdx
      refine q.2 dx _ (fun b o hb => ?_) upd_same
      have n1 : b ≠ dx := ne_of_none hb hd1
      have n2 : b ≠ a := ne_of_none hb ha
      rw [upd_ne n1, del_ne n2, upd_ne n2, upd_ne n1, upd_ne n2]
      exact hb
  exact ⟨_, h, fun v H1 q => key v H1 q⟩
end
section
variable {K : PySem.W.Frag} {H : Hp} {Q : VK} {i : Int}
theorem r_isII (q : Q (.bl true) H) : rIsi K [.int i, .ty "int"] H Q := r_isiI (kit_ty (by decide +kernel)) q
theorem r_isIB (q : Q (.bl false) H) : rIsi K [.int i, .ty "bool"] H Q := r_isiI (kit_ty (by decide +kernel)) q
theorem r_isLL {p : Addr} {xs : List V} (hp : H p = some (.lst xs)) (q : Q (.bl true) H) : rIsi K [.ref p, .ty "list"] H Q := r_isiL (kit_ty (by decide +kernel)) hp q
end

/-! ### loops -/
def ForW (g : TG) (tb : TS) (D : Ends) (σ : L2.St) (J : It) (H1 : Hp) : Prop := ∃ W : Nat → Nat → L2.St → Hp → Prop, (∃ m, W 0 m σ H1) ∧ ∀ i m σ H, W i m σ H →
  (J.stop i H ∧ D.nx σ H) ∨ (J.go i H ∧ ∃ N : L2.St → Hp → Prop, (∀ σ' H', N σ' H' → ∃ m', m' < m ∧ W (i + 1) m' σ' H') ∧ ∀ x H', J.yld i H x H' → g x σ H' fun σ2 H2 => tb { D with nx := N, ct := N, bk := D.nx } σ2 H2)
def ItL (K : PySem.W.Frag) (x : V) (H : Hp) (R : It → Hp → Prop) : Prop := ∃ a, x = .ref a ∧ (∃ xs, SqL K H a xs) ∧ R (Itl K a) H
def ItT (K : PySem.W.Frag) (x : V) (H : Hp) (R : It → Hp → Prop) : Prop := ∃ a, x = .ref a ∧ (∃ xs, SqT K H a xs) ∧ R (Itt K a) H
def ItR1 (vs : List V) (H : Hp) (R : It → Hp → Prop) : Prop := ∃ j : Int, vs = [.int j] ∧ -(2 ^ 62) ≤ j ∧ j < 2 ^ 62 ∧ R (Itr 0 j.toNat) H
def ItR2 (vs : List V) (H : Hp) (R : It → Hp → Prop) : Prop := ∃ i j : Int, vs = [.int i, .int j] ∧ (-(2 ^ 62) ≤ i ∧ i < 2 ^ 62 ∧ -(2 ^ 62) ≤ j ∧ j < 2 ^ 62) ∧ R (Itr i (j - i).toNat) H
def ItE (K : PySem.W.Frag) (vs : List V) (H : Hp) (R : It → Hp → Prop) : Prop := ∃ a xs, vs = [.ref a] ∧ SqL K H a xs ∧ R (Ite K a) H
def LcW (g : TG) (tt : TT) (te : TE) (vs : List Nat) (σ : L2.St) (Q : VK) (J : It) (H1 : Hp) : Prop := ∀ D, H1 D = none → ∃ W : Nat → Nat → Hp → Prop, (∃ m, W 0 m (upd H1 D (.lst []))) ∧ ∀ i m H, W i m H →
  (J.stop i H ∧ Q (.ref D) H) ∨ (J.go i H ∧ ∃ Nx : Hp → Prop, (∀ H', Nx H' → ∃ m', m' < m ∧ W (i + 1) m' H') ∧ ∀ x H', J.yld i H x H' → g x (wipe σ vs) H' fun σ2 H2 => wipe σ2 vs = wipe σ vs ∧ tt σ2 H2 fun b H3 =>
    if b = true then te σ2 H3 fun y H4 => ∃ acc, H4 D = some (.lst acc) ∧ acc.length < sizeLine ∧ Nx (upd H4 D (.lst (acc ++ [y]))) else Nx H3)
def AppW (p : Addr) (N : Hp → Prop) (y : V) (H4 : Hp) : Prop := ∃ acc, H4 p = some (.lst acc) ∧ acc.length < sizeLine ∧ N (upd H4 p (.lst (acc ++ [y])))
def WhB (tb : TS) (D : Ends) (W : Nat → L2.St → Hp → Prop) (m : Nat) (σ : L2.St) (b : Bool) (H1 : Hp) : Prop :=
  if b = true then ∃ N : L2.St → Hp → Prop, (∀ σ' H', N σ' H' → ∃ m', m' < m ∧ W m' σ' H') ∧ tb { D with nx := N, ct := N, bk := D.nx } σ H1 else D.nx σ H1
section
variable {K : PySem.W.Frag} {σ : L2.St} {H : Hp} {D : Ends} {tb : TS} {te : TE} {ta : TA} {g : TG} {wi : TI} {tt c : TT} {Q : VK} {R : It → Hp → Prop} {a : Addr} {xs : List V} {ns : List Int} {m m1 m2 : Nat} {vs : List Nat} {i j : Int}
theorem r_for (h : wi σ H (ForW g tb D σ)) : tFor wi g tb D σ H := h
theorem r_lc (h : wi σ H (LcW g tt te vs σ Q)) : tLc wi g tt te vs σ H Q := h
theorem r_iList (h : te σ H fun x H1 => ItL K x H1 R) : iList K te σ H R := h
theorem r_iTup (h : te σ H fun x H1 => ItT K x H1 R) : iTup K te σ H R := h
theorem r_iRng1 (h : ta σ H fun x H1 => ItR1 x H1 R) : iRng1 ta σ H R := h
theorem r_iRng2 (h : ta σ H fun x H1 => ItR2 x H1 R) : iRng2 ta σ H R := h
theorem r_iEnum (h : ta σ H fun x H1 => ItE K x H1 R) : iEnum K ta σ H R := h
theorem forL (hx : SqL K H a xs) (Pv : Nat → L2.St → Hp → Prop) (h0 : Pv 0 σ H) (hl : ∀ i s h, i ≤ xs.length → Pv i s h → SqL K h a xs)
    (hs : ∀ i x s h, xs[i]? = some x → Pv i s h → g x s h fun s2 h2 => tb ⟨Pv (i + 1), D.rt, D.nx, Pv (i + 1)⟩ s2 h2) (hd : ∀ s h, Pv xs.length s h → D.nx s h) : ItL K (.ref a) H (ForW g tb D σ) :=
  ⟨a, rfl, ⟨xs, hx⟩, for_list (K := K) (a := a) (xs := xs) Pv h0 hl hs hd⟩
theorem forI (hx : SqL K H a (ns.map V.int)) (Pv : Nat → L2.St → Hp → Prop) (h0 : Pv 0 σ H) (hl : ∀ i s h, i ≤ ns.length → Pv i s h → SqL K h a (ns.map V.int))
    (hs : ∀ i z s h, ns[i]? = some z → Pv i s h → tb ⟨Pv (i + 1), D.rt, D.nx, Pv (i + 1)⟩ (s.set m (some (.int z))) h) (hd : ∀ s h, Pv ns.length s h → D.nx s h) : ItL K (.ref a) H (ForW (gName m) tb D σ) := by
  refine forL hx Pv h0 (fun i s h hi p => hl i s h (by rw [List.length_map] at hi; exact hi) p) (fun i x s h hi p => ?_) (fun s h p => hd s h (by rw [List.length_map] at p; exact p))
  rw [List.getElem?_map] at hi
  cases e : ns[i]? with
  | none =>
    rw [e] at hi
    cases hi
  | some z =>
    rw [e] at hi
    cases hi
    exact hs i z s h e p
theorem forR1 (h1 : -1000000000 ≤ j) (h2 : j ≤ 1000000000) (Pv : Nat → L2.St → Hp → Prop) (h0 : Pv 0 σ H)
    (hs : ∀ (i : Nat) s h, (i : Int) < j → Pv i s h → tb ⟨Pv (i + 1), D.rt, D.nx, Pv (i + 1)⟩ (s.set m (some (.int i))) h) (hd : ∀ s h, Pv j.toNat s h → D.nx s h) : ItR1 [.int j] H (ForW (gName m) tb D σ) := by
  refine ⟨j, rfl, by omega, by omega, for_range (lo := 0) (n := j.toNat) Pv h0 (fun i s h hi p => ?_) hd⟩
  have e : (0 : Int) + (i : Int) = (i : Int) := Int.zero_add _
  show tb _ (s.set m (some (.int ((0 : Int) + (i : Int))))) h
  rw [e]
  exact hs i s h (by omega) p
theorem forR2 (h1 : -1000000000 ≤ i ∧ i ≤ 1000000000) (h2 : -1000000000 ≤ j ∧ j ≤ 1000000000) (Pv : Nat → L2.St → Hp → Prop) (h0 : Pv 0 σ H)
    (hs : ∀ (k : Nat) s h, i + (k : Int) < j → Pv k s h → tb ⟨Pv (k + 1), D.rt, D.nx, Pv (k + 1)⟩ (s.set m (some (.int (i + k)))) h) (hd : ∀ s h, Pv (j - i).toNat s h → D.nx s h) : ItR2 [.int i, .int j] H (ForW (gName m) tb D σ) :=
  ⟨i, j, rfl, ⟨by omega, by omega, by omega, by omega⟩, for_range (lo := i) (n := (j - i).toNat) Pv h0 (fun k s h hk p => hs k s h (by omega) p) hd⟩
theorem forE (hx : SqL K H a xs) (Pv : Nat → L2.St → Hp → Prop) (h0 : Pv 0 σ H) (hl : ∀ i s h, i ≤ xs.length → Pv i s h → SqL K h a xs)
    (hs : ∀ (i : Nat) x s h h2, xs[i]? = some x → Pv i s h → Ex h h2 → tb ⟨Pv (i + 1), D.rt, D.nx, Pv (i + 1)⟩ ((s.set m1 (some (.int i))).set m2 (some x)) h2) (hd : ∀ s h, Pv xs.length s h → D.nx s h) :
    ItE K [.ref a] H (ForW (gTup K 2 (gCons (gName m1) (gCons (gName m2) gNil))) tb D σ) := by
  refine ⟨a, xs, rfl, hx, fun i m s h => m = xs.length - i ∧ i ≤ xs.length ∧ Pv i s h, ⟨xs.length, by simp, Nat.zero_le _, h0⟩, ?_⟩
  rintro i m s h ⟨rfl, hi, p⟩
  have q := hl i s h hi p
  by_cases hlt : i < xs.length
  · refine .inr ⟨⟨xs, xs[i], q, by simp [hlt]⟩, Pv (i + 1), fun s' h' p' => ⟨xs.length - (i + 1), by omega, rfl, hlt, p'⟩, fun x h' y => ?_⟩
    obtain ⟨T, z, rfl, hT, rfl, hz⟩ := y
    exact ⟨T, _, rfl, .inl (.inl upd_same), rfl, _, _, rfl, _, _, rfl, rfl, hs i z s h _ (hz xs q) p (Ex.new hT)⟩
  · have e : i = xs.length := by omega
    subst e
    exact .inl ⟨⟨xs, q, Nat.le_refl _⟩, hd s h p⟩
theorem r_while (W : Nat → L2.St → Hp → Prop) (m0 : Nat) (h0 : W m0 σ H) (hs : ∀ m s h, W m s h → c s h (WhB tb D W m s)) : tWhile c tb D σ H := ⟨W, ⟨m0, h0⟩, fun m s h w => hs m s h w⟩
theorem whB {W : Nat → L2.St → Hp → Prop} {p : Prop} [Decidable p] (h1 : p → tb ⟨fun s h => ∃ m', m' < m ∧ W m' s h, D.rt, D.nx, fun s h => ∃ m', m' < m ∧ W m' s h⟩ σ H) (h2 : ¬ p → D.nx σ H) : WhB tb D W m σ (decide p) H := by
  by_cases hp : p
  · unfold WhB
    rw [if_pos (decide_eq_true hp)]
    exact ⟨_, fun _ _ z => z, h1 hp⟩
  · unfold WhB
    rw [decide_eq_false hp]
    exact iteF (h2 hp)
theorem whB_no {W : Nat → L2.St → Hp → Prop} (h : D.nx σ H) : WhB tb D W m σ false H := iteF h
theorem appW {p : Addr} {N : Hp → Prop} {y : V} {acc : List V} (h : H p = some (.lst acc)) (l : acc.length < 100000) (k : ∀ H5, ExB p H H5 → H5 p = some (.lst (acc ++ [y])) → N H5) : AppW p N y H :=
  ⟨acc, h, sz_lt l, k _ (fun a o n e => by rw [upd_ne n]; exact e) upd_same⟩
theorem yesL {K1 : VK} {B : Hp → Prop} (h : te σ H K1) : tYes σ H fun b H3 => if b = true then te σ H3 K1 else B H3 := by
  show if true = true then te σ H K1 else B H
  exact iteT h
theorem lcR1 (h1 : -1000000000 ≤ j) (h2 : j ≤ 1000000000) (Pv : Addr → Nat → Hp → Prop) (h0 : ∀ p h, H p = none → Ex H h → h p = some (.lst []) → Pv p 0 h)
    (hs : ∀ p (i : Nat) h, (i : Int) < j → Pv p i h → te ((wipe σ vs).set m (some (.int i))) h (AppW p (Pv p (i + 1)))) (hd : ∀ p h, Pv p j.toNat h → Q (.ref p) h)
    (hw : ∀ x, wipe ((wipe σ vs).set m (some x)) vs = wipe σ vs) : ItR1 [.int j] H (LcW (gName m) tYes te vs σ Q) := by
  refine ⟨j, rfl, by omega, by omega, fun p hp => lc_range (lo := 0) (n := j.toNat) (Pv p) (h0 p _ hp (Ex.new hp) upd_same) (fun i h hi q => ?_) (hd p)⟩
  have e : (0 : Int) + (i : Int) = (i : Int) := Int.zero_add _
  rw [e]
  exact ⟨hw _, yesL (hs p i h (by omega) q)⟩
theorem lcL (hx : SqL K H a xs) (Pv : Addr → Nat → Hp → Prop) (h0 : ∀ p h, H p = none → Ex H h → h p = some (.lst []) → Pv p 0 h) (hl : ∀ p i h, i ≤ xs.length → Pv p i h → SqL K h a xs)
    (hs : ∀ p (i : Nat) x h, xs[i]? = some x → Pv p i h → te ((wipe σ vs).set m (some x)) h (AppW p (Pv p (i + 1)))) (hd : ∀ p h, Pv p xs.length h → Q (.ref p) h)
    (hw : ∀ x, wipe ((wipe σ vs).set m (some x)) vs = wipe σ vs) : ItL K (.ref a) H (LcW (gName m) tYes te vs σ Q) :=
  ⟨a, rfl, ⟨xs, hx⟩, fun p hp => lc_list (K := K) (a := a) (xs := xs) (Pv p) (h0 p _ hp (Ex.new hp) upd_same) (fun i h hi q => hl p i h hi q) (fun i x h hi q => ⟨hw x, yesL (hs p i x h hi q)⟩) (hd p)⟩
theorem lcI (hx : SqL K H a (ns.map V.int)) (Pv : Addr → Nat → Hp → Prop) (h0 : ∀ p h, H p = none → Ex H h → h p = some (.lst []) → Pv p 0 h) (hl : ∀ p i h, i ≤ ns.length → Pv p i h → SqL K h a (ns.map V.int))
    (hs : ∀ p (i : Nat) z h, ns[i]? = some z → Pv p i h → te ((wipe σ vs).set m (some (.int z))) h (AppW p (Pv p (i + 1)))) (hd : ∀ p h, Pv p ns.length h → Q (.ref p) h)
    (hw : ∀ x, wipe ((wipe σ vs).set m (some x)) vs = wipe σ vs) : ItL K (.ref a) H (LcW (gName m) tYes te vs σ Q) := by
  refine lcL hx Pv h0 (fun p i h hi q => hl p i h (by rw [List.length_map] at hi; exact hi) q) (fun p i x h hi q => ?_) (fun p h q => hd p h (by rw [List.length_map] at q; exact q)) hw
  rw [List.getElem?_map] at hi
  cases e : ns[i]? with
  | none =>
    rw [e] at hi
    cases hi
  | some z =>
    rw [e] at hi
    cases hi
    exact hs p i z h e q
theorem r_raise {C : Addr} {f : Str} {W : WX} (h : te σ H fun v H1 => tellV v ∧ ∀ d H2, Ex H1 H2 → H2 d = some (.xd [(f, v)]) → W (.ref C) (some d) σ H2) : tRaiseE C f W te D σ H := h
end
/-- lists of ints, deep -/
theorem dp_int {K : PySem.W.Frag} {H : Hp} {i : Int} : Dp K H (.int i) (.int i) := .int i
section
variable {K : PySem.W.Frag} {σ : L2.St} {H : Hp} {ts : List TE} {acc : Str} {R : Str → Hp → Prop} {v : V} {n k : Nat} {D : Ends} {a C : Addr} {f : Str}
theorem js_v (tv : tellV v) (e1 : σ[n]? = some (some v)) (ha : acc.length ≤ k) (hk : k ≤ 50000) (h : ∀ acc' : Str, acc'.length ≤ k + 1921 → tJs ts acc' σ H R) : tJs (tFmt (tVar n) :: ts) acc σ H R := by
  cases v with
  | int i => exact js_i ha hk tv (fun Q q => ⟨_, e1, q⟩) h
  | str s =>
    have hs : s.length ≤ 1000 := tv
    exact js_s (n := k) ha (by omega) (fun Q q => ⟨_, e1, q⟩) fun acc' l => h acc' (by omega)
  | non => exact tv.elim
  | bl b => exact tv.elim
  | byt b => exact tv.elim
  | flt b => exact tv.elim
  | ref b => exact tv.elim
  | ty b => exact tv.elim
theorem exc_body {parts : List TE} (js : ∀ R : Str → Hp → Prop, (∀ s, R s H) → tJs parts Str.empty σ H R) (e0 : σ[0]? = some (some (.ref a))) (e1 : σ[1]? = some (some v)) (o : OexC K C) (no : PySem.W.findIn K (.ref C) f = some none)
    (ha : H a = some (exo a C none)) (q : ∀ dx, H dx = none → dx ≠ a → D.nx σ (upd (upd H dx (exd dx [(f, v)])) a (exo a C (some dx)))) :
    tSeq (tDrop (tVeI K (tCons (tVar 0) (tCons (fun σ H Q => tJs parts Str.empty σ H fun out H1 => Q (.str out) H1) tNil)))) (tOst K f (tVar 0) (tVar 1)) D σ H := by
  refine ⟨_, e0, ?_⟩
  refine js _ fun s => ?_
  exact ⟨a, C, [.str s], rfl, by show 1 ≤ 1000; decide, o, ha, _, e1, _, e0, a, C, rfl, o, no, .inl ⟨ha, q⟩⟩
end
/-! ### comparing lists of ints -/
theorem ints_lay : ∀ ns : List Int, PyData.canLayAll0 (ns.map PyData.int) = true
  | [] => rfl
  | n :: ns => by
    have h := ints_lay ns
    simp only [List.map_cons, PyData.canLayAll0, PyData.canLay0, Bool.true_and]
    exact h
theorem ints_depth : ∀ ns : List Int, PyData.depthAll (ns.map PyData.int) ≤ 1
  | [] => by simp [PyData.depthAll]
  | n :: ns => by
    have h := ints_depth ns
    simp only [List.map_cons, PyData.depthAll, PyData.depth]
    omega
theorem shape_of {d : PyData} (h1 : d.canLay0 = true) (h2 : d.depth ≤ 64) : SeqAt.shaped d = true := by
  show (d.canLay0 && decide (d.depth ≤ 64)) = true
  rw [h1, decide_eq_true h2]
  rfl
theorem sh_ints (ns : List Int) : SeqAt.shaped (.list (ns.map PyData.int)) = true := by
  have h := ints_depth ns
  refine shape_of ?_ ?_
  · simp only [PyData.canLay0]
    exact ints_lay ns
  · simp only [PyData.depth]
    omega
theorem eqv_ints : ∀ ns ms : List Int, PyData.eqvAll (ns.map PyData.int) (ms.map PyData.int) = decide (ns = ms)
  | [], [] => by simp [PyData.eqvAll]
  | [], m :: ms => by simp [PyData.eqvAll]
  | n :: ns, [] => by simp [PyData.eqvAll]
  | n :: ns, m :: ms => by
    have h := eqv_ints ns ms
    simp only [List.map_cons, PyData.eqvAll, PyData.eqv, h]
    by_cases e1 : n = m
    · by_cases e2 : ns = ms
      · simp [e1, e2]
      · simp [e2]
    · simp [e1]
theorem eqv_listI (ns ms : List Int) : PyData.eqv (.list (ns.map PyData.int)) (.list (ms.map PyData.int)) = decide (ns = ms) := by
  simp only [PyData.eqv]
  exact eqv_ints ns ms
theorem dpa_ints {K : PySem.W.Frag} {H : Hp} : ∀ ns : List Int, DpAll K H (ns.map V.int) (ns.map PyData.int)
  | [] => .nil
  | n :: ns => .cons (.int n) (dpa_ints ns)
theorem dp_ints {K : PySem.W.Frag} {H : Hp} {p : Addr} {ns : List Int} (h : SqL K H p (ns.map V.int)) : Dp K H (.ref p) (.list (ns.map PyData.int)) := .lst h (dpa_ints ns)
section
variable {K : PySem.W.Frag} {H : Hp} {Q : VK} {p q : Addr} {ns ms : List Int}
theorem r_eqL (h1 : SqL K H p (ns.map V.int)) (h2 : SqL K H q (ms.map V.int)) (k : Q (.bl (decide (ns = ms))) H) : rEqD K (.ref p) (.ref q) H Q :=
  r_eqD (dp_ints h1) (dp_ints h2) (sh_ints _) (sh_ints _) (by rw [eqv_listI]; exact k)
theorem r_neL (h1 : SqL K H p (ns.map V.int)) (h2 : SqL K H q (ms.map V.int)) (k : Q (.bl (!decide (ns = ms))) H) : rNeD K (.ref p) (.ref q) H Q :=
  r_neD (dp_ints h1) (dp_ints h2) (sh_ints _) (sh_ints _) (by rw [eqv_listI]; exact k)
theorem r_eqSame {x y : V} {d : PyData} (hx : Dp K H x d) (hy : Dp K H y d) (s1 : SeqAt.shaped d = true) (k : Q (.bl true) H) : rEqD K x y H Q :=
  r_eqD hx hy s1 s1 (by rw [SeqAt.eqv_refl d (SeqAt.canLay_of_shaped s1)]; exact k)
theorem r_neSame {x y : V} {d : PyData} (hx : Dp K H x d) (hy : Dp K H y d) (s1 : SeqAt.shaped d = true) (k : Q (.bl false) H) : rNeD K x y H Q :=
  r_neD hx hy s1 s1 (by rw [SeqAt.eqv_refl d (SeqAt.canLay_of_shaped s1)]; exact k)
end
theorem tell_int {i : Int} (h1 : -1000000000 ≤ i) (h2 : i ≤ 1000000000) : tellV (.int i) := by
  show i.natAbs.log2 < 1920
  by_cases h : i.natAbs = 0
  · rw [h]
    decide
  · have a : i.natAbs.log2 < 30 := (Nat.log2_lt h).mpr (by omega)
    omega
/-- a part is shown apart from what follows -/
theorem r_K {te : TE} {σ : L2.St} {H : Hp} {Q : VK} (h1 : ∀ Q' : VK, (∀ i H1, Ex H H1 → Q' (.int i) H1) → te σ H Q') (h2 : ∀ i H1, Ex H H1 → Q (.int i) H1) : te σ H Q := h1 Q h2
/-- three ints at p -/
def Pur (H : Hp) (p : Addr) : Prop := ∃ a b c : Int, H p = some (.lst [.int a, .int b, .int c])
theorem Pur.ex {H H2 : Hp} {p : Addr} (h : Pur H p) (e : Ex H H2) : Pur H2 p := by
  obtain ⟨a, b, c, h⟩ := h
  exact ⟨a, b, c, e _ _ h⟩
theorem cut_ints (ns : List Int) (lo hi : Option Int) : cutV (ns.map V.int) lo hi = ((ns.drop (HT.sIx ns.length 0 lo)).take (HT.sIx ns.length ns.length hi - HT.sIx ns.length 0 lo)).map V.int := by
  unfold cutV
  rw [List.length_map, ← List.map_drop, ← List.map_take]
section
variable {σ : L2.St} {H : Hp} {Q : VK} {te : TE} {tl th : TO} {r : V → Option Int → Option Int → Hp → VK → Prop} {i : Int} {Z : Option Int → Hp → Prop}
theorem r_sl (h : te σ H fun x H1 => tl σ H1 fun l H2 => th σ H2 fun u H3 => r x l u H3 Q) : tSl r te tl th σ H Q := h
theorem r_noP (h : Z none H) : tNoPart σ H Z := h
theorem r_part (h : te σ H fun x H1 => ∃ i, x = .int i ∧ Z (some i) H1) : tPart te σ H Z := h
theorem r_in {P : Int → Prop} (h : P i) : ∃ j, V.int i = .int j ∧ P j := ⟨i, rfl, h⟩
end
theorem len3 {n : Nat} {xs : List V} (h : xs.length.ble n = true) : xs.length ≤ n := Nat.le_of_ble_eq_true h
theorem r_nT {A B : Prop} (h : B) : if (!true) = true then A else B := iteF h
theorem r_nF {A B : Prop} (h : A) : if (!false) = true then A else B := iteT h
section
variable {K : PySem.W.Frag} {σ : L2.St} {H : Hp} {Q : VK} {p q : Addr} {ns : List Int} {xs : List V} {k : Int} {v : V} {n : Nat} {f : Str} {C a dd : Addr}
theorem r_rep (h : H p = some (.lst [v])) (h0 : -1000000 ≤ k) (h1 : k ≤ 1000000) (q : ∀ p2 H2, H p2 = none → Ex H H2 → H2 p2 = some (.lst (List.replicate k.toNat v)) → Q (.ref p2) H2) : rRep (.ref p) (.int k) H Q :=
  ⟨p, k, _, rfl, rfl, h, by omega, by omega, by rw [List.length_singleton, sizeLine_eq]; omega, fun p2 n => q p2 _ n (Ex.new n) (by rw [List.flatten_replicate_singleton]; exact upd_same)⟩
theorem r_xf (e : σ[n]? = some (some (.ref a))) (h : H dd = some (.xd [(f, v)])) (q : Q v H) : tXf a (.ref C) (some dd) C f (tVar n) σ H Q :=
  ⟨_, e, rfl, rfl, dd, [(f, v)], v, rfl, h, by simp [List.lookup], q⟩
theorem r_eqT (h1 : SqL K H p (ns.map V.int)) (h2 : SqL K H q (ns.map V.int)) (k : Q (.bl true) H) : rEqD K (.ref p) (.ref q) H Q :=
  r_eqSame (dp_ints h1) (dp_ints h2) (sh_ints _) k
end
section
variable {K : PySem.W.Frag} {H : Hp} {Q : VK} {p : Addr} {xs : List V} {v a b : V}
theorem r_ix0 (h : SqL K H p (v :: xs)) (q : Q v H) : rIxL K (.ref p) (.int 0) H Q := r_ixL h (atI_V (j := 0) rfl rfl) q
theorem r_ix1 (h : SqL K H p (a :: v :: xs)) (q : Q v H) : rIxL K (.ref p) (.int 1) H Q := r_ixL h (atI_V (j := 1) rfl rfl) q
theorem r_ix2 (h : SqL K H p (a :: b :: v :: xs)) (q : Q v H) : rIxL K (.ref p) (.int 2) H Q := r_ixL h (atI_V (j := 2) rfl rfl) q
end
theorem Pur.upd {H H2 : Hp} {p l : Addr} (h : Pur H p) (e : ExB l H H2) (n : p ≠ l) : Pur H2 p := by
  obtain ⟨a, b, c, h⟩ := h
  exact ⟨a, b, c, e _ _ n h⟩
theorem Pur.ne {H : Hp} {p l : Addr} (h : Pur H p) (n : H l = none) : l ≠ p := by
  obtain ⟨a, b, c, h⟩ := h
  exact (ne_of_none h n).symm
/-! ### the end -/
section
variable {K : PySem.W.Frag} {mg : Str → Option Value} {h : Heap}
theorem at_mk {x : Str} {st : Stmt} {f : Addr} {ps : List Str} {oc : Value} {od an : Option Addr} {osl : Array (Option Value)} {kV doc pm cdv ct : Value} (X : K.In h) (G : h.Ns mainGlobals mg)
    (a : PySem.W.nsIn K mainGlobals x = some (some (.ref f))) (l : K.lookup f = some ⟨oc, od, .func (PySem.W.fnOf x x (defArgs st) (defBody st) (defScope st) .none kV doc pm an cdv ct), osl⟩) (c : PySem.W.codeIn K cdv x = true) (k : PySem.W.keepIn K (.ref f) = true)
    (hb : ∀ (kV doc pm : Value) (an : Option Addr) (cdv ct : Value) (us : List Value), us.length = ps.length → bindArgs (PySem.W.fnOf x x (defArgs st) (defBody st) (defScope st) .none kV doc pm an cdv ct) ⟨us, []⟩ = pure (ps.zip us)) : At K mg x st ps :=
  ⟨f, _, fun_mk l c k, PySem.W.mg_of X G a, (fun_mk l c k).binds hb⟩
theorem exm_is {A B : Addr} {b : Bool} (h1 : PySem.W.subIn K (.ref B) (.type "BaseException") = some true) (h2 : PySem.W.isClsIn K B = true) (h3 : PySem.W.typeIn K (.ref B) = some (.type "type")) (h4 : PySem.W.subIn K (.ref A) (.ref B) = some b) :
    PySem.W.exmOne K (.ref A) (.ref B) = some b := by
  have e1 : (PySem.W.subIn K (.ref B) (.type "BaseException") == some true) = true := by
    rw [h1]
    rfl
  have e2 : ((PySem.W.clsIn K B).isSome && PySem.W.typeIn K (.ref B) == some (.type "type")) = true := by
    have h2' : (PySem.W.clsIn K B).isSome = true := h2
    rw [h2', h3]
    rfl
  show (if (PySem.W.subIn K (.ref B) (.type "BaseException") == some true) = true then (if ((PySem.W.clsIn K B).isSome && PySem.W.typeIn K (.ref B) == some (.type "type")) = true then PySem.W.subIn K (.ref A) (.ref B) else none) else none) = some b
  rw [if_pos e1, if_pos e2, h4]
theorem exm_self {A : Addr} (h1 : PySem.W.subIn K (.ref A) (.type "BaseException") = some true) (h2 : PySem.W.isClsIn K A = true) (h3 : PySem.W.typeIn K (.ref A) = some (.type "type")) (h4 : PySem.W.subIn K (.ref A) (.ref A) = some true) :
    PySem.W.exmOne K (.ref A) (.ref A) = some true := exm_is h1 h2 h3 h4
theorem exm_not {A B : Addr} (h1 : PySem.W.subIn K (.ref B) (.type "BaseException") = some true) (h2 : PySem.W.isClsIn K B = true) (h3 : PySem.W.typeIn K (.ref B) = some (.type "type")) (h4 : PySem.W.subIn K (.ref A) (.ref B) = some false) :
    PySem.W.exmOne K (.ref A) (.ref B) = some false := exm_is h1 h2 h3 h4
end
section
variable {P : Program} {w : World} {K : PySem.W.Frag} {mg : Str → Option Value} {base : Heap}
/-- the law itself: its own def stays in sight -/
theorem fnK {x : Str} {st : Stmt} {f : Addr} {fd : FuncData} {N ps : List Str} {k : Nat} {sp : Sp} (F : Fun K x x st f fd) (S : FnScope N ps (defScope st)) (len : ∀ vs H Q E, sp vs H Q E → vs.length = ps.length)
    (hbody : ∀ (f : Addr) (cdv : Value) (A : Around) (outer : List Env) (s : Shared) (H : Hp) (vs : List V) (Q : VK) (E : XK), Room k (A.deeper (envOfC x (defScope st) s.heap.objs.size f cdv)) → sp vs H Q E →
      ∃ t, PSs (cxOf (L2.CX P w) P w K mg base N x (defScope st) f cdv A outer s H E) (defBody st) t ∧ t { nx := fun _ H' => Q .non H', rt := Q } (start N vs) H) : FnOk P w K mg base (L2.CX P w) (k + 1) f fd ps sp := F.okX S len (hbody f)
end
theorem end_of {l : PySem.W.OpenLaw} {k : Nat} {q : Program} {loose : List Str} {XP : (Str → Option Value) → Heap → Prop} {YP : World → Heap → Prop} {d : DefRec} {K : Params → PySem.W.Frag} {sp : PySem.W.Frag → Sp}
    (hn : l.most = some 63) (hdf : d.params.defaults = []) (hr : Room k callerA) (hY : ∀ (w : World) (h : Heap), YP w h → (K w.params).In h)
    (hsp : ∀ (K : PySem.W.Frag) (H : Hp) (a : Addr) (ns : List Int), ns.length ≤ 63 → SqL K H a (ns.map V.int) → sp K [.ref a] H (fun v _ => v = .bl true) fun _ _ _ => False)
    (F : ∀ (w : World) (mg : Str → Option Value) (fa : Addr) (h : Heap), (K w.params).In h → h.Ns mainGlobals mg → mg d.name = some (.ref fa) →
      ∃ fd : FuncData, (∀ (s : Shared) (u : Value), BindsTo s fd ⟨[u], []⟩ [("script", u)]) ∧ ∀ base : Heap, (K w.params).In base → base.Ns mainGlobals mg → FnOk l.prog w (K w.params) mg base (L2.CX l.prog w) k fa fd ["script"] (sp (K w.params))) :
    PySem.W.WalkO q loose XP YP l.row.toRowW d [] (fun f vs => PySem.call f vs) :=
  walk_of (n := 63) (x := "script") (CX := fun w => L2.CX l.prog w) (sp := fun w => sp (K w.params)) hn (by decide) hdf hr hY F (fun _ H a ns h1 _ h3 => hsp _ H a ns h1 h3) fun _ _ _ _ _ z => by
    obtain ⟨_, _, _, _, _, _, _, _, _, _, _, _, z⟩ := z
    exact z.elim
end Lay
namespace LayR
open PySem PySem.Spec PyProof.Rows L2 RT
section
variable {prog : Program} {w : World} {A : Around} {E : Value → Shared → Prop} {s : Shared}
/-- S.extend(it), S an empty list, it a list's reverse iterator at its begin -/
theorem extend_rev {it l S : Addr} {items : Array Value} {res : Value} {c0 : Nat} {R : Result → Shared → Prop} (hh : A.handled = none) (hit : s.heap.IsRevIter it l ((items.size : Int) - 1)) (hl : s.heap.IsList l items) (hne : l ≠ it) (hn : items.size ≤ sizeLine)
    (hSi : S ≠ it) (hSl : S ≠ l) (hS : s.heap.get? S = some { cls := .type "list", data := .seq #[] c0 })
    (hR : ∀ h' tk acc c', (∀ b o, b ≠ S → b ≠ it → s.heap.get? b = some o → h'.get? b = some o) → h'.get? S = some { cls := .type "list", dict := none, data := .seq acc c', slots := #[] } →
      ItemsOf (fun i v => items[items.size - 1 - i]? = some v) acc items.size → R (.ok (.ret res)) { s with heap := h', toks := tk }) :
    wpAny (model prog w) A.in1 (Builtin.List.listExtendWith (.ref S) (.ref it) res)
      (fun fin s' => match fin with | .done f => R (.ok f) s' | .again c' => c'.quiet = true ∧ codeAny (model prog w) A c' R s') (fun e s' => R (.error e) s') s := by
  have W := (Walks.listRev (prog := prog) (w := w) (A := A.in1) hh it l hne items).toS
  have hSf : S ∉ [it, l] := by
    simp only [List.mem_cons, List.not_mem_nil, or_false, not_or]
    exact ⟨hSi, hSl⟩
  have hT : s.TypeIs (.ref it) "list_reverseiterator" := hit.typeIs
  have h1 : Builtin.List.listSameRef (.ref S) (.ref it) = false := by simp [Builtin.List.listSameRef, hSi]
  unfold Builtin.List.listExtendWith
  refine wpAny_bind (wpAny_typeOf hT ?_)
  rw [if_neg (by rw [h1]; decide)]
  refine wpAny_bind (wpAny_pyIter_revIter hit ?_)
  refine wpAny_bind (wpAny_holding ?_)
  unfold Builtin.List.listLengthHint
  refine wpAny_bind (wpAny_specialOf hT nolen_lri ?_)
  show wpAny _ A.in1 (specialOf (Value.ref it) (Str.ofString "__length_hint__") >>= _) _ _ _
  refine wpAny_bind (wpAny_specialOf hT hint_lri ?_)
  generalize hid : ("list_reverseiterator.__length_hint__" : String) = id0
  wp_delta
  rw [show splitId id0 = some ("list_reverseiterator", "__length_hint__") by subst hid; decide +kernel]
  subst hid
  refine wpAny_bind (wpAny_isInstance (b := true) hT (by rw [isSubtype_type]; kernel_rfl) (wpAny_pure ?_))
  rw [if_neg (by decide)]
  have e0 : ((items.size : Nat) : Int) - 1 - ((0 : Nat) : Int) = (items.size : Int) - 1 := by omega
  refine wpAny_pure ⟨plainId_quiet F.plain_extend_loop _, codeAny_extend_loopS W hn S hSf _ items.size 0 _ _ _ rfl (Nat.zero_le _) ⟨Nat.zero_le _, by rw [e0]; exact hit, hl⟩ hS (ItemsOf.nil _) fun s' acc' c' hm hS' hacc => ?_⟩
  rw [Moved.eq_with hm]
  refine hR s'.heap s'.toks acc' c' (fun b o hb hb2 e => hm.heap b o (fun hmem => ?_) e) hS' hacc
  rcases List.mem_cons.mp hmem with e' | hmem
  · exact hb e'
  · exact hb2 (List.mem_singleton.mp hmem)
theorem call_list_rev {it l : Addr} {items : Array Value} {Q : Value → Shared → Prop} (hh : A.handled = none) (hit : s.heap.IsRevIter it l ((items.size : Int) - 1)) (hl : s.heap.IsList l items) (hne : l ≠ it) (hn : items.size ≤ sizeLine)
    (hQ : ∀ h' tk acc c', (∀ b o, b ≠ it → s.heap.get? b = some o → h'.get? b = some o) → h'.get? s.heap.objs.size = some { cls := .type "list", dict := none, data := .seq acc c', slots := #[] } →
      ItemsOf (fun i v => items[items.size - 1 - i]? = some v) acc items.size → Q (.ref s.heap.objs.size) { s with heap := h', toks := tk }) :
    wpAny (model prog w) A (call (.type "list") [.ref it]) Q E s := by
  obtain ⟨oi, hoi, _⟩ := id hit
  obtain ⟨ol, hol, _⟩ := id hl
  have hSi : s.heap.objs.size ≠ it := Nat.ne_of_gt (Heap.lt_size hoi)
  have hSl : s.heap.objs.size ≠ l := Nat.ne_of_gt (Heap.lt_size hol)
  refine callType_codes (Q₁ := fun obj s₁ => obj = .ref s.heap.objs.size ∧ s₁ = { s with heap := s.heap.push { cls := .type "list", data := .seq #[] } }) F.called_list (F.typeCall_list_1 _) F.entry_list_init (code_list_new _ ⟨rfl, rfl⟩) fun obj s₁ h₁ => ?_
  obtain ⟨rfl, rfl⟩ := h₁
  have hS : (s.heap.push { cls := .type "list", data := .seq #[] }).get? s.heap.objs.size = some { cls := .type "list", data := .seq #[] } := Heap.get?_push_size _ rfl
  refine ⟨⟨_, hS, rfl⟩, F.args_list_init_2 _ _, ?_⟩
  show wpAny _ _ (do let old ← Builtin.List.listItems (.ref s.heap.objs.size); Builtin.List.listUpdate (.ref s.heap.objs.size) (fun _ => #[]); letGo old.toList.reverse; Builtin.List.listExtendWith (.ref s.heap.objs.size) (.ref it) .none) _ _ _
  refine wpAny_bind ?_
  unfold Builtin.List.listItems
  refine wpAny_bind (wpAny_seqItems hS rfl (wpAny_pure ?_))
  show wpAny _ _ (updateSeq s.heap.objs.size (fun _ => #[]) >>= fun _ => letGo (#[] : Array Value).toList.reverse >>= fun _ => Builtin.List.listExtendWith (.ref s.heap.objs.size) (.ref it) .none) _ _ _
  refine wpAny_bind (wpAny_updateSeq hS rfl ?_)
  have hS2 := Heap.get?_update_self (Obj.mapSeq (fun _ => (#[] : Array Value))) hS rfl
  have oth : ∀ b o, b ≠ s.heap.objs.size → s.heap.get? b = some o → ((s.heap.push { cls := .type "list", data := .seq #[] }).update s.heap.objs.size (Obj.mapSeq (fun _ => (#[] : Array Value)))).get? b = some o :=
    fun b o hb e => (Heap.get?_update_other _ _ (Ne.symm hb)).trans (Heap.get?_push_of_some _ e)
  refine wpAny_bind (wpAny_letGo ?_)
  refine extend_rev (A := A.in1) hh (hit.at fun o e => oth it o hSi.symm e) (hl.at fun o e => oth l o hSl.symm e) hne hn hSi hSl hS2 fun h' tk acc c' hk hS' hacc => ?_
  exact ⟨rfl, hQ h' tk acc c' (fun b o hb e => hk b o (Nat.ne_of_lt (Heap.lt_size e)) hb (oth b o (Nat.ne_of_lt (Heap.lt_size e)) e)) hS' hacc⟩
end
/-- list(reversed(x)), x a list -/
def rLstRev (K : PySem.W.Frag) (te : TE) : TE := fun σ H Q => te σ H fun v H1 => ∃ (a : Addr) (xs : List V), v = .ref a ∧ SqL K H1 a xs ∧ Lay.NewL xs.reverse H1 Q
section
variable {X : Cx}
theorem pe_lstRev {e : Expr} {te : TE} {p p2 pos pos2 : Pos} (hc : X.calm = true) (hg : Gl X "list") (hm : X.mg "list" = none) (hg2 : Gl X "reversed") (hm2 : X.mg "reversed" = none) (he : PE X e te)
    (hs : starEach [e] X.env = (false, eval e X.env) :: starEach [] X.env := by rfl)
    (hs2 : starEach [.Call (.Name "reversed" p2) [e] [] pos2] X.env = (false, eval (.Call (.Name "reversed" p2) [e] [] pos2) X.env) :: starEach [] X.env := by rfl) :
    PE X (.Call (.Name "list" p) [.Call (.Name "reversed" p2) [e] [] pos2] [] pos) (rLstRev X.K te) := by
  refine ⟨fun pins s σ H Q I h => ?_⟩
  refine Call_ (ld_blt I hg hm boot_list (PyProof.Rows.callWith_type1 (args_cons (Call_ (ld_blt I hg2 hm2 PyProof.Rows.boot_reversed (PyProof.Rows.callWith_type1 (args_cons (thn (he.run pins s σ H _ I h) fun u s1 ⟨v, H1, I1, r1, q1⟩ => args_nil ?_) hs) hs rfl))) hs2) hs2 rfl))
  obtain ⟨a, xs, ev, hq, hz2, q⟩ := q1
  subst ev
  obtain rfl : u = Value.ref a := r1
  obtain ⟨its, rv, p', hz⟩ := I1.list hq
  refine call_reversed_list p'.isList (args_nil ?_)
  have k0 : ∀ b o, s1.heap.get? b = some o → (s1.heap.push (revObj a ((its.toArray.size : Int) - 1))).get? b = some o := fun b o e => Heap.get?_push_of_some _ e
  have I2 : Inv X pins σ H1 { s1 with heap := s1.heap.push (revObj a ((its.toArray.size : Int) - 1)) } := I1.kept (t' := s1.toks) k0
  obtain ⟨f0, f1, f2, f3, f4, f5⟩ := I1.fpOk (H' := H1) (b := s1.heap.objs.size) (Nat.le_refl _) (I1.hok.fresh (Nat.le_refl _))
  have hl := p'.isList
  obtain ⟨ol, hol, _⟩ := id hl
  have hne : a ≠ s1.heap.objs.size := Nat.ne_of_lt (Heap.lt_size hol)
  have hn : its.toArray.size ≤ sizeLine := by rw [List.size_toArray, ← rv.length]; exact hz
  refine call_list_rev (s := { s1 with heap := s1.heap.push (revObj a ((its.toArray.size : Int) - 1)) }) (I1.ok.hd hc) ⟨_, Heap.get?_push_size _ rfl, rfl, rfl⟩ (hl.push _) hne hn fun h' tk acc c' hk hS' hi => ?_
  have fp : FpOk X pins H1 s1.heap.objs.size := I1.fpOk (H' := H1) (b := s1.heap.objs.size) (Nat.le_refl _) (I1.hok.fresh (Nat.le_refl _))
  have I3 := I2.turnedNew (t' := tk) (ch := [s1.heap.objs.size]) (ob := .lst xs.reverse) (fun b o hb e => hk b o (by simpa using hb) e) (by intro b hb; obtain rfl := List.mem_singleton.mp hb; exact fp) (Nat.le_refl _)
    (show ObjOk X.prog X.w _ _ _ (.lst xs.reverse) from ⟨by rw [List.length_reverse]; exact hz, acc.toList, c', vals_rev rv hi, ?_⟩)
  · exact ⟨.ref _, _, I3, rfl, q _ (I2.hok.fresh (Nat.le_refl _))⟩
  · rw [Array.toArray_toList]
    exact hS'
end
end LayR
namespace Lay
open PySem PySem.Spec PyProof.Rows L2 Evl
section
variable {X : Cx}
/-- tuple(x) -/
def rTuple (K : PySem.W.Frag) : List V → Hp → VK → Prop := fun xs H Q => ∃ p ys, xs = [.ref p] ∧ ((SqL K H p ys ∧ ∀ l, H l = none → Q (.ref l) (upd H l (.tup ys))) ∨ (SqT K H p ys ∧ Q (.ref p) H))
theorem c_tuple : CallR X (.type "tuple") (rTuple X.K) := call_tuple_of
end
section
variable {K : PySem.W.Frag} {σ : L2.St} {H : Hp} {D : Ends} {te : TE} {Q : VK} {p q : Addr} {xs ys : List V} {ns ms : List Int} {v : V} {n : Nat} {i j k l : Int} {t : TGs} {g : TG} {R : L2.St → Hp → Prop}
theorem r_asg (h : te σ H fun x H1 => g x σ H1 D.nx) : tAsg te g D σ H := h
theorem r_gTup (h : SqT K H p xs) (l : xs.length = n) (q : t xs σ H R) : gTup K n t (.ref p) σ H R := ⟨p, xs, rfl, h, l, q⟩
theorem r_gUnl (h : SqL K H p xs) (l : xs.length = n) (q : t xs σ H R) : gUnl K n t (.ref p) σ H R := ⟨p, xs, rfl, h, l, q⟩
theorem r_gCons {u : TGs} (h : g v σ H fun σ' H' => u xs σ' H' R) : gCons g u (v :: xs) σ H R := ⟨v, xs, rfl, h⟩
theorem r_gNil (h : R σ H) : gNil [] σ H R := ⟨rfl, h⟩
theorem r_gName {m : Nat} (h : R (σ.set m (some v)) H) : gName m v σ H R := h
theorem r_revV (e : σ[n]? = some (some (.ref p))) (h : SqL K H p (ns.map V.int)) (l : ns.length ≤ 100000) (q : ∀ p2 H2, H p2 = none → Ex H H2 → H2 p2 = some (.lst (ns.reverse.map V.int)) → Q (.ref p2) H2) : LayR.rLstRev K (tVar n) σ H Q :=
  ⟨_, e, p, ns.map V.int, rfl, h, r_newL (by rw [List.length_reverse, List.length_map]; exact l) fun p2 H2 n e h => q p2 H2 n e (by rw [List.map_reverse]; exact h)⟩
/-! ### new lists of ints -/
theorem r_newI0 (h : ∀ p H2, H p = none → Ex H H2 → H2 p = some (.lst (([] : List Int).map V.int)) → Q (.ref p) H2) : NewL [] H Q := r_newL (by decide) h
theorem r_newI1 (h : ∀ p H2, H p = none → Ex H H2 → H2 p = some (.lst ([i].map V.int)) → Q (.ref p) H2) : NewL [.int i] H Q := r_newL (len3 rfl) h
theorem r_newI2 (h : ∀ p H2, H p = none → Ex H H2 → H2 p = some (.lst ([i, j].map V.int)) → Q (.ref p) H2) : NewL [.int i, .int j] H Q := r_newL (len3 rfl) h
theorem r_newI3 (h : ∀ p H2, H p = none → Ex H H2 → H2 p = some (.lst ([i, j, k].map V.int)) → Q (.ref p) H2) : NewL [.int i, .int j, .int k] H Q := r_newL (len3 rfl) h
theorem r_newI4 (h : ∀ p H2, H p = none → Ex H H2 → H2 p = some (.lst ([i, j, k, l].map V.int)) → Q (.ref p) H2) : NewL [.int i, .int j, .int k, .int l] H Q := r_newL (len3 rfl) h
theorem r_catI (h : H p = some (.lst (ns.map V.int))) (h' : H q = some (.lst (ms.map V.int))) (l : ns.length + ms.length ≤ 100000) (k : ∀ p2 H2, H p2 = none → Ex H H2 → H2 p2 = some (.lst ((ns ++ ms).map V.int)) → Q (.ref p2) H2) : rCat (.ref p) (.ref q) H Q :=
  r_cat h h' (by rw [List.length_map, List.length_map]; exact l) fun p2 H2 n e h => k p2 H2 n e (by rw [List.map_append]; exact h)
theorem r_appI (h : H p = some (.lst (ns.map V.int))) (l : ns.length < 100000) (q : ∀ H2, ExB p H H2 → H2 p = some (.lst ((ns ++ [i]).map V.int)) → (∀ a, H a = none → H2 a = none) → Q .non H2) : rAppend (.ref p) [.int i] H Q :=
  r_app h (by rw [List.length_map]; exact l) fun H2 e h2 f => q H2 e (by rw [List.map_append]; exact h2) f
theorem r_listI (h : SqL K H p (ns.map V.int)) (k : ∀ p2 H2, H p2 = none → Ex H H2 → H2 p2 = some (.lst (ns.map V.int)) → Q (.ref p2) H2) : rList K [.ref p] H Q := r_list h k
theorem r_listT (h : SqT K H p xs) (k : ∀ p2 H2, H p2 = none → Ex H H2 → H2 p2 = some (.lst xs) → Q (.ref p2) H2) : rList K [.ref p] H Q := ⟨p, xs, rfl, .inr h, fun p2 n => k p2 _ n (Ex.new n) upd_same⟩
theorem r_tupleL (h : SqL K H p xs) (k : ∀ p2 H2, H p2 = none → Ex H H2 → H2 p2 = some (.tup xs) → Q (.ref p2) H2) : rTuple K [.ref p] H Q := ⟨p, xs, rfl, .inl ⟨h, fun p2 n => k p2 _ n (Ex.new n) upd_same⟩⟩
theorem r_tupleT (h : SqT K H p xs) (k : Q (.ref p) H) : rTuple K [.ref p] H Q := ⟨p, xs, rfl, .inr ⟨h, k⟩⟩
theorem r_lenT (h : SqT K H p xs) (q : Q (.int xs.length) H) : rLen K [.ref p] H Q := ⟨p, xs, rfl, .inr h, q⟩
/-- ns[i] = z -/
theorem r_setI {Z : Hp → Prop} {z : Int} (h : H p = some (.lst (ns.map V.int))) (h0 : 0 ≤ i) (h1 : i < ns.length) (q : ∀ H2, ExB p H H2 → H2 p = some (.lst ((ns.set i.toNat z).map V.int)) → (∀ a, H a = none → H2 a = none) → Z H2) : rSetL (.ref p) (.int i) (.int z) H Z :=
  r_setL h h0 (by rw [List.length_map]; exact h1) fun H2 e h2 f => q H2 e (by rw [List.map_set]; exact h2) f
/-- ns[b:e] -/
theorem cut_nat {b e : Nat} (ns : List Int) (h1 : b ≤ e) (h2 : e ≤ ns.length) : cutV (ns.map V.int) (some (b : Int)) (some (e : Int)) = ((ns.drop b).take (e - b)).map V.int := by
  rw [cut_ints, HT.sIx_nat, HT.sIx_nat, Nat.min_eq_left (by omega), Nat.min_eq_left (by omega)]
theorem cut_from {b : Nat} (ns : List Int) (h1 : b ≤ ns.length) : cutV (ns.map V.int) (some (b : Int)) none = (ns.drop b).map V.int := by
  rw [cut_ints, HT.sIx_nat, Nat.min_eq_left (by omega)]
  show ((ns.drop b).take (ns.length - b)).map V.int = _
  rw [List.take_of_length_le (by rw [List.length_drop]; omega)]
theorem cut_to {e : Nat} (ns : List Int) (h1 : e ≤ ns.length) : cutV (ns.map V.int) none (some (e : Int)) = (ns.take e).map V.int := by
  rw [cut_ints, HT.sIx_nat, Nat.min_eq_left (by omega)]
  show ((ns.drop 0).take (e - 0)).map V.int = _
  rw [List.drop_zero, Nat.sub_zero]
theorem r_slBE {b e : Nat} {x y : Int} (h : SqL K H p (ns.map V.int)) (hx : x = (b : Int)) (hy : y = (e : Int)) (h1 : b ≤ e) (h2 : e ≤ ns.length) (q : ∀ p2 H2, H p2 = none → Ex H H2 → H2 p2 = some (.lst (((ns.drop b).take (e - b)).map V.int)) → Q (.ref p2) H2) : rSlL K (.ref p) (some x) (some y) H Q :=
  r_slL h fun p2 H2 n e h => q p2 H2 n e (by rw [hx, hy, cut_nat ns h1 h2] at h; exact h)
theorem r_slB {b : Nat} {x : Int} (h : SqL K H p (ns.map V.int)) (hx : x = (b : Int)) (h1 : b ≤ ns.length) (q : ∀ p2 H2, H p2 = none → Ex H H2 → H2 p2 = some (.lst ((ns.drop b).map V.int)) → Q (.ref p2) H2) : rSlL K (.ref p) (some x) none H Q :=
  r_slL h fun p2 H2 n e h => q p2 H2 n e (by rw [hx, cut_from ns h1] at h; exact h)
theorem r_slE {e : Nat} {y : Int} (h : SqL K H p (ns.map V.int)) (hy : y = (e : Int)) (h1 : e ≤ ns.length) (q : ∀ p2 H2, H p2 = none → Ex H H2 → H2 p2 = some (.lst ((ns.take e).map V.int)) → Q (.ref p2) H2) : rSlL K (.ref p) none (some y) H Q :=
  r_slL h fun p2 H2 n e h => q p2 H2 n e (by rw [hy, cut_to ns h1] at h; exact h)
/-! ### isinstance of tuples -/
theorem r_isiT {nm : String} {b : Bool} (h : PySem.W.kitOne K (.type "tuple") (.type nm) = some b) (hp : H p = some (.tup xs)) (q : Q (.bl b) H) : rIsi K [.ref p, .ty nm] H Q := ⟨.ref p, .ty nm, .type "tuple", .type nm, b, rfl, .ty nm, .base (.tup hp), h, q⟩
theorem r_isTT (hp : H p = some (.tup xs)) (q : Q (.bl true) H) : rIsi K [.ref p, .ty "tuple"] H Q := r_isiT (kit_ty (by decide +kernel)) hp q
theorem r_isTL (hp : H p = some (.tup xs)) (q : Q (.bl false) H) : rIsi K [.ref p, .ty "list"] H Q := r_isiT (kit_ty (by decide +kernel)) hp q
theorem r_isLT (hp : H p = some (.lst xs)) (q : Q (.bl false) H) : rIsi K [.ref p, .ty "tuple"] H Q := r_isiL (kit_ty (by decide +kernel)) hp q
end
/-! ### heaps, backwards -/
theorem freshB {p l : Addr} {A B : Hp} (e : ExB p A B) (n : l ≠ p) (h : B l = none) : A l = none := by
  cases hx : A l with
  | none => rfl
  | some o =>
    have := e _ _ n hx
    rw [h] at this
    cases this
theorem ext {K : PySem.W.Frag} {H H' : Hp} {a : Addr} {xs : List V} (e : Ex H H') (h : SqT K H a xs) : SqT K H' a xs := ex_t e h
theorem exb_t {K : PySem.W.Frag} {l : Addr} {H H' : Hp} {a : Addr} {xs : List V} (e : ExB l H H') (n : a ≠ l) (h : SqT K H a xs) : SqT K H' a xs := by
  rcases h with (h | ⟨o, h⟩) | h
  · exact .inl (.inl (e _ _ n h))
  · exact .inl (.inr ⟨o, e _ _ n h⟩)
  · exact .inr h
theorem ne_pur {H : Hp} {p l : Addr} (h : Pur H p) (n : H l = none) : p ≠ l := (h.ne n).symm
section
variable {K : PySem.W.Frag} {σ : L2.St} {H : Hp} {D : Ends} {te : TE} {g : TG} {tb : TS} {tt : TT} {Q : VK} {a : Addr} {xs : List V} {ns : List Int} {m : Nat} {vs : List Nat}
/-- over a tuple -/
theorem forT (hx : SqT K H a xs) (Pv : Nat → L2.St → Hp → Prop) (h0 : Pv 0 σ H) (hl : ∀ i s h, i ≤ xs.length → Pv i s h → SqT K h a xs)
    (hs : ∀ i x s h, xs[i]? = some x → Pv i s h → g x s h fun s2 h2 => tb ⟨Pv (i + 1), D.rt, D.nx, Pv (i + 1)⟩ s2 h2) (hd : ∀ s h, Pv xs.length s h → D.nx s h) : ItT K (.ref a) H (ForW g tb D σ) :=
  ⟨a, rfl, ⟨xs, hx⟩, for_tup (K := K) (a := a) (xs := xs) Pv h0 hl hs hd⟩
theorem lcT (hx : SqT K H a xs) (Pv : Addr → Nat → Hp → Prop) (h0 : ∀ p h, H p = none → Ex H h → h p = some (.lst []) → Pv p 0 h) (hl : ∀ p i h, i ≤ xs.length → Pv p i h → SqT K h a xs)
    (hs : ∀ p (i : Nat) x h, xs[i]? = some x → Pv p i h → te ((wipe σ vs).set m (some x)) h (AppW p (Pv p (i + 1)))) (hd : ∀ p h, Pv p xs.length h → Q (.ref p) h)
    (hw : ∀ x, wipe ((wipe σ vs).set m (some x)) vs = wipe σ vs) : ItT K (.ref a) H (LcW (gName m) tYes te vs σ Q) :=
  ⟨a, rfl, ⟨xs, hx⟩, fun p hp => lc_tup (K := K) (a := a) (xs := xs) (Pv p) (h0 p _ hp (Ex.new hp) upd_same) (fun i h hi q => hl p i h hi q) (fun i x h hi q => ⟨hw x, yesL (hs p i x h hi q)⟩) (hd p)⟩
/-- [one for one in xs] -/
theorem lcLcopy (hx : SqL K H a xs) (l : xs.length ≤ 100000) (e : (wipe σ vs).length > m) (q : ∀ p H2, H p = none → Ex H H2 → H2 p = some (.lst xs) → Q (.ref p) H2)
    (hw : ∀ x, wipe ((wipe σ vs).set m (some x)) vs = wipe σ vs) : ItL K (.ref a) H (LcW (gName m) tYes (tVar m) vs σ Q) := by
  refine lcL hx (fun p i h => h p = some (.lst (xs.take i)) ∧ Ex H h ∧ H p = none) (fun p h n e h1 => ⟨h1, e, n⟩) (fun p i h _ ⟨_, e, _⟩ => ex_l e hx) (fun p i x h hi ⟨h1, e1, n⟩ => ?_) (fun p h ⟨h1, e1, n⟩ => q p h n e1 (by rw [List.take_length] at h1; exact h1)) hw
  have hil := (List.getElem?_eq_some_iff.mp hi).1
  refine r_var (v := x) (by rw [List.getElem?_set_self e]) (appW h1 (by rw [List.length_take]; omega) fun H5 e5 h5 => ⟨?_, ExB.ex e1 e5 n, n⟩)
  rw [h5, List.take_succ, hi]
  rfl
theorem lcTcopy (hx : SqT K H a xs) (l : xs.length ≤ 100000) (e : (wipe σ vs).length > m) (q : ∀ p H2, H p = none → Ex H H2 → H2 p = some (.lst xs) → Q (.ref p) H2)
    (hw : ∀ x, wipe ((wipe σ vs).set m (some x)) vs = wipe σ vs) : ItT K (.ref a) H (LcW (gName m) tYes (tVar m) vs σ Q) := by
  refine lcT hx (fun p i h => h p = some (.lst (xs.take i)) ∧ Ex H h ∧ H p = none) (fun p h n e h1 => ⟨h1, e, n⟩) (fun p i h _ ⟨_, e, _⟩ => ex_t e hx) (fun p i x h hi ⟨h1, e1, n⟩ => ?_) (fun p h ⟨h1, e1, n⟩ => q p h n e1 (by rw [List.take_length] at h1; exact h1)) hw
  have hil := (List.getElem?_eq_some_iff.mp hi).1
  refine r_var (v := x) (by rw [List.getElem?_set_self e]) (appW h1 (by rw [List.length_take]; omega) fun H5 e5 h5 => ⟨?_, ExB.ex e1 e5 n, n⟩)
  rw [h5, List.take_succ, hi]
  rfl
end
/-! ### tuples of ints compared -/
theorem sh_tints (ns : List Int) : SeqAt.shaped (.tuple (ns.map PyData.int)) = true := by
  have h := ints_depth ns
  refine shape_of ?_ ?_
  · simp only [PyData.canLay0]
    exact ints_lay ns
  · simp only [PyData.depth]
    omega
theorem dp_tints {K : PySem.W.Frag} {H : Hp} {p : Addr} {ns : List Int} (h : SqT K H p (ns.map V.int)) : Dp K H (.ref p) (.tuple (ns.map PyData.int)) := .tup h (dpa_ints ns)
/-! ### lists of lists of ints -/
def ptab (t : List (List Int)) : PyData := .list (t.map fun ns => PyData.list (ns.map PyData.int))
theorem tab_lay : ∀ t : List (List Int), PyData.canLayAll0 (t.map fun ns => PyData.list (ns.map PyData.int)) = true
  | [] => rfl
  | ns :: t => by
    have h := tab_lay t
    simp only [List.map_cons, PyData.canLayAll0, PyData.canLay0, ints_lay, Bool.true_and]
    exact h
theorem tab_depth : ∀ t : List (List Int), PyData.depthAll (t.map fun ns => PyData.list (ns.map PyData.int)) ≤ 2
  | [] => by simp [PyData.depthAll]
  | ns :: t => by
    have h := tab_depth t
    have h2 := ints_depth ns
    simp only [List.map_cons, PyData.depthAll, PyData.depth]
    omega
theorem sh_tab (t : List (List Int)) : SeqAt.shaped (ptab t) = true := by
  have h := tab_depth t
  refine shape_of ?_ ?_
  · simp only [ptab, PyData.canLay0]
    exact tab_lay t
  · simp only [ptab, PyData.depth]
    omega
theorem dp_tab2 {K : PySem.W.Frag} {H : Hp} {p a b : Addr} {ns ms : List Int} (h : SqL K H p [.ref a, .ref b]) (ha : SqL K H a (ns.map V.int)) (hb : SqL K H b (ms.map V.int)) : Dp K H (.ref p) (ptab [ns, ms]) :=
  .lst h (.cons (dp_ints ha) (.cons (dp_ints hb) .nil))
/-! ### conditions that are values -/
section
variable {K : PySem.W.Frag} {σ : L2.St} {H : Hp} {Q : VK} {x y : V} {i j : Int} {P : Prop} [Decidable P]
theorem r_iteC (h : Q (.int (if P then i else j)) H) : if decide P = true then tC (.int i) σ H Q else tC (.int j) σ H Q := by
  by_cases c : P
  · rw [if_pos (decide_eq_true c)]
    rw [if_pos c] at h
    exact h
  · rw [if_neg (by rw [decide_eq_false c]; decide)]
    rw [if_neg c] at h
    exact h
theorem r_chain {r r' : R2} {ta tb tc : TE} (h : ta σ H fun x H1 => tb σ H1 fun y H2 => r x y H2 fun z H3 => ∃ k, z = .bl k ∧ (if k = true then tc σ H3 fun w' H4 => r' y w' H4 Q else Q (.bl false) H3)) : tChain r r' ta tb tc σ H Q := h
theorem r_tIfI {c : TT} (h : c σ H fun b H1 => if b = true then tC (.int i) σ H1 Q else tC (.int j) σ H1 Q) : tIf c (tC (.int i)) (tC (.int j)) σ H Q := h
theorem r_ixT0 {p : Addr} {xs : List V} {v : V} (h : SqT K H p (v :: xs)) (q : Q v H) : rIxT K (.ref p) (.int 0) H Q := r_ixT h (atI_V (j := 0) rfl rfl) q
theorem r_ixT1 {p : Addr} {xs : List V} {a v : V} (h : SqT K H p (a :: v :: xs)) (q : Q v H) : rIxT K (.ref p) (.int 1) H Q := r_ixT h (atI_V (j := 1) rfl rfl) q
theorem r_ixT2 {p : Addr} {xs : List V} {a b v : V} (h : SqT K H p (a :: b :: v :: xs)) (q : Q v H) : rIxT K (.ref p) (.int 2) H Q := r_ixT h (atI_V (j := 2) rfl rfl) q
end
/-! ### the greatest of ints -/
def mx (a b : Int) : Int := if b > a then b else a
def mn (a b : Int) : Int := if b < a then b else a
def mxl : List Int → Int
  | [] => 0
  | z :: ns => ns.foldl (fun a b => if b > a then b else a) z
theorem mxf_ge : ∀ (ns : List Int) (z : Int), z ≤ ns.foldl (fun a b => if b > a then b else a) z ∧ ∀ y ∈ ns, y ≤ ns.foldl (fun a b => if b > a then b else a) z
  | [], z => ⟨Int.le_refl z, fun y h => (List.not_mem_nil h).elim⟩
  | x :: ns, z => by
    have ih := mxf_ge ns (if x > z then x else z)
    rw [List.foldl_cons]
    refine ⟨Int.le_trans ?_ ih.1, fun y hy => ?_⟩
    · split <;> omega
    · rcases List.mem_cons.mp hy with q | q
      · rw [q]
        refine Int.le_trans ?_ ih.1
        split <;> omega
      · exact ih.2 y q
theorem mxf_mem : ∀ (ns : List Int) (z : Int), ns.foldl (fun a b => if b > a then b else a) z ∈ z :: ns
  | [], z => List.mem_cons_self
  | x :: ns, z => by
    have ih := mxf_mem ns (if x > z then x else z)
    rw [List.foldl_cons]
    rcases List.mem_cons.mp ih with q | q
    · rw [q]
      by_cases c : x > z
      · rw [if_pos c]; exact List.mem_cons_of_mem _ List.mem_cons_self
      · rw [if_neg c]; exact List.mem_cons_self
    · exact List.mem_cons_of_mem _ (List.mem_cons_of_mem _ q)
theorem mxl_mem {ns : List Int} (h : 0 < ns.length) : mxl ns ∈ ns := by
  cases ns with
  | nil => exact absurd h (Nat.lt_irrefl 0)
  | cons z ns => exact mxf_mem ns z
theorem mxl_ge {ns : List Int} {y : Int} (h : y ∈ ns) : y ≤ mxl ns := by
  cases ns with
  | nil => exact (List.not_mem_nil h).elim
  | cons z ns =>
    rcases List.mem_cons.mp h with q | q
    · rw [q]; exact (mxf_ge ns z).1
    · exact (mxf_ge ns z).2 y q
section
variable {K : PySem.W.Frag} {σ : L2.St} {H : Hp} {Q : VK} {p : Addr} {xs : List V} {ns : List Int} {i j k : Int} {a b : Bool} {n : Nat}
theorem r_maxI (h : SqL K H p (ns.map V.int)) (l : 0 < ns.length) (q : Q (.int (mxl ns)) H) : rMax K [.ref p] H Q :=
  r_max h l fun m hm hge => by
    have a := hge _ (mxl_mem l)
    have b := mxl_ge hm
    have e : m = mxl ns := by omega
    rw [e]
    exact q
theorem dB {a b : Bool} : decide (V.bl a = V.bl b) = decide (a = b) := by cases a <;> cases b <;> rfl
theorem r_eqB (h : Q (.bl (decide (a = b))) H) : rEq (.bl a) (.bl b) H Q := ⟨rfl, by rw [dB]; exact h⟩
theorem r_neB (h : Q (.bl (!decide (a = b))) H) : rNe (.bl a) (.bl b) H Q := ⟨rfl, by rw [dB]; exact h⟩
/-- xs * k -/
theorem r_repG (h : H p = some (.lst xs)) (h0 : 0 ≤ k) (h1 : xs.length * k.toNat ≤ 100000) (h2 : k ≤ 1000000) (q : ∀ p2 H2, H p2 = none → Ex H H2 → H2 p2 = some (.lst (List.replicate k.toNat xs).flatten) → Q (.ref p2) H2) : rRep (.ref p) (.int k) H Q :=
  ⟨p, k, xs, rfl, rfl, h, by omega, by omega, sz_of h1, fun p2 n => q p2 _ n (Ex.new n) upd_same⟩
def rStrI : List V → Hp → VK → Prop := fun xs H Q => ∃ i : Int, xs = [.int i] ∧ i.natAbs.log2 < 1920 ∧ Q (.str (toString i)) H
def rLenS : List V → Hp → VK → Prop := fun xs H Q => ∃ z : Str, xs = [.str z] ∧ z.length ≤ sizeLine ∧ Q (.int z.length) H
theorem r_strI (h0 : -1000000000 ≤ i) (h1 : i ≤ 1000000000) (q : Q (.str (toString i)) H) : rStrI [.int i] H Q := ⟨i, rfl, tell_int h0 h1, q⟩
theorem r_lenS {z : Str} (h : z.length ≤ 100000) (q : Q (.int z.length) H) : rLenS [.str z] H Q := ⟨z, rfl, sz_of h, q⟩
end
section
variable {X : Cx}
theorem c_str : CallR X (.type "str") rStrI := call_str_int
theorem c_lenS : CallR X (.builtin "len") rLenS := call_len_str
end
section
variable {K : PySem.W.Frag} {σ : L2.St} {H : Hp} {te : TE} {Q : VK} {m : Nat} {vs : List Nat} {i j : Int}
theorem lcR2 (h1 : -1000000000 ≤ i ∧ i ≤ 1000000000) (h2 : -1000000000 ≤ j ∧ j ≤ 1000000000) (Pv : Addr → Nat → Hp → Prop) (h0 : ∀ p h, H p = none → Ex H h → h p = some (.lst []) → Pv p 0 h)
    (hs : ∀ p (k : Nat) h, i + (k : Int) < j → Pv p k h → te ((wipe σ vs).set m (some (.int (i + k)))) h (AppW p (Pv p (k + 1)))) (hd : ∀ p h, Pv p (j - i).toNat h → Q (.ref p) h)
    (hw : ∀ x, wipe ((wipe σ vs).set m (some x)) vs = wipe σ vs) : ItR2 [.int i, .int j] H (LcW (gName m) tYes te vs σ Q) := by
  refine ⟨i, j, rfl, ⟨by omega, by omega, by omega, by omega⟩, fun p hp => lc_range (lo := i) (n := (j - i).toNat) (Pv p) (h0 p _ hp (Ex.new hp) upd_same) (fun k h hk q => ?_) (hd p)⟩
  exact ⟨hw _, yesL (hs p k h (by omega) q)⟩
/-- a list of ints by a comprehension over a range that only reads and calls what adds to the heap -/
theorem lcF1 {f : Nat → Int} (h1 : -1000000000 ≤ j) (h2 : j ≤ 90000)
    (hs : ∀ (k : Nat) h (R : VK), (k : Int) < j → Ex H h → (∀ h2, Ex h h2 → R (.int (f k)) h2) → te ((wipe σ vs).set m (some (.int k))) h R)
    (hd : ∀ p h, H p = none → Ex H h → h p = some (.lst (((List.range j.toNat).map f).map V.int)) → Q (.ref p) h)
    (hw : ∀ x, wipe ((wipe σ vs).set m (some x)) vs = wipe σ vs) : ItR1 [.int j] H (LcW (gName m) tYes te vs σ Q) := by
  refine lcR1 h1 (by omega) (fun p k h => h p = some (.lst (((List.range k).map f).map V.int)) ∧ Ex H h ∧ H p = none) (fun p h n e hp => ⟨hp, e, n⟩) (fun p k h hk ⟨hp, e, n⟩ => ?_) (fun p h ⟨hp, e, n⟩ => hd p h n e hp) hw
  refine hs k h _ hk e fun h2 e2 => appW (e2 _ _ hp) (by rw [List.length_map, List.length_map, List.length_range]; omega) fun H5 e5 h5 => ⟨?_, ExB.ex (e.trans e2) e5 n, n⟩
  rw [h5, List.range_succ, List.map_append, List.map_append]
  rfl
theorem lcF2 {f : Nat → Int} (h1 : -1000000000 ≤ i ∧ i ≤ 1000000000) (h2 : -1000000000 ≤ j ∧ j ≤ 1000000000) (h3 : j - i ≤ 90000)
    (hs : ∀ (k : Nat) h (R : VK), i + (k : Int) < j → Ex H h → (∀ h2, Ex h h2 → R (.int (f k)) h2) → te ((wipe σ vs).set m (some (.int (i + k)))) h R)
    (hd : ∀ p h, H p = none → Ex H h → h p = some (.lst (((List.range (j - i).toNat).map f).map V.int)) → Q (.ref p) h)
    (hw : ∀ x, wipe ((wipe σ vs).set m (some x)) vs = wipe σ vs) : ItR2 [.int i, .int j] H (LcW (gName m) tYes te vs σ Q) := by
  refine lcR2 h1 h2 (fun p k h => h p = some (.lst (((List.range k).map f).map V.int)) ∧ Ex H h ∧ H p = none) (fun p h n e hp => ⟨hp, e, n⟩) (fun p k h hk ⟨hp, e, n⟩ => ?_) (fun p h ⟨hp, e, n⟩ => hd p h n e hp) hw
  refine hs k h _ hk e fun h2 e2 => appW (e2 _ _ hp) (by rw [List.length_map, List.length_map, List.length_range]; omega) fun H5 e5 h5 => ⟨?_, ExB.ex (e.trans e2) e5 n, n⟩
  rw [h5, List.range_succ, List.map_append, List.map_append]
  rfl
end
theorem sq_fresh {K : PySem.W.Frag} {H0 H1 H2 : Hp} {s p : Addr} {xs : List V} (h0 : SqL K H0 s xs) (np : H0 p = none) (h : SqL K H1 s xs) (e : ExB p H1 H2) : SqL K H2 s xs := by
  rcases h0 with (h0 | ⟨o, h0⟩) | h0
  · exact exb_l e (ne_of_none h0 np) h
  · exact exb_l e (ne_of_none h0 np) h
  · exact .inr h0
end Lay
/-! own classes: their objects, fields, methods -/
namespace Lay
open PySem PySem.Spec PyProof.Rows L2 Evl
/-- an own class and the fields that its objects have -/
structure OC (K : PySem.W.Frag) (mg : Str → Option Value) (x : Str) (C : Addr) (fs : List Str) : Prop where
  cl : Cls K C
  g : mg x = some (.ref C)
  kp : PySem.W.keepIn K (.ref C) = true
  na : ∀ f ∈ fs, NoAttr K C f
/-- a def's text, with or without defaults -/
structure FunD (K : PySem.W.Frag) (x qual : Str) (st : Stmt) (f : Addr) (fd : FuncData) : Prop where
  ex : ∃ (oc : Value) (od : Option Addr) (dV kV doc pm : Value) (an : Option Addr) (cdv ct : Value) (osl : Array (Option Value)),
    fd = PySem.W.fnOf x qual (defArgs st) (defBody st) (defScope st) dV kV doc pm an cdv ct ∧ K.lookup f = some ⟨oc, od, .func fd, osl⟩ ∧ PySem.W.codeIn K cdv qual = true
section
variable {P : Program} {w : World} {K : PySem.W.Frag} {mg : Str → Option Value} {base : Heap}
theorem FunD.okX {x qual : Str} {st : Stmt} {f : Addr} {fd : FuncData} {N ps : List Str} {k : Nat} {sp : Sp} (F : FunD K x qual st f fd) (S : FnScope N ps (defScope st)) (len : ∀ vs H Q E, sp vs H Q E → vs.length = ps.length)
    (hbody : ∀ (cdv : Value) (A : Around) (outer : List Env) (s : Shared) (H : Hp) (vs : List V) (Q : VK) (E : XK), Room k (A.deeper (envOfC qual (defScope st) s.heap.objs.size f cdv)) → sp vs H Q E →
      ∃ t, PSs (cxOf (L2.CX P w) P w K mg base N qual (defScope st) f cdv A outer s H E) (defBody st) t ∧ t { nx := fun _ H' => Q .non H', rt := Q } (start N vs) H) : FnOk P w K mg base (L2.CX P w) (k + 1) f fd ps sp := by
  obtain ⟨oc, od, dV, kV, doc, pm, an, cdv, ct, osl, rfl, lk, hcd⟩ := F.ex
  exact fn_of lk hcd S len fun A outer s H vs Q E hr hsp => hbody cdv A outer s H vs Q E hr hsp
theorem funD_mk {x qual : Str} {st : Stmt} {f : Addr} {oc : Value} {od an : Option Addr} {osl : Array (Option Value)} {dV kV doc pm cdv ct : Value} (l : K.lookup f = some ⟨oc, od, .func (PySem.W.fnOf x qual (defArgs st) (defBody st) (defScope st) dV kV doc pm an cdv ct), osl⟩)
    (c : PySem.W.codeIn K cdv qual = true) : FunD K x qual st f (PySem.W.fnOf x qual (defArgs st) (defBody st) (defScope st) dV kV doc pm an cdv ct) := ⟨⟨oc, od, dV, kV, doc, pm, an, cdv, ct, osl, rfl, l, c⟩⟩
theorem FunD.binds {x qual : Str} {st : Stmt} {f : Addr} {fd : FuncData} {ps : List Str} (F : FunD K x qual st f fd)
    (h : ∀ (dV kV doc pm : Value) (an : Option Addr) (cdv ct : Value) (us : List Value), us.length = ps.length → bindArgs (PySem.W.fnOf x qual (defArgs st) (defBody st) (defScope st) dV kV doc pm an cdv ct) ⟨us, []⟩ = pure (ps.zip us)) : Binds K fd ps [] := by
  obtain ⟨oc, od, dV, kV, doc, pm, an, cdv, ct, osl, rfl, lk, hcd⟩ := F.ex
  exact .all (h dV kV doc pm an cdv ct)
end
/-- a method's text -/
structure AtM (K : PySem.W.Frag) (C : Addr) (m qual : Str) (st : Stmt) (ps : List Str) : Prop where
  ex : ∃ (f : Addr) (fd : FuncData), FunD K m qual st f fd ∧ Meth K C m f ∧ Binds K fd ps []
/-- a method as callers know it -/
structure DM (P : Program) (w : World) (K : PySem.W.Frag) (mg : Str → Option Value) (base : Heap) (C : Addr) (m : Str) (k : Nat) (ps : List Str) (sp : Sp) : Prop where
  ex : ∃ (f : Addr) (fd : FuncData), FnOk P w K mg base (L2.CX P w) k f fd ps sp ∧ Meth K C m f ∧ Binds K fd ps []
/-- an __init__'s text, and the making -/
structure AtI (K : PySem.W.Frag) (mg : Str → Option Value) (x : Str) (C : Addr) (qual : Str) (st : Stmt) (ps : List Str) : Prop where
  ex : ∃ (f : Addr) (fd : FuncData), FunD K "__init__" qual st f fd ∧ Mk K C f ∧ mg x = some (.ref C) ∧ Binds K fd ps []
structure DI (P : Program) (w : World) (K : PySem.W.Frag) (mg : Str → Option Value) (base : Heap) (x : Str) (C : Addr) (k : Nat) (ps : List Str) (sp : Sp) : Prop where
  ex : ∃ (f : Addr) (fd : FuncData), FnOk P w K mg base (L2.CX P w) k f fd ps sp ∧ Mk K C f ∧ mg x = some (.ref C) ∧ Binds K fd ps []
section
variable {P : Program} {w : World} {K : PySem.W.Frag} {mg : Str → Option Value} {base : Heap}
theorem DM.mk' {C : Addr} {m qual : Str} {st : Stmt} {N ps : List Str} {k : Nat} {sp : Sp} (F : AtM K C m qual st ps) (S : FnScope N ps (defScope st)) (len : ∀ vs H Q E, sp vs H Q E → vs.length = ps.length)
    (hbody : ∀ (f : Addr) (cdv : Value) (A : Around) (outer : List Env) (s : Shared) (H : Hp) (vs : List V) (Q : VK) (E : XK), Room k (A.deeper (envOfC qual (defScope st) s.heap.objs.size f cdv)) → sp vs H Q E →
      ∃ t, PSs (cxOf (L2.CX P w) P w K mg base N qual (defScope st) f cdv A outer s H E) (defBody st) t ∧ t { nx := fun _ H' => Q .non H', rt := Q } (start N vs) H) : DM P w K mg base C m (k + 1) ps sp := by
  obtain ⟨f, fd, Ff, g, b⟩ := F.ex
  exact ⟨f, fd, Ff.okX S len (hbody f), g, b⟩
theorem DI.mk' {x : Str} {C : Addr} {qual : Str} {st : Stmt} {N ps : List Str} {k : Nat} {sp : Sp} (F : AtI K mg x C qual st ps) (S : FnScope N ps (defScope st)) (len : ∀ vs H Q E, sp vs H Q E → vs.length = ps.length)
    (hbody : ∀ (f : Addr) (cdv : Value) (A : Around) (outer : List Env) (s : Shared) (H : Hp) (vs : List V) (Q : VK) (E : XK), Room k (A.deeper (envOfC qual (defScope st) s.heap.objs.size f cdv)) → sp vs H Q E →
      ∃ t, PSs (cxOf (L2.CX P w) P w K mg base N qual (defScope st) f cdv A outer s H E) (defBody st) t ∧ t { nx := fun _ H' => Q .non H', rt := Q } (start N vs) H) : DI P w K mg base x C (k + 1) ps sp := by
  obtain ⟨f, fd, Ff, g, m, b⟩ := F.ex
  exact ⟨f, fd, Ff.okX S len (hbody f), g, m, b⟩
end
section
variable {X : Cx} {k : Nat} {ps : List Str} {sp : Sp} {E : XK} {x m : Str} {C : Addr} {p pos apos : Pos} {o e : Expr} {es : List Expr} {ta : TE} {t : TA}
theorem pe_mD {pl : Sem Bool} (d : DM X.prog X.w X.K X.mg X.base C m k ps sp) (c : Cls X.K C) (hr : Room k X.A) (hx : Passes (L2.CX X.prog X.w) X E) (he : PE X o ta) (ha : PA X (e :: es) t)
    (hst : starEach (e :: es) X.env = (false, eval e X.env) :: starEach es X.env := by rfl) (hpl : (backTo pos (starEach es X.env)).any (·.1) = false := by rfl)
    (ht : eval (.Call (.Attribute o m apos) (e :: es) [] pos) X.env = (do
      let ov ← eval o X.env
      standAt apos.atName
      let (f, first) ← holding [ov] (getMethod ov m pl)
      callWith pos f first (backTo pos (starEach (e :: es) X.env)) (backToKw pos (keywordEach [] X.env))) := by rfl) :
    PE X (.Call (.Attribute o m apos) (e :: es) [] pos) (tMeth C m sp [] E ta t) := by
  obtain ⟨f, fd, F, hm, b⟩ := d.ex
  exact pe_meth (pl := pl) he c hm F hr b .nil hx ha hst hpl ht
theorem pe_mD0 {pl : Sem Bool} (d : DM X.prog X.w X.K X.mg X.base C m k ps sp) (c : Cls X.K C) (hr : Room k X.A) (hx : Passes (L2.CX X.prog X.w) X E) (he : PE X o ta)
    (ht : eval (.Call (.Attribute o m apos) [] [] pos) X.env = (do
      let ov ← eval o X.env
      standAt apos.atName
      let (f, first) ← holding [ov] (getMethod ov m pl)
      callWith pos f first (backTo pos (starEach [] X.env)) (backToKw pos (keywordEach [] X.env))) := by rfl) :
    PE X (.Call (.Attribute o m apos) [] [] pos) (tMeth C m sp [] E ta tNil) := by
  obtain ⟨f, fd, F, hm, b⟩ := d.ex
  exact pe_meth0 (pl := pl) he c hm F hr b .nil hx ht
theorem pe_mkD (d : DI X.prog X.w X.K X.mg X.base x C k ps sp) (hr : Room (k + 1) X.A) (hx : Passes (L2.CX X.prog X.w) X E) (ha : PA X (e :: es) t) (hg : Gl X x := by rfl)
    (hdb : (x == ("__debug__" : Str)) = false := by decide) (he : starEach (e :: es) X.env = (false, eval e X.env) :: starEach es X.env := by rfl) (hpl : (backTo pos (starEach es X.env)).any (·.1) = false := by rfl) :
    PE X (.Call (.Name x p) (e :: es) [] pos) (tMake C sp [] E t) := by
  obtain ⟨f, fd, F, hm, g, b⟩ := d.ex
  exact pe_make hm F hr hg g b .nil hx ha hdb he hpl
end
/-! ### readings -/
def rFld (K : PySem.W.Frag) (f : Str) (x : V) (H : Hp) (Q : VK) : Prop := ∃ a C dx fs v, x = .ref a ∧ H a = some (.ins C dx fs) ∧ Cls K C ∧ NoAttr K C f ∧ fs.lookup f = some v ∧ Q v H
def rFst (K : PySem.W.Frag) (f : Str) (y : V) (σ : L2.St) (N : L2.St → Hp → Prop) (x : V) (H : Hp) : Prop := ∃ a C dx fs, x = .ref a ∧ H a = some (.ins C dx fs) ∧ Cls K C ∧ NoAttr K C f ∧ fs.length < 1000 ∧ N σ (upd H a (.ins C dx (putF f y fs)))
def rMth (C : Addr) (m : Str) (sp : Sp) (E : XK) (σ : L2.St) (t : TA) (Q : VK) (x : V) (H : Hp) : Prop := ∃ a dx fs, x = .ref a ∧ H a = some (.ins C dx fs) ∧ fs.lookup m = none ∧ t σ H fun vs H2 => sp (x :: vs) H2 Q E
def rMk (C : Addr) (sp : Sp) (E : XK) (Q : VK) (vs : List V) (H : Hp) : Prop := ∀ x dx, H x = none → H dx = none → dx ≠ x → sp (.ref x :: (vs ++ [])) (upd (upd H dx (.own x)) x (.ins C dx [])) (fun v H2 => v = .non ∧ Q (.ref x) H2) E
section
variable {K : PySem.W.Frag} {mg : Str → Option Value} {σ : L2.St} {H : Hp} {D : Ends} {Q : VK} {N : L2.St → Hp → Prop} {ta tv : TE} {t : TA} {f m x : Str} {a C dx : Addr} {fs : List (Str × V)} {ff : List Str} {v y : V} {sp : Sp} {E : XK}
theorem r_fld (h : ta σ H fun x H1 => rFld K f x H1 Q) : tFld K ta f σ H Q := h
theorem r_rfld (h : H a = some (.ins C dx fs)) (c : OC K mg x C ff) (hf : f ∈ ff) (l : fs.lookup f = some v) (q : Q v H) : rFld K f (.ref a) H Q := ⟨a, C, dx, fs, v, rfl, h, c.cl, c.na f hf, l, q⟩
theorem r_fst (h : tv σ H fun y H1 => ta σ H1 fun x H2 => rFst K f y σ D.nx x H2) : sFld K ta tv f D σ H := h
theorem r_rfst (h : H a = some (.ins C dx fs)) (c : OC K mg x C ff) (hf : f ∈ ff) (l : fs.length < 1000) (q : ∀ H2, ExB a H H2 → H2 a = some (.ins C dx (putF f y fs)) → N σ H2) : rFst K f y σ N (.ref a) H :=
  ⟨a, C, dx, fs, rfl, h, c.cl, c.na f hf, l, q _ (fun b o n e => by rw [upd_ne n]; exact e) upd_same⟩
theorem r_mth (h : ta σ H fun x H1 => rMth C m sp E σ t Q x H1) : tMeth C m sp [] E ta t σ H Q := by
  refine Eq.mp ?_ h
  unfold tMeth rMth
  simp only [List.append_nil]
theorem r_rmth (h : H a = some (.ins C dx fs)) (l : fs.lookup m = none) (q : t σ H fun vs H2 => sp (.ref a :: vs) H2 Q E) : rMth C m sp E σ t Q (.ref a) H := ⟨a, dx, fs, rfl, h, l, q⟩
theorem r_make (h : t σ H fun vs H1 => rMk C sp E Q vs H1) : tMake C sp [] E t σ H Q := h
/-- a new object: __init__ is handed it, empty -/
theorem r_rmk {vs : List V} (h : ∀ x dx H2, H x = none → H dx = none → dx ≠ x → Ex H H2 → H2 x = some (.ins C dx []) → sp (.ref x :: vs) H2 (fun v H3 => v = .non ∧ Q (.ref x) H3) E) : rMk C sp E Q vs H := fun x dx nx nd ne => by
  have e : Ex H (upd (upd H dx (.own x)) x (.ins C dx [])) := fun b o hb => by
    rw [upd_ne (ne_of_none hb nx), upd_ne (ne_of_none hb nd)]
    exact hb
  rw [List.append_nil]
  exact h x dx _ nx nd ne e upd_same
end
/-- a statement that is never reached -/
theorem ps_dead {X : Cx} {st : Stmt} : PS X st (fun _ _ _ => False) := ⟨fun _ _ _ _ _ _ h => h.elim⟩
theorem pe_dead {X : Cx} {e : Expr} : PE X e (fun _ _ _ => False) := ⟨fun _ _ _ _ _ _ h => h.elim⟩
def rPar (i j : Nat) (N : L2.St → Hp → Prop) (σ : L2.St) (vs : List V) (H : Hp) : Prop := ∃ v w, vs = [v, w] ∧ N ((σ.set i (some v)).set j (some w)) H
theorem r_par {i j : Nat} {ta : TA} {D : Ends} {σ : L2.St} {H : Hp} (h : ta σ H fun vs H1 => rPar i j D.nx σ vs H1) : tPar i j ta D σ H := h
theorem r_rpar {i j : Nat} {N : L2.St → Hp → Prop} {σ : L2.St} {H : Hp} {v w : V} (h : N ((σ.set i (some v)).set j (some w)) H) : rPar i j N σ [v, w] H := ⟨v, w, rfl, h⟩
/-! ### o.append(e), o any expression -/
def rBMr (K : PySem.W.Frag) (r : V → List V → Hp → VK → Prop) (t : TA) (Q : VK) (σ : L2.St) (x : V) (H : Hp) : Prop := tyV K "list" x H ∧ t σ H fun xs H2 => r x xs H2 Q
section
variable {K : PySem.W.Frag} {σ : L2.St} {H : Hp} {Q : VK} {to : TE} {t : TA} {r : V → List V → Hp → VK → Prop} {p : Addr} {xs : List V}
theorem r_bmG (h : to σ H fun x H1 => rBMr K r t Q σ x H1) : tBM K "list" r to t σ H Q := h
theorem r_bmR (h : SqL K H p xs) (q : t σ H fun vs H2 => r (.ref p) vs H2 Q) : rBMr K r t Q σ (.ref p) H := ⟨.inl ⟨rfl, _, h⟩, q⟩
end
end Lay
/-! lists of references: rows of pairs; data of any shape compared; comprehensions with any target and a filter -/
namespace Lay
open PySem PySem.Spec PyProof.Rows L2 Evl
/-! ### data -/
mutual
theorem Dp.ex {K : PySem.W.Frag} {H H' : Hp} (e : Ex H H') : ∀ (d : PyData) (v : V), Dp K H v d → Dp K H' v d
  | .none, _, h => by cases h; exact .non
  | .bool b, _, h => by cases h; exact .bl b
  | .int i, _, h => by cases h; exact .int i
  | .str x, _, h => by cases h; exact .str x
  | .list ds, _, h => by
    cases h with
    | lst hs ha => exact .lst (ex_l e hs) (Dp.exAll e ds _ ha)
  | .tuple ds, _, h => by
    cases h with
    | tup hs ha => exact .tup (ex_t e hs) (Dp.exAll e ds _ ha)
  | .dict _, _, h => by cases h
theorem Dp.exAll {K : PySem.W.Frag} {H H' : Hp} (e : Ex H H') : ∀ (ds : List PyData) (vs : List V), DpAll K H vs ds → DpAll K H' vs ds
  | [], _, h => by cases h; exact .nil
  | d :: ds, _, h => by
    cases h with
    | cons h1 h2 => exact .cons (Dp.ex e d _ h1) (Dp.exAll e ds _ h2)
end
theorem DpAll.snoc {K : PySem.W.Frag} {H : Hp} {v : V} {d : PyData} (h : Dp K H v d) : ∀ {vs : List V} {ds : List PyData}, DpAll K H vs ds → DpAll K H (vs ++ [v]) (ds ++ [d])
  | _, _, .nil => .cons h .nil
  | _, _, .cons a r => .cons a (DpAll.snoc h r)
theorem DpAll.len {K : PySem.W.Frag} {H : Hp} : ∀ {vs : List V} {ds : List PyData}, DpAll K H vs ds → vs.length = ds.length
  | _, _, .nil => rfl
  | _, _, .cons a r => congrArg (· + 1) (DpAll.len r)
/-- flat data -/
def Fl (d : PyData) : Prop := d.canLay0 = true ∧ d.depth ≤ 3
theorem fl_all : ∀ {ds : List PyData}, (∀ d ∈ ds, Fl d) → PyData.canLayAll0 ds = true ∧ PyData.depthAll ds ≤ 3
  | [], _ => ⟨rfl, by simp [PyData.depthAll]⟩
  | d :: ds, h => by
    have a := h d List.mem_cons_self
    have b := fl_all fun x hx => h x (List.mem_cons_of_mem _ hx)
    refine ⟨?_, ?_⟩
    · simp only [PyData.canLayAll0, a.1, b.1, Bool.and_self]
    · simp only [PyData.depthAll]
      have := a.2
      have := b.2
      omega
theorem sh_fl {ds : List PyData} (h : ∀ d ∈ ds, Fl d) : SeqAt.shaped (.list ds) = true := by
  have a := fl_all h
  refine shape_of ?_ ?_
  · simp only [PyData.canLay0]
    exact a.1
  · simp only [PyData.depth]
    omega
theorem eqv_nil (ds : List PyData) : PyData.eqv (.list ds) (.list []) = decide (ds = []) := by
  cases ds with
  | nil => simp [PyData.eqv, PyData.eqvAll]
  | cons d ds => simp [PyData.eqv, PyData.eqvAll]
section
variable {K : PySem.W.Frag} {H : Hp} {Q : VK} {p q : Addr} {ds : List PyData} {xs : List V} {v : V} {i : Int}
theorem r_neNil (h1 : Dp K H (.ref p) (.list ds)) (hf : ∀ d ∈ ds, Fl d) (h2 : SqL K H q []) (k : Q (.bl (!decide (ds = []))) H) : rNeD K (.ref p) (.ref q) H Q :=
  r_neD h1 (.lst h2 .nil) (sh_fl hf) (sh_fl fun _ z => (List.not_mem_nil z).elim) (by rw [eqv_nil]; exact k)
theorem r_eqNil (h1 : Dp K H (.ref p) (.list ds)) (hf : ∀ d ∈ ds, Fl d) (h2 : SqL K H q []) (k : Q (.bl (decide (ds = []))) H) : rEqD K (.ref p) (.ref q) H Q :=
  r_eqD h1 (.lst h2 .nil) (sh_fl hf) (sh_fl fun _ z => (List.not_mem_nil z).elim) (by rw [eqv_nil]; exact k)
/-- x != None of a list or a tuple -/
theorem r_neNon {d : PyData} (h1 : Dp K H v d) (hs : SeqAt.shaped d = true) (hn : PyData.eqv d .none = false) (k : Q (.bl true) H) : rNeD K v .non H Q :=
  r_neD h1 .non hs rfl (by rw [hn]; exact k)
end
/-! ### isinstance of own classes -/
structure OI (K : PySem.W.Frag) (C : Addr) : Prop where
  ha : PySem.W.findIn K (.ref C) "__class__" = some (some (.builtin "object.__class__"))
  hn : PySem.W.specialIn K (.builtin "object.__class__") "__get__" = some (some (.builtin "getset_descriptor.__get__"))
  htk : PySem.W.takesIn K (.builtin "object.__class__") = some true
  hm : PySem.W.mroIn K C (.type "object") = some true
theorem r_isO {K : PySem.W.Frag} {mg : Str → Option Value} {x : Str} {ff : List Str} {H : Hp} {Q : VK} {a C C2 dx : Addr} {fs : List (Str × V)} {b : Bool} (h : H a = some (.ins C dx fs)) (c : OC K mg x C ff) (o : OI K C)
    (k : PySem.W.kitOne K (.ref C) (.ref C2) = some b) (q : Q (.bl b) H) : rIsi K [.ref a, .ref C2] H Q := ⟨.ref a, .ref C2, .ref C, .ref C2, b, rfl, .own C2, .base (.ins h c.cl o.ha o.hn o.htk o.hm), k, q⟩
/-! ### a list or a tuple is no object -/
theorem exb_lI {K : PySem.W.Frag} {l C dx : Addr} {fs : List (Str × V)} {H H' : Hp} {a : Addr} {xs : List V} (e : ExB l H H') (hl : H l = some (.ins C dx fs)) (h : SqL K H a xs) : SqL K H' a xs := by
  rcases h with (h | ⟨o, h⟩) | h
  · exact .inl (.inl (e _ _ (fun z => by rw [z, hl] at h; cases h) h))
  · exact .inl (.inr ⟨o, e _ _ (fun z => by rw [z, hl] at h; cases h) h⟩)
  · exact .inr h
theorem int_at {ns : List Int} {i : Nat} {x : V} (h : (ns.map V.int)[i]? = some x) : ∃ hi : i < ns.length, x = .int ns[i] := by
  rw [List.getElem?_map] at h
  cases e : ns[i]? with
  | none =>
    rw [e] at h
    cases h
  | some z =>
    rw [e] at h
    cases h
    obtain ⟨hi, q⟩ := List.getElem?_eq_some_iff.mp e
    exact ⟨hi, by rw [q]⟩
theorem gi_range {f : Nat → Int} {n : Nat} {i : Int} (h0 : 0 ≤ i) (h1 : i < n) : gi ((List.range n).map f) i = f i.toNat := by
  unfold gi
  rw [List.getD_eq_getElem?_getD, List.getElem?_map, List.getElem?_range (by omega)]
  rfl
theorem take_snoc {ns : List Int} {i : Nat} (h : i < ns.length) : ns.take i ++ [ns[i]] = ns.take (i + 1) := (List.take_succ_eq_append_getElem h).symm
theorem take_sum {ns : List Int} {i : Nat} (h : i < ns.length) : (ns.take i).sum + ns[i] = (ns.take (i + 1)).sum := by
  rw [List.take_succ_eq_append_getElem h, List.sum_append]
  simp
/-! ### lists of references -/
def ga (ps : List Addr) (i : Int) : Addr := ps.getD i.toNat 0
theorem atI_ga {ps : List Addr} {i : Int} (h0 : 0 ≤ i) (h1 : i < ps.length) : atI (ps.map V.ref) i = some (.ref (ga ps i)) := by
  obtain ⟨j, rfl⟩ : ∃ j : Nat, i = (j : Int) := ⟨i.toNat, by omega⟩
  have hj : j < ps.length := by omega
  refine atI_nat ?_
  rw [List.getElem?_map]
  unfold ga
  rw [Int.toNat_natCast, List.getD_eq_getElem?_getD, List.getElem?_eq_getElem hj]
  rfl
theorem ga_at {ps : List Addr} {i : Nat} {x : V} (h : (ps.map V.ref)[i]? = some x) : x = .ref (ga ps i) ∧ i < ps.length := by
  rw [List.getElem?_map] at h
  cases e : ps[i]? with
  | none =>
    rw [e] at h
    cases h
  | some z =>
    rw [e] at h
    cases h
    refine ⟨?_, (List.getElem?_eq_some_iff.mp e).1⟩
    unfold ga
    rw [Int.toNat_natCast, List.getD_eq_getElem?_getD, e]
    rfl
/-- pairs of ints -/
abbrev Prs := List (Int × Int)
def zl (sp : Prs) (i : Int) : Int := (sp.getD i.toNat (0, 0)).1
def zh (sp : Prs) (i : Int) : Int := (sp.getD i.toNat (0, 0)).2
/-- at a stands a list of these pairs -/
def PrL (K : PySem.W.Frag) (H : Hp) (a : Addr) (ps : List Addr) (sp : Prs) : Prop :=
  SqL K H a (ps.map V.ref) ∧ ps.length = sp.length ∧ ∀ i : Int, 0 ≤ i → i < sp.length → H (ga ps i) = some (.tup [.int (zl sp i), .int (zh sp i)])
theorem PrL.ex {K : PySem.W.Frag} {H H2 : Hp} {a : Addr} {ps : List Addr} {sp : Prs} (h : PrL K H a ps sp) (e : Ex H H2) : PrL K H2 a ps sp :=
  ⟨ex_l e h.1, h.2.1, fun i h0 h1 => e _ _ (h.2.2 i h0 h1)⟩
theorem PrL.exb {K : PySem.W.Frag} {H H2 : Hp} {a l : Addr} {ps : List Addr} {sp : Prs} (h : PrL K H a ps sp) (e : ExB l H H2) (n : a ≠ l) (nt : ∀ xs, H l ≠ some (.tup xs)) : PrL K H2 a ps sp :=
  ⟨exb_l e n h.1, h.2.1, fun i h0 h1 => e _ _ (fun z => nt _ (by rw [← z]; exact h.2.2 i h0 h1)) (h.2.2 i h0 h1)⟩
/-- one pair more at the list's end -/
theorem ga_snoc {ps : List Addr} {p : Addr} {i : Int} (h0 : 0 ≤ i) (h : i < ps.length) : ga (ps ++ [p]) i = ga ps i := by
  unfold ga
  rw [List.getD_eq_getElem?_getD, List.getD_eq_getElem?_getD, List.getElem?_append_left (by omega)]
theorem ga_last {ps : List Addr} {p : Addr} {i : Int} (h : i = ps.length) : ga (ps ++ [p]) i = p := by
  unfold ga
  rw [h, Int.toNat_natCast, List.getD_eq_getElem?_getD, List.getElem?_append_right (Nat.le_refl _), Nat.sub_self]
  rfl
theorem gd_snoc {sp : Prs} {p : Int × Int} {i : Int} (h0 : 0 ≤ i) (h : i < sp.length) : (sp ++ [p]).getD i.toNat (0, 0) = sp.getD i.toNat (0, 0) := by
  rw [List.getD_eq_getElem?_getD, List.getD_eq_getElem?_getD, List.getElem?_append_left (by omega)]
theorem gd_last {sp : Prs} {p : Int × Int} {i : Int} (h : i = sp.length) : (sp ++ [p]).getD i.toNat (0, 0) = p := by
  rw [h, Int.toNat_natCast, List.getD_eq_getElem?_getD, List.getElem?_append_right (Nat.le_refl _), Nat.sub_self]
  rfl
theorem snoc_at {H2 : Hp} {t : Addr} {ps : List Addr} {sp : Prs} {lo hi : Int} (hl : ps.length = sp.length) (ht : ∀ i : Int, 0 ≤ i → i < sp.length → H2 (ga ps i) = some (.tup [.int (zl sp i), .int (zh sp i)]))
    (hp : H2 t = some (.tup [.int lo, .int hi])) (i : Int) (h0 : 0 ≤ i) (h1 : i < (sp ++ [(lo, hi)]).length) : H2 (ga (ps ++ [t]) i) = some (.tup [.int (zl (sp ++ [(lo, hi)]) i), .int (zh (sp ++ [(lo, hi)]) i)]) := by
  rw [List.length_append] at h1
  change i < ((sp.length + 1 : Nat) : Int) at h1
  by_cases c : i < sp.length
  · rw [ga_snoc h0 (by omega)]
    unfold zl zh
    rw [gd_snoc h0 c]
    exact ht i h0 c
  · rw [ga_last (by omega)]
    unfold zl zh
    rw [gd_last (by omega)]
    exact hp
section
variable {K : PySem.W.Frag} {σ : L2.St} {H : Hp} {D : Ends} {g : TG} {tb : TS} {te : TE} {tt : TT} {Q : VK} {a p : Addr} {xs : List V} {ns : List Int} {m : Nat} {vs : List Nat} {i j : Int} {ps : List Addr} {sp : Prs} {v : V}
theorem r_ixP (h : PrL K H p ps sp) (h0 : 0 ≤ i) (h1 : i < sp.length) (q : H (ga ps i) = some (.tup [.int (zl sp i), .int (zh sp i)]) → Q (.ref (ga ps i)) H) : rIxL K (.ref p) (.int i) H Q :=
  r_ixL h.1 (atI_ga h0 (by rw [h.2.1]; exact h1)) (q (h.2.2 i h0 h1))
theorem r_lenP (h : PrL K H p ps sp) (q : Q (.int sp.length) H) : rLen K [.ref p] H Q := r_len h.1 (by rw [List.length_map, h.2.1]; exact q)
theorem r_listP (h : PrL K H p ps sp) (k : ∀ p2 H2, H p2 = none → Ex H H2 → PrL K H2 p2 ps sp → H2 p2 = some (.lst (ps.map V.ref)) → Q (.ref p2) H2) : rList K [.ref p] H Q :=
  r_list h.1 fun p2 H2 n e h2 => k p2 H2 n e ⟨L2.SqL.of h2, h.2.1, fun i h0 h1 => e _ _ (h.2.2 i h0 h1)⟩ h2
/-- for x in pairs -/
theorem forP (hx : PrL K H a ps sp) (Pv : Nat → L2.St → Hp → Prop) (h0 : Pv 0 σ H) (hl : ∀ i s h, i ≤ sp.length → Pv i s h → SqL K h a (ps.map V.ref))
    (hs : ∀ (i : Nat) s h, i < sp.length → Pv i s h → g (.ref (ga ps i)) s h fun s2 h2 => tb ⟨Pv (i + 1), D.rt, D.nx, Pv (i + 1)⟩ s2 h2) (hd : ∀ s h, Pv sp.length s h → D.nx s h) : ItL K (.ref a) H (ForW g tb D σ) := by
  refine forL hx.1 Pv h0 (fun i s h hi q => hl i s h (by rw [List.length_map, hx.2.1] at hi; exact hi) q) (fun i x s h hi q => ?_) (fun s h q => hd s h (by rw [List.length_map, hx.2.1] at q; exact q))
  obtain ⟨rfl, hj⟩ := ga_at hi
  exact hs i s h (by rw [← hx.2.1]; exact hj) q
/-- a comprehension with any target -/
theorem lcLG (hx : SqL K H a xs) (Pv : Addr → Nat → Hp → Prop) (h0 : ∀ p h, H p = none → Ex H h → h p = some (.lst []) → Pv p 0 h) (hl : ∀ p i h, i ≤ xs.length → Pv p i h → SqL K h a xs)
    (hs : ∀ p (i : Nat) x h, xs[i]? = some x → Pv p i h → g x (wipe σ vs) h fun σ2 h2 => wipe σ2 vs = wipe σ vs ∧ tt σ2 h2 fun b h3 => if b = true then te σ2 h3 (AppW p (Pv p (i + 1))) else Pv p (i + 1) h3)
    (hd : ∀ p h, Pv p xs.length h → Q (.ref p) h) : ItL K (.ref a) H (LcW g tt te vs σ Q) :=
  ⟨a, rfl, ⟨xs, hx⟩, fun p hp => lc_list (K := K) (a := a) (xs := xs) (Pv p) (h0 p _ hp (Ex.new hp) upd_same) (fun i h hi q => hl p i h hi q) (fun i x h hi q => hs p i x h hi q) (hd p)⟩
theorem lcP (hx : PrL K H a ps sp) (Pv : Addr → Nat → Hp → Prop) (h0 : ∀ p h, H p = none → Ex H h → h p = some (.lst []) → Pv p 0 h) (hl : ∀ p i h, i ≤ sp.length → Pv p i h → SqL K h a (ps.map V.ref))
    (hs : ∀ p (i : Nat) h, i < sp.length → Pv p i h → g (.ref (ga ps i)) (wipe σ vs) h fun σ2 h2 => wipe σ2 vs = wipe σ vs ∧ tt σ2 h2 fun b h3 => if b = true then te σ2 h3 (AppW p (Pv p (i + 1))) else Pv p (i + 1) h3)
    (hd : ∀ p h, Pv p sp.length h → Q (.ref p) h) : ItL K (.ref a) H (LcW g tt te vs σ Q) := by
  refine lcLG hx.1 Pv h0 (fun p i h hi q => hl p i h (by rw [List.length_map, hx.2.1] at hi; exact hi) q) (fun p i x h hi q => ?_) (fun p h q => hd p h (by rw [List.length_map, hx.2.1] at q; exact q))
  obtain ⟨rfl, hj⟩ := ga_at hi
  exact hs p i h (by rw [← hx.2.1]; exact hj) q
theorem r_yesC {P : Prop} {h3 : Hp} {K1 : VK} {B : Hp → Prop} (hp : P) (h : te σ h3 K1) : P ∧ tYes σ h3 fun b h3 => if b = true then te σ h3 K1 else B h3 := ⟨hp, yesL h⟩
theorem r_listRg (h : te σ H fun x H1 => NewL [] H1 Q) : te σ H fun x H1 => NewL [] H1 Q := h
end
/-! ### texts compared -/
theorem dS {a b : Str} : decide (V.str a = V.str b) = decide (a = b) := by
  by_cases e : a = b
  · rw [e]
    simp
  · rw [decide_eq_false e, decide_eq_false (fun h => e (V.str.inj h))]
section
variable {H : Hp} {Q : VK} {a b : Str}
theorem r_eqS (h : Q (.bl (decide (a = b))) H) : rEq (.str a) (.str b) H Q := ⟨rfl, by rw [dS]; exact h⟩
theorem r_neS (h : Q (.bl (!decide (a = b))) H) : rNe (.str a) (.str b) H Q := ⟨rfl, by rw [dS]; exact h⟩
end
/-! ### a list of pairs as it grows -/
def PB (h : Hp) (l : Addr) (qs : List Addr) (sp : Prs) : Prop := h l = some (.lst (qs.map V.ref)) ∧ qs.length = sp.length ∧ ∀ i : Int, 0 ≤ i → i < sp.length → h (ga qs i) = some (.tup [.int (zl sp i), .int (zh sp i)])
theorem PB.nil {h : Hp} {l : Addr} (hl : h l = some (.lst [])) : PB h l [] [] := ⟨hl, rfl, fun i a b => absurd b (by show ¬ i < 0; omega)⟩
theorem PB.ex {h h2 : Hp} {l : Addr} {qs : List Addr} {sp : Prs} (b : PB h l qs sp) (e : Ex h h2) : PB h2 l qs sp := ⟨e _ _ b.1, b.2.1, fun i h0 h1 => e _ _ (b.2.2 i h0 h1)⟩
theorem PB.exb {h h2 : Hp} {l p : Addr} {qs : List Addr} {sp : Prs} (b : PB h l qs sp) (e : ExB p h h2) (n : l ≠ p) (nt : ∀ xs, h p ≠ some (.tup xs)) : PB h2 l qs sp :=
  ⟨e _ _ n b.1, b.2.1, fun i h0 h1 => e _ _ (fun z => nt _ (by rw [← z]; exact b.2.2 i h0 h1)) (b.2.2 i h0 h1)⟩
theorem Pur.nt {h : Hp} {p : Addr} (hp : Pur h p) : ∀ xs, h p ≠ some (.tup xs) := fun xs z => by
  obtain ⟨a, b, c, hp⟩ := hp
  rw [hp] at z
  cases z
theorem PB.pr {K : PySem.W.Frag} {h : Hp} {l : Addr} {qs : List Addr} {sp : Prs} (b : PB h l qs sp) : PrL K h l qs sp := ⟨L2.SqL.of b.1, b.2⟩
theorem PB.put {h h1 H5 : Hp} {l t : Addr} {qs : List Addr} {sp : Prs} {lo hi : Int} (b : PB h l qs sp) (e : Ex h h1) (ht : h1 t = some (.tup [.int lo, .int hi])) (e5 : ExB l h1 H5) (h5 : H5 l = some (.lst (qs.map V.ref ++ [.ref t]))) : PB H5 l (qs ++ [t]) (sp ++ [(lo, hi)]) := by
  have hl := e _ _ b.1
  refine ⟨by rw [List.map_append]; exact h5, by rw [List.length_append, List.length_append, b.2.1]; rfl, snoc_at b.2.1 (fun i h0 h1' => ?_) (e5 _ _ (fun y => by rw [y, hl] at ht; cases ht) ht)⟩
  have z := e _ _ (b.2.2 i h0 h1')
  exact e5 _ _ (fun y => by rw [y, hl] at z; cases z) z
theorem PB.app {h h1 : Hp} {l t : Addr} {qs : List Addr} {sp : Prs} {lo hi : Int} {Q : VK} (b : PB h l qs sp) (lt : qs.length < 100000) (e : Ex h h1) (ht : h1 t = some (.tup [.int lo, .int hi]))
    (q : ∀ H5, ExB l h1 H5 → PB H5 l (qs ++ [t]) (sp ++ [(lo, hi)]) → Q .non H5) : rAppend (.ref l) [.ref t] h1 Q :=
  r_app (e _ _ b.1) (by rw [List.length_map]; exact lt) fun H5 e5 h5 _ => q H5 e5 (b.put e ht e5 h5)
theorem PB.appW {h h1 : Hp} {l t : Addr} {qs : List Addr} {sp : Prs} {lo hi : Int} {N : Hp → Prop} (b : PB h l qs sp) (lt : qs.length < 100000) (e : Ex h h1) (ht : h1 t = some (.tup [.int lo, .int hi]))
    (q : ∀ H5, ExB l h1 H5 → PB H5 l (qs ++ [t]) (sp ++ [(lo, hi)]) → N H5) : AppW l N (.ref t) h1 :=
  Lay.appW (e _ _ b.1) (by rw [List.length_map]; exact lt) fun H5 e5 h5 => q H5 e5 (b.put e ht e5 h5)
theorem ga_app {ps qs : List Addr} {i : Int} (h0 : 0 ≤ i) : ga (ps ++ qs) i = if i < ps.length then ga ps i else ga qs (i - ps.length) := by
  unfold ga
  split
  · rw [List.getD_eq_getElem?_getD, List.getD_eq_getElem?_getD, List.getElem?_append_left (by omega)]
  · rw [List.getD_eq_getElem?_getD, List.getD_eq_getElem?_getD, List.getElem?_append_right (by omega)]
    congr 2
    omega
theorem gd_app {ps qs : Prs} {i : Int} (h0 : 0 ≤ i) : (ps ++ qs).getD i.toNat (0, 0) = if i < ps.length then ps.getD i.toNat (0, 0) else qs.getD (i - ps.length).toNat (0, 0) := by
  split
  · rw [List.getD_eq_getElem?_getD, List.getD_eq_getElem?_getD, List.getElem?_append_left (by omega)]
  · rw [List.getD_eq_getElem?_getD, List.getD_eq_getElem?_getD, List.getElem?_append_right (by omega)]
    congr 2
    omega
theorem PB.cat {h : Hp} {l m : Addr} {qs rs : List Addr} {sp tp : Prs} {Q : VK} (b : PB h l qs sp) (c : PB h m rs tp) (lt : qs.length + rs.length ≤ 100000)
    (q : ∀ p2 H2, h p2 = none → Ex h H2 → PB H2 p2 (qs ++ rs) (sp ++ tp) → Q (.ref p2) H2) : rCat (.ref l) (.ref m) h Q :=
  r_cat b.1 c.1 (by rw [List.length_map, List.length_map]; exact lt) fun p2 H2 n e h2 => q p2 H2 n e ⟨by rw [List.map_append]; exact h2, by rw [List.length_append, List.length_append, b.2.1, c.2.1], fun i h0 h1 => by
    rw [List.length_append] at h1
    unfold zl zh
    rw [ga_app h0, gd_app h0, b.2.1]
    by_cases k : i < sp.length
    · rw [if_pos k, if_pos k]
      exact e _ _ (b.2.2 i h0 k)
    · rw [if_neg k, if_neg k]
      exact e _ _ (c.2.2 (i - sp.length) (by omega) (by omega))⟩
/-! ### a list of triples as it grows -/
def T3 (h : Hp) (t : Addr) : Prop := ∃ (a b : Int) (c : V), ((∃ k, c = .bl k) ∨ ∃ z, c = .int z) ∧ h t = some (.tup [.int a, .int b, c])
def TB (h : Hp) (l : Addr) (ts : List Addr) : Prop := h l = some (.lst (ts.map V.ref)) ∧ ∀ t ∈ ts, T3 h t
theorem TB.nil {h : Hp} {l : Addr} (hl : h l = some (.lst [])) : TB h l [] := ⟨hl, fun _ z => (List.not_mem_nil z).elim⟩
theorem T3.ex {h h2 : Hp} {t : Addr} (b : T3 h t) (e : Ex h h2) : T3 h2 t := by
  obtain ⟨a, b, c, k, z⟩ := b
  exact ⟨a, b, c, k, e _ _ z⟩
theorem TB.ex {h h2 : Hp} {l : Addr} {ts : List Addr} (b : TB h l ts) (e : Ex h h2) : TB h2 l ts := ⟨e _ _ b.1, fun t m => (b.2 t m).ex e⟩
theorem TB.put {h h1 H5 : Hp} {l t : Addr} {ts : List Addr} (b : TB h l ts) (e : Ex h h1) (ht : T3 h1 t) (e5 : ExB l h1 H5) (h5 : H5 l = some (.lst (ts.map V.ref ++ [.ref t]))) : TB H5 l (ts ++ [t]) := by
  have hl := e _ _ b.1
  have key : ∀ u, T3 h1 u → T3 H5 u := fun u ⟨a, b, c, k, z⟩ => ⟨a, b, c, k, e5 _ _ (fun y => by rw [y, hl] at z; cases z) z⟩
  refine ⟨by rw [List.map_append]; exact h5, fun u m => ?_⟩
  rcases List.mem_append.mp m with m | m
  · exact key u ((b.2 u m).ex e)
  · rw [List.mem_singleton.mp m]
    exact key t ht
theorem TB.app {h h1 : Hp} {l t : Addr} {ts : List Addr} {Q : VK} (b : TB h l ts) (lt : ts.length < 100000) (e : Ex h h1) (ht : T3 h1 t) (q : ∀ H5, ExB l h1 H5 → TB H5 l (ts ++ [t]) → Q .non H5) : rAppend (.ref l) [.ref t] h1 Q :=
  r_app (e _ _ b.1) (by rw [List.length_map]; exact lt) fun H5 e5 h5 _ => q H5 e5 (b.put e ht e5 h5)
theorem TB.appW {h h1 : Hp} {l t : Addr} {ts : List Addr} {N : Hp → Prop} (b : TB h l ts) (lt : ts.length < 100000) (e : Ex h h1) (ht : T3 h1 t) (q : ∀ H5, ExB l h1 H5 → TB H5 l (ts ++ [t]) → N H5) : AppW l N (.ref t) h1 :=
  Lay.appW (e _ _ b.1) (by rw [List.length_map]; exact lt) fun H5 e5 h5 => q H5 e5 (b.put e ht e5 h5)
theorem dp_t3 {K : PySem.W.Frag} {h : Hp} {t : Addr} (b : T3 h t) : ∃ d, Dp K h (.ref t) d ∧ Fl d := by
  obtain ⟨a, b, c, k | k, z⟩ := b
  · obtain ⟨k, rfl⟩ := k
    exact ⟨_, .tup (L2.SqT.of z) (.cons (.int a) (.cons (.int b) (.cons (.bl k) .nil))), by simp [PyData.canLay0, PyData.canLayAll0], by simp [PyData.depth, PyData.depthAll]⟩
  · obtain ⟨k, rfl⟩ := k
    exact ⟨_, .tup (L2.SqT.of z) (.cons (.int a) (.cons (.int b) (.cons (.int k) .nil))), by simp [PyData.canLay0, PyData.canLayAll0], by simp [PyData.depth, PyData.depthAll]⟩
theorem dp_t3s {K : PySem.W.Frag} {h : Hp} : ∀ {ts : List Addr}, (∀ t ∈ ts, T3 h t) → ∃ ds, DpAll K h (ts.map V.ref) ds ∧ (∀ d ∈ ds, Fl d) ∧ (ds = [] ↔ ts = [])
  | [], _ => ⟨[], .nil, fun _ z => (List.not_mem_nil z).elim, Iff.rfl.trans (by simp)⟩
  | t :: ts, b => by
    obtain ⟨d, h1, h2⟩ := dp_t3 (K := K) (b t List.mem_cons_self)
    obtain ⟨ds, g1, g2, _⟩ := dp_t3s (K := K) fun u m => b u (List.mem_cons_of_mem _ m)
    refine ⟨d :: ds, .cons h1 g1, fun e m => ?_, by simp⟩
    rcases List.mem_cons.mp m with r | m
    · rw [r]; exact h2
    · exact g2 e m
theorem r_neT3 {K : PySem.W.Frag} {h : Hp} {Q : VK} {l q : Addr} {ts : List Addr} (b : TB h l ts) (hq : SqL K h q []) (k : Q (.bl (!decide (ts = []))) h) : rNeD K (.ref l) (.ref q) h Q := by
  obtain ⟨ds, d1, d2, d3⟩ := dp_t3s (K := K) b.2
  refine r_neNil (.lst (L2.SqL.of b.1) d1) d2 hq ?_
  have e : decide (ds = []) = decide (ts = []) := decide_eq_decide.mpr d3
  rw [e]
  exact k
theorem PB.one {h : Hp} {l t : Addr} {lo hi : Int} (hl : h l = some (.lst [.ref t])) (ht : h t = some (.tup [.int lo, .int hi])) : PB h l [t] [(lo, hi)] := by
  refine ⟨hl, rfl, fun i h0 h1 => ?_⟩
  have e : i = 0 := by
    have h1' : i < 1 := h1
    omega
  rw [e]
  exact ht
theorem zl_snoc {sp : Prs} {p : Int × Int} {i : Int} (h0 : 0 ≤ i) (h : i < sp.length) : zl (sp ++ [p]) i = zl sp i := by unfold zl; rw [gd_snoc h0 h]
theorem zh_snoc {sp : Prs} {p : Int × Int} {i : Int} (h0 : 0 ≤ i) (h : i < sp.length) : zh (sp ++ [p]) i = zh sp i := by unfold zh; rw [gd_snoc h0 h]
theorem zl_last {sp : Prs} {p : Int × Int} {i : Int} (h : i = sp.length) : zl (sp ++ [p]) i = p.1 := by unfold zl; rw [gd_last h]
theorem zh_last {sp : Prs} {p : Int × Int} {i : Int} (h : i = sp.length) : zh (sp ++ [p]) i = p.2 := by unfold zh; rw [gd_last h]
theorem zl_take {sp : Prs} {i : Int} {n : Nat} (h0 : 0 ≤ i) (h : i < n) : zl (sp.take n) i = zl sp i := by unfold zl; rw [List.getD_eq_getElem?_getD, List.getD_eq_getElem?_getD, List.getElem?_take_of_lt (by omega)]
theorem zh_take {sp : Prs} {i : Int} {n : Nat} (h0 : 0 ≤ i) (h : i < n) : zh (sp.take n) i = zh sp i := by unfold zh; rw [List.getD_eq_getElem?_getD, List.getD_eq_getElem?_getD, List.getElem?_take_of_lt (by omega)]
theorem ga_take {ps : List Addr} {i : Int} {n : Nat} (h0 : 0 ≤ i) (h : i < n) : ga (ps.take n) i = ga ps i := by unfold ga; rw [List.getD_eq_getElem?_getD, List.getD_eq_getElem?_getD, List.getElem?_take_of_lt (by omega)]
/-- pairs[:e] -/
theorem r_slPE {K : PySem.W.Frag} {H : Hp} {Q : VK} {p : Addr} {ps : List Addr} {sp : Prs} {e : Nat} {y : Int} (hP : PrL K H p ps sp) (hy : y = (e : Int)) (h1 : e ≤ sp.length)
    (q : ∀ p2 H2, H p2 = none → Ex H H2 → PB H2 p2 (ps.take e) (sp.take e) → Q (.ref p2) H2) : rSlL K (.ref p) none (some y) H Q := by
  refine r_slL hP.1 fun p2 H2 n ex h => q p2 H2 n ex ⟨?_, ?_, fun i h0 hi => ?_⟩
  · have c : cutV (ps.map V.ref) none (some y) = (ps.take e).map V.ref := by
      unfold cutV
      rw [hy, List.length_map, HT.sIx_nat, Nat.min_eq_left (by rw [hP.2.1]; exact h1)]
      show ((ps.map V.ref).drop 0).take (e - 0) = _
      rw [List.drop_zero, Nat.sub_zero, List.map_take]
    rw [c] at h
    exact h
  · rw [List.length_take, List.length_take, hP.2.1]
  · rw [List.length_take] at hi
    rw [ga_take h0 (by omega), zl_take h0 (by omega), zh_take h0 (by omega)]
    exact ex _ _ (hP.2.2 i h0 (by omega))
/-- a part is shown apart, with what is known of it -/
theorem r_KP {te : TE} {σ : L2.St} {H : Hp} {Q : VK} (P : Int → Prop) (h1 : ∀ Q' : VK, (∀ i H1, P i → Ex H H1 → Q' (.int i) H1) → te σ H Q') (h2 : ∀ i H1, P i → Ex H H1 → Q (.int i) H1) : te σ H Q := h1 Q h2
/-! ### list(range(..)) -/
def rRg1 (Q : VK) (x : V) (H1 : Hp) : Prop := ∃ n : Int, x = .int n ∧ RgOk 0 n ∧ ∀ q, H1 q = none → Q (.ref q) (upd H1 q (.lst (rgV 0 n)))
theorem r_lRg1 {ta : TE} {σ : L2.St} {H : Hp} {Q : VK} (h : ta σ H fun x H1 => rRg1 Q x H1) : tLstRg (tRg1 ta) σ H Q := h
theorem rg_ints (n : Int) : rgV 0 n = ((List.range n.toNat).map fun i : Nat => (i : Int)).map V.int := by
  unfold rgV
  rw [List.map_map, Int.sub_zero]
  refine List.map_congr_left fun i _ => ?_
  show V.int (0 + (i : Int)) = V.int i
  rw [Int.zero_add]
theorem r_rRg1 {H : Hp} {Q : VK} {n : Int} (h0 : 0 ≤ n) (h1 : n ≤ 1000000) (k : ∀ p H2, H p = none → Ex H H2 → H2 p = some (.lst (((List.range n.toNat).map fun i : Nat => (i : Int)).map V.int)) → Q (.ref p) H2) : rRg1 Q (.int n) H :=
  ⟨n, rfl, RgOk.of_le (by decide) (by omega) (by decide) h0, fun q hq => k q _ hq (Ex.new hq) (by rw [← rg_ints]; exact upd_same)⟩
/-- a statement is shown apart from what follows it -/
theorem r_cut {t : TS} {D : Ends} {σ : L2.St} {H : Hp} (P : L2.St → Hp → Prop) (h1 : ∀ N : L2.St → Hp → Prop, (∀ s h, P s h → N s h) → t ⟨N, D.rt, D.bk, D.ct⟩ σ H) (h2 : ∀ s h, P s h → D.nx s h) : t D σ H := h1 D.nx h2
/-- x = e, x is .non or a list of ints -/
def NonL (F h : Hp) (v : V) (P : Prop) (L : List Int) : Prop := (v = .non ∧ P) ∨ ∃ l, v = .ref l ∧ F l = none ∧ h l = some (.lst (L.map V.int)) ∧ ¬ P
/-! ### a def with defaults, all its parameters written -/
theorem binds_d {K : PySem.W.Frag} {fd : FuncData} {ps : List Str} {T : Addr} {o : Obj} {its : List Value} {n : Nat} (lT : K.lookup T = some o) (oT : o.data = .seq its.toArray n)
    (h : ∀ us : List Value, us.length = ps.length → ∃ k, bindArgs fd ⟨us, []⟩ = seqItems? (.ref T) >>= k ∧ k (some its.toArray) = pure (ps.zip us)) : Binds K fd ps [] := fun s us X hl => by
  rw [List.append_nil] at hl ⊢
  obtain ⟨k, e1, e2⟩ := h us hl
  refine L2.BindsTo.of_looks fun M => ?_
  rw [e1]
  exact L2.looks_items X lT oT (.of_pure e2)
end Lay
local macro_rules | `(tactic| walk_at "hp") => `(tactic| first
  | assumption
  | (refine' Lay.ex_at (by assumption) ?a1; (case a1 => walk_at "hp"))
  | (refine' Lay.exb_at (by assumption) ?a1 ?a2; (case a1 => walk_at "ne"); (case a2 => walk_at "hp")))
local macro_rules | `(tactic| walk_at "hpe") => `(tactic| first
  | assumption
  | (refine' Lay.ex_at (by assumption) ?a1; (case a1 => walk_at "hpe")))
local macro_rules | `(tactic| walk_at "ne") => `(tactic| first
  | assumption
  | exact Ne.symm (by assumption)
  | (refine' L2.ne_of_none (H := ?hh) (o := ?oo) ?a1 ?a2; (case a2 => assumption); (case a1 => walk_at "hp"))
  | (refine' Ne.symm (L2.ne_of_none (H := ?hh) (o := ?oo) ?a1 ?a2); (case a2 => assumption); (case a1 => walk_at "hp"))
  | (refine' Lay.ne_pur (H := ?hh) ?a1 ?a2; (case a2 => assumption); (case a1 => walk_at "pu"))
  | (refine' Ne.symm (Lay.ne_pur (H := ?hh) ?a1 ?a2); (case a2 => assumption); (case a1 => walk_at "pu"))
  | (refine' L2.ne_of (H := ?hh) (o := ?oo) (u := ?uu) ?a1 ?a2 ?a3; (case a1 => assumption); (case a2 => assumption); (case a3 => (intro z; cases z))))
local macro_rules | `(tactic| walk_at "sq") => `(tactic| first
  | assumption
  | (refine' L2.SqL.of ?a1; (case a1 => walk_at "hp"))
  | (refine' Evl.ex_l (by assumption) ?a1; (case a1 => walk_at "sq"))
  | (refine' Lay.exb_l (by assumption) ?a1 ?a2; (case a1 => walk_at "ne"); (case a2 => walk_at "sq"))
  | (refine' Lay.exb_lI (by assumption) ?a1 ?a2; (case a1 => walk_at "hp"); (case a2 => walk_at "sq")))
local macro_rules | `(tactic| walk_at "ex") => `(tactic| first
  | assumption
  | exact Evl.Ex.refl _
  | exact Lay.ExB.refl _ _
  | exact Lay.Ex.b (by assumption)
  | (refine' Evl.Ex.trans ?a1 ?a2; (case a2 => assumption); (case a1 => walk_at "ex"))
  | (refine' Lay.ExB.ex ?a1 ?a2 ?a3; (case a2 => assumption); (case a1 => walk_at "ex"); (case a3 => walk_at "fr"))
  | (refine' Lay.ExB.trans ?a1 ?a2; (case a2 => assumption); (case a1 => walk_at "ex"))
  | (refine' Lay.ExB.trans ?a1 (Lay.Ex.b ?a2); (case a2 => assumption); (case a1 => walk_at "ex"))
  | (refine' Lay.ExB.exB ?a1 ?a2 ?a3; (case a2 => assumption); (case a1 => walk_at "ex"); (case a3 => walk_at "fr")))
local macro_rules | `(tactic| walk_at "fr") => `(tactic| first
  | assumption
  | (refine' Evl.fresh_back ?a1 ?a2; (case a2 => assumption); (case a1 => walk_at "ex"))
  | (refine' Lay.freshB ?a1 ?a2 ?a3; (case a3 => assumption); (case a1 => walk_at "ex"); (case a2 => walk_at "ne")))
local macro_rules | `(tactic| walk_at "pu") => `(tactic| first
  | assumption
  | (refine' Lay.Pur.ex ?a1 ?a2; (case a2 => assumption); (case a1 => walk_at "pu"))
  | (refine' Lay.Pur.upd ?a1 ?a2 ?a3; (case a2 => assumption); (case a1 => walk_at "pu"); (case a3 => walk_at "ne")))
local macro_rules | `(tactic| walk_at "ln") => `(tactic| first
  | omega
  | (simp only [List.length_append, List.length_map, List.length_cons, List.length_nil, List.length_replicate, List.length_set, List.length_reverse, List.length_take, List.length_drop]; omega))
local macro_rules | `(tactic| walk_at "st") => `(tactic| first
  | assumption
  | (refine' L2.SqT.of ?a1; (case a1 => walk_at "hp"))
  | (refine' Lay.ext ?a1 ?a2; (case a1 => assumption); (case a2 => walk_at "st"))
  | (refine' Lay.exb_t ?a1 ?a2 ?a3; (case a1 => assumption); (case a2 => walk_at "ne"); (case a3 => walk_at "st")))
local macro_rules | `(tactic| walk_at "go1") => `(tactic| first
  | with_reducible refine' Lay.r_seq ?_
  | with_reducible refine' Lay.r_set ?_
  | with_reducible refine' Lay.r_sub ?_
  | ((with_reducible refine' Lay.r_aug (x := ?vv) ?ee ?_); (case ee => exact rfl))
  | with_reducible refine' Lay.r_ipI ?_
  | with_reducible refine' Lay.r_drop ?_
  | with_reducible refine' Lay.r_ret ?_
  | with_reducible refine' Lay.r_retN ?_
  | with_reducible refine' Lay.r_if ?_
  | with_reducible refine' Lay.r_next ?_
  | with_reducible refine' Lay.r_brk ?_
  | with_reducible refine' Lay.r_cont ?_
  | ((with_reducible refine' Lay.r_var (v := ?vv) ?ee ?_); (case ee => exact rfl))
  | with_reducible refine' Lay.r_c ?_
  | with_reducible refine' Lay.r_op ?_
  | with_reducible refine' Lay.r_un ?_
  | with_reducible refine' Lay.r_I0 ?_
  | with_reducible refine' Lay.r_U ?_
  | with_reducible refine' Lay.r_eqI ?_
  | with_reducible refine' Lay.r_neI ?_
  | with_reducible refine' Lay.r_eqB ?_
  | with_reducible refine' Lay.r_neB ?_
  | with_reducible refine' Lay.r_eqS ?_
  | with_reducible refine' Lay.r_neS ?_
  | with_reducible refine' Lay.r_isN ?_
  | with_reducible refine' Lay.r_notN ?_
  | with_reducible refine' Lay.r_test ?_
  | with_reducible refine' Lay.r_tB ?_
  | with_reducible refine' Lay.r_bl ?_
  | with_reducible refine' Lay.r_and ?_
  | with_reducible refine' Lay.r_or ?_
  | with_reducible refine' Lay.r_not ?_
  | with_reducible refine' Lay.r_andV ?_
  | with_reducible refine' Lay.r_orV ?_
  | with_reducible refine' Lay.r_notV ?_
  | with_reducible refine' Lay.r_nil ?_
  | with_reducible refine' Lay.r_cons ?_
  | with_reducible refine' Lay.r_call ?_
  | with_reducible refine' Lay.r_cb ?_
  | with_reducible refine' Lay.r_lst ?_
  | with_reducible refine' Lay.r_tup ?_
  | with_reducible refine' Lay.r_augS ?_
  | with_reducible refine' Lay.r_for ?_
  | with_reducible refine' Lay.r_lc ?_
  | with_reducible refine' Lay.r_iList ?_
  | with_reducible refine' Lay.r_iTup ?_
  | with_reducible refine' Lay.r_iRng1 ?_
  | with_reducible refine' Lay.r_iRng2 ?_
  | with_reducible refine' Lay.r_iEnum ?_
  | with_reducible refine' Lay.r_raise ?_
  | with_reducible refine' Lay.r_sl ?_
  | with_reducible refine' Lay.r_noP ?_
  | with_reducible refine' Lay.r_part ?_
  | with_reducible refine' Lay.r_in ?_
  | with_reducible refine' Lay.r_int ?_
  | with_reducible refine' Lay.r_abs ?_
  | with_reducible refine' Lay.r_mx2 ?_
  | with_reducible refine' Lay.r_mn2 ?_
  | with_reducible refine' Lay.r_asg ?_
  | with_reducible refine' Lay.r_gCons ?_
  | with_reducible refine' Lay.r_gNil ?_
  | with_reducible refine' Lay.r_gName ?_
  | ((with_reducible refine' Lay.r_gTup (xs := ?vv) ?a1 ?a2 ?_); (case a1 => walk_at "st"); (case a2 => exact rfl))
  | ((with_reducible refine' Lay.r_gUnl (xs := ?vv) ?a1 ?a2 ?_); (case a1 => walk_at "sq"); (case a2 => exact rfl))
  | ((with_reducible refine' Lay.r_isTT (xs := ?vv) ?ee ?_); (case ee => walk_at "hp"))
  | ((with_reducible refine' Lay.r_isTL (xs := ?vv) ?ee ?_); (case ee => walk_at "hp"))
  | ((with_reducible refine' Lay.r_isLT (xs := ?vv) ?ee ?_); (case ee => walk_at "hp"))
  | with_reducible refine' Lay.r_fld ?_
  | ((with_reducible refine' Lay.r_rfld (C := ?cc) (dx := ?dd) (fs := ?ff) (x := ?xx) (ff := ?gg) (v := ?vv) ?a1 ?a2 ?a3 ?a4 ?_); (case a1 => walk_at "hp"); (case a2 => assumption); (case a3 => decide); (case a4 => exact rfl))
  | with_reducible refine' Lay.r_bmG ?_
  | ((with_reducible refine' Lay.r_bmR (xs := ?vv) ?a1 ?_); (case a1 => walk_at "sq"))
  | with_reducible refine' Lay.r_fst ?_
  | with_reducible refine' Lay.r_mth ?_
  | with_reducible refine' Lay.r_make ?_
  | with_reducible refine' Lay.r_par ?_
  | with_reducible refine' Lay.r_rpar ?_
  | with_reducible refine' Lay.r_isII ?_
  | with_reducible refine' Lay.r_isIB ?_
  | ((with_reducible refine' Lay.r_isLL (xs := ?vv) ?ee ?_); (case ee => walk_at "hp"))
  | ((with_reducible refine' Lay.r_I ?_ ?_); first | exact (by decide) | exact (.inl (by omega)) | exact (.inr (by omega)) | exact (by omega) | exact (And.intro (by omega) (by omega)))
  | ((with_reducible refine' Lay.r_lenP (ps := ?vv) (sp := ?ww) ?a1 ?_); (case a1 => assumption))
  | ((with_reducible refine' Lay.r_ixP (ps := ?vv) (sp := ?ww) ?a1 ?a2 ?a3 ?_); (case a1 => assumption); (case a2 => omega); (case a3 => omega); (intro _))
  | ((with_reducible refine' Lay.r_lenI (ns := ?vv) ?ee ?_); (case ee => walk_at "sq"))
  | ((with_reducible refine' Lay.r_ix0 (v := ?vv) ?a1 ?_); (case a1 => walk_at "sq"))
  | ((with_reducible refine' Lay.r_ix1 (v := ?vv) ?a1 ?_); (case a1 => walk_at "sq"))
  | ((with_reducible refine' Lay.r_ix2 (v := ?vv) ?a1 ?_); (case a1 => walk_at "sq"))
  | ((with_reducible refine' Lay.r_ixI (ns := ?vv) ?a1 ?a2 ?a3 ?_); (case a1 => walk_at "sq"); (case a2 => omega); (case a3 => omega))
  | ((with_reducible refine' Lay.r_ixT0 (v := ?vv) ?a1 ?_); (case a1 => walk_at "st"))
  | ((with_reducible refine' Lay.r_ixT1 (v := ?vv) ?a1 ?_); (case a1 => walk_at "st"))
  | ((with_reducible refine' Lay.r_ixT2 (v := ?vv) ?a1 ?_); (case a1 => walk_at "st"))
  | ((with_reducible refine' Lay.r_strI ?a1 ?a2 ?_); (case a1 => omega); (case a2 => omega))
  | with_reducible refine' Lay.r_chain ?_
  | with_reducible refine' Lay.r_iteC ?_
  | with_reducible refine' Lay.r_tIfI ?_
  | with_reducible refine' Lay.r_nT ?_
  | with_reducible refine' Lay.r_nF ?_
  | with_reducible refine L2.iteT ?_
  | with_reducible refine L2.iteF ?_)
local macro_rules | `(tactic| walk_at "go") => `(tactic| repeat (walk_at "go1"))
local macro_rules | `(tactic| walk_at "go0") => `(tactic| ((try dsimp only [L2.cxOf]); walk_at "go"))
local macro_rules | `(tactic| walk_at "gn1") => `(tactic| first
  | walk_at "go1"
  | ((with_reducible refine' Lay.r_newI0 ?_); (intro _ _ _ _ _))
  | ((with_reducible refine' Lay.r_newI1 ?_); (intro _ _ _ _ _))
  | ((with_reducible refine' Lay.r_newI2 ?_); (intro _ _ _ _ _))
  | ((with_reducible refine' Lay.r_newI3 ?_); (intro _ _ _ _ _))
  | ((with_reducible refine' Lay.r_newI4 ?_); (intro _ _ _ _ _))
  | ((with_reducible refine' Lay.r_newL (Lay.len3 rfl) ?_); (intro _ _ _ _ _))
  | ((with_reducible refine' Lay.r_newT (Lay.len3 rfl) ?_); (intro _ _ _ _ _))
  | ((with_reducible refine' Lay.r_listI (ns := ?vv) ?a1 ?_); (case a1 => walk_at "sq"); (intro _ _ _ _ _))
  | ((with_reducible refine' Lay.r_catI (ns := ?vv) (ms := ?ww) ?a1 ?a2 ?a3 ?_); (case a1 => walk_at "hp"); (case a2 => walk_at "hp"); (case a3 => walk_at "ln"); (intro _ _ _ _ _)))
local macro_rules | `(tactic| walk_at "gn") => `(tactic| repeat (walk_at "gn1"))
local macro_rules | `(tactic| walk_at "gn0") => `(tactic| ((try dsimp only [L2.cxOf]); walk_at "gn"))
/-! tables and rulers -/
namespace WK
open Lay
abbrev Sp := Prs
def Ok (sp : Sp) : Prop := ∀ i : Int, 0 ≤ i → i < sp.length → 0 ≤ zl sp i ∧ zl sp i ≤ zh sp i
theorem Ok.nil : Ok [] := fun i a b => absurd b (by show ¬ i < 0; omega)
theorem Ok.snoc {sp : Sp} {lo hi : Int} (h : Ok sp) (h0 : 0 ≤ lo) (h1 : lo ≤ hi) : Ok (sp ++ [(lo, hi)]) := fun i a b => by
  rw [List.length_append] at b
  change i < ((sp.length + 1 : Nat) : Int) at b
  by_cases c : i < sp.length
  · rw [zl_snoc a c, zh_snoc a c]
    exact h i a c
  · rw [zl_last (by omega), zh_last (by omega)]
    exact ⟨h0, h1⟩
/-- no end is greater -/
def HiB (sp : Sp) (B : Int) : Prop := ∀ i : Int, 0 ≤ i → i < sp.length → zh sp i ≤ B
theorem HiB.nil {B : Int} : HiB [] B := fun i a b => absurd b (by show ¬ i < 0; omega)
theorem HiB.snoc {sp : Sp} {lo hi B B2 : Int} (h : HiB sp B) (h1 : hi ≤ B2) (h2 : B ≤ B2) : HiB (sp ++ [(lo, hi)]) B2 := fun i a b => by
  rw [List.length_append] at b
  change i < ((sp.length + 1 : Nat) : Int) at b
  by_cases c : i < sp.length
  · rw [zh_snoc a c]
    exact Int.le_trans (h i a c) h2
  · rw [zh_last (by omega)]
    exact h1
def spw (sp : Sp) (f : Int) : Sp := sp.map fun p => (p.1 * f, p.2 * f)
theorem spw_len {sp : Sp} {f : Int} : (spw sp f).length = sp.length := by unfold spw; rw [List.length_map]
theorem spw_l {sp : Sp} {f : Int} {i : Int} (h0 : 0 ≤ i) (h1 : i < sp.length) : zl (spw sp f) i = zl sp i * f := by
  unfold zl spw
  rw [List.getD_eq_getElem?_getD, List.getD_eq_getElem?_getD, List.getElem?_map, List.getElem?_eq_getElem (by omega)]
  rfl
theorem spw_h {sp : Sp} {f : Int} {i : Int} (h0 : 0 ≤ i) (h1 : i < sp.length) : zh (spw sp f) i = zh sp i * f := by
  unfold zh spw
  rw [List.getD_eq_getElem?_getD, List.getD_eq_getElem?_getD, List.getElem?_map, List.getElem?_eq_getElem (by omega)]
  rfl
theorem spw_take {sp : Sp} {f : Int} {i : Nat} (h : i < sp.length) : spw (sp.take i) f ++ [(zl sp i * f, zh sp i * f)] = spw (sp.take (i + 1)) f := by
  unfold spw
  rw [List.take_succ_eq_append_getElem h, List.map_append]
  congr 1
  unfold zl zh
  rw [Int.toNat_natCast, List.getD_eq_getElem?_getD, List.getElem?_eq_getElem h]
  rfl
def fallP (sp : Sp) : Prop := ∃ p q : Int, 0 ≤ p ∧ p < q ∧ q < sp.length ∧ zh sp q < zl sp p
def leapP (sp : Sp) : Prop := ∃ i : Int, 1 ≤ i ∧ i < sp.length ∧ (zh sp (i - 1) < zl sp i ∨ zh sp i < zl sp (i - 1))
/-- running maxima -/
def top (sp : Sp) : Nat → Int
  | 0 => zl sp 0
  | i + 1 => mx (top sp i) (zl sp ((i + 1 : Nat) : Int))
def heldL (sp : Sp) : List Int := (List.range sp.length).map (top sp)
def evL (sp : Sp) : List Int := (List.range (sp.length - 1)).map fun i : Nat => mx (zl sp i) (zl sp ((i + 1 : Nat) : Int))
def lows (sp : Sp) : List Int := sp.map (·.1)
theorem lows_take {sp : Sp} : ∀ i : Nat, i < sp.length → mxl ((lows sp).take (i + 1)) = top sp i := by
  intro i
  induction i with
  | zero =>
    intro h
    cases sp with
    | nil => exact absurd h (Nat.not_lt_zero _)
    | cons a sp => rfl
  | succ i ih =>
    intro h
    have hi' : i + 1 < (lows sp).length := by unfold lows; rw [List.length_map]; exact h
    rw [List.take_succ_eq_append_getElem hi']
    have e : (lows sp)[i + 1] = zl sp ((i + 1 : Nat) : Int) := by
      have a : (lows sp)[i + 1] = (sp[i + 1]).1 := List.getElem_map _
      rw [a]
      unfold zl
      rw [Int.toNat_natCast, List.getD_eq_getElem?_getD, List.getElem?_eq_getElem h]
      rfl
    have ih := ih (by omega)
    have ne : (lows sp).take (i + 1) ≠ [] := fun z => by
      have := congrArg List.length z
      rw [List.length_take] at this
      change min (i + 1) (lows sp).length = 0 at this
      omega
    cases hx : (lows sp).take (i + 1) with
    | nil => exact absurd hx ne
    | cons z zs =>
      rw [hx] at ih
      rw [e]
      show (zs ++ [zl sp ((i + 1 : Nat) : Int)]).foldl (fun a b => if b > a then b else a) z = _
      rw [List.foldl_append]
      change zs.foldl (fun a b => if b > a then b else a) z = top sp i at ih
      rw [ih]
      rfl
theorem evL_at {sp : Sp} {i : Int} (h0 : 0 ≤ i) (h1 : i < sp.length - 1) : gi (evL sp) i = mx (zl sp i) (zl sp (i + 1)) := by
  obtain ⟨n, rfl⟩ : ∃ n : Nat, i = n := ⟨i.toNat, by omega⟩
  unfold gi evL
  rw [Int.toNat_natCast, List.getD_eq_getElem?_getD, List.getElem?_map, List.getElem?_range (by omega)]
  rfl
theorem evL_len (sp : Sp) : (evL sp).length = sp.length - 1 := by unfold evL; rw [List.length_map, List.length_range]
/-! rulers -/
def ed (hs : List Int) (i : Nat) : Int := (hs.take (i + 1)).sum
def edges (hs : List Int) : List Int := (List.range hs.length).map (ed hs)
def HOk (hs : List Int) : Prop := ∀ z ∈ hs, 1 ≤ z
theorem ed_succ {hs : List Int} {i : Nat} (h : i + 1 < hs.length) : ed hs (i + 1) = ed hs i + hs[i + 1] := by
  unfold ed
  rw [List.take_succ_eq_append_getElem h, List.sum_append]
  simp
theorem ed_lt {hs : List Int} (ho : HOk hs) {i j : Nat} (h : i < j) (hj : j < hs.length) : ed hs i < ed hs j := by
  obtain ⟨k, rfl⟩ : ∃ k, j = i + 1 + k := ⟨j - i - 1, by omega⟩
  induction k with
  | zero =>
    rw [Nat.add_zero, ed_succ (by omega)]
    have := ho hs[i + 1] (List.getElem_mem _)
    omega
  | succ k ih =>
    have a := ih (by omega) (by omega)
    rw [show i + 1 + (k + 1) = i + 1 + k + 1 by omega, ed_succ (by omega)]
    have := ho hs[i + 1 + k + 1] (List.getElem_mem _)
    omega
/-- how many edges lie at or before the line -/
def cnt (hs : List Int) (line : Int) : Nat → Nat
  | 0 => 0
  | i + 1 => cnt hs line i + (if ed hs i ≤ line then 1 else 0)
theorem cnt_split {hs : List Int} {line : Int} {c : Nat} (h1 : ∀ i, i < c → ed hs i ≤ line) : ∀ n, c ≤ n → (∀ i, c ≤ i → i < n → line < ed hs i) → cnt hs line n = c := by
  have base : ∀ k, k ≤ c → cnt hs line k = k := by
    intro k
    induction k with
    | zero => intro _; rfl
    | succ k ih =>
      intro hk
      rw [cnt, ih (by omega), if_pos (h1 k (by omega))]
  intro n hn h2
  obtain ⟨k, rfl⟩ : ∃ k, n = c + k := ⟨n - c, by omega⟩
  induction k with
  | zero => exact base c (Nat.le_refl _)
  | succ k ih =>
    have := h2 (c + k) (by omega) (by omega)
    rw [show c + (k + 1) = c + k + 1 by omega, cnt, ih (by omega) (fun i a b => h2 i a (by omega)), if_neg (by omega), Nat.add_zero]
theorem cnt_ex {hs : List Int} (ho : HOk hs) (line : Int) : ∀ n, n ≤ hs.length → ∃ c, c ≤ n ∧ (∀ i, i < c → ed hs i ≤ line) ∧ ∀ i, c ≤ i → i < n → line < ed hs i := by
  intro n
  induction n with
  | zero => exact fun _ => ⟨0, Nat.le_refl _, fun i h => absurd h (Nat.not_lt_zero _), fun i _ h => absurd h (Nat.not_lt_zero _)⟩
  | succ n ih =>
    intro hn
    obtain ⟨c, h1, h2, h3⟩ := ih (by omega)
    by_cases e : c = n
    · by_cases g : ed hs n ≤ line
      · refine ⟨n + 1, Nat.le_refl _, fun i hi => ?_, fun i a b => absurd a (by omega)⟩
        by_cases z : i = n
        · rw [z]; exact g
        · exact h2 i (by omega)
      · refine ⟨n, by omega, fun i hi => h2 i (by omega), fun i a b => ?_⟩
        rw [show i = n by omega]
        omega
    · refine ⟨c, by omega, h2, fun i a b => ?_⟩
      by_cases z : i = n
      · rw [z]
        have := ed_lt ho (i := c) (j := n) (by omega) (by omega)
        have := h3 c (Nat.le_refl _) (by omega)
        omega
      · exact h3 i a (by omega)
theorem cnt_spec {hs : List Int} (ho : HOk hs) (line : Int) : cnt hs line hs.length ≤ hs.length ∧ (∀ i, i < cnt hs line hs.length → ed hs i ≤ line) ∧ ∀ i, cnt hs line hs.length ≤ i → i < hs.length → line < ed hs i := by
  obtain ⟨c, h1, h2, h3⟩ := cnt_ex ho line hs.length (Nat.le_refl _)
  rw [cnt_split h2 _ h1 h3]
  exact ⟨h1, h2, h3⟩
/-! lines between edges -/
def lp (sp : Sp) : Bool → Int → Int
  | true, j => zl sp j - zh sp (j - 1)
  | false, j => zl sp (j - 1) - zh sp j
theorem leap_lp {sp : Sp} : leapP sp ↔ ∃ (b : Bool) (j : Int), 1 ≤ j ∧ j < sp.length ∧ 0 < lp sp b j := by
  constructor
  · rintro ⟨i, h1, h2, h | h⟩
    · exact ⟨true, i, h1, h2, by show 0 < _ - _; omega⟩
    · exact ⟨false, i, h1, h2, by show 0 < _ - _; omega⟩
  · rintro ⟨b, j, h1, h2, h⟩
    refine ⟨j, h1, h2, ?_⟩
    cases b
    · change 0 < _ - _ at h; exact .inr (by omega)
    · change 0 < _ - _ at h; exact .inl (by omega)
def eL (sp : Sp) (i : Int) : Int := mx (zl sp i) (zl sp (i + 1))
/-- what is due at a line -/
def due (sp : Sp) (hs : List Int) (line : Int) : Int × Int :=
  if hs.length = 0 then (zl sp 0, 1)
  else if cnt hs line hs.length = 0 then (eL sp 0, 1)
  else if cnt hs line hs.length = hs.length then (eL sp (hs.length - 1), 1)
  else (eL sp (cnt hs line hs.length - 1) * (gi hs (cnt hs line hs.length) - (line - (hs.take (cnt hs line hs.length)).sum)) + eL sp (cnt hs line hs.length) * (line - (hs.take (cnt hs line hs.length)).sum), gi hs (cnt hs line hs.length))
structure ValOk (sp : Sp) (hs : List Int) (line a b : Int) : Prop where
  b1 : 1 ≤ b
  a0 : 0 ≤ a
  b2 : b ≤ 1000000000
  g : Nat.gcd a.toNat b.toNat = 1
  q : a * (due sp hs line).2 = (due sp hs line).1 * b
  lo : zl sp (cnt hs line hs.length) * b ≤ a
  hi : a ≤ zh sp (cnt hs line hs.length) * b
theorem eL_in {sp : Sp} (ho : Ok sp) (hn : ¬ leapP sp) {i : Int} (h0 : 0 ≤ i) (h1 : i + 1 < sp.length) : zl sp i ≤ eL sp i ∧ eL sp i ≤ zh sp i ∧ zl sp (i + 1) ≤ eL sp i ∧ eL sp i ≤ zh sp (i + 1) := by
  have a := ho i h0 (by omega)
  have b := ho (i + 1) (by omega) h1
  have c : ¬ (zh sp i < zl sp (i + 1)) := fun z => hn ⟨i + 1, by omega, h1, .inl (by rw [show i + 1 - 1 = i by omega]; exact z)⟩
  have d : ¬ (zh sp (i + 1) < zl sp i) := fun z => hn ⟨i + 1, by omega, h1, .inr (by rw [show i + 1 - 1 = i by omega]; exact z)⟩
  unfold eL mx
  split <;> omega
theorem val_one {sp : Sp} {hs : List Int} {line v : Int} (h0 : 0 ≤ v) (hd : due sp hs line = (v, 1)) (h1 : zl sp (cnt hs line hs.length) ≤ v) (h2 : v ≤ zh sp (cnt hs line hs.length)) : ValOk sp hs line v 1 := by
  refine ⟨by decide, h0, by decide, ?_, ?_, by omega, by omega⟩
  · exact Nat.gcd_one_right _
  · rw [hd]
/-- a / b in lowest terms -/
theorem val_low {sp : Sp} {hs : List Int} {line A L : Int} (hA : 0 ≤ A) (hL : 1 ≤ L) (hL2 : L ≤ 1000000000) (hd : due sp hs line = (A, L)) (h1 : zl sp (cnt hs line hs.length) * L ≤ A) (h2 : A ≤ zh sp (cnt hs line hs.length) * L) :
    ValOk sp hs line (A / (Nat.gcd A.toNat L.toNat : Nat)) (L / (Nat.gcd A.toNat L.toNat : Nat)) := by
  obtain ⟨n, rfl⟩ : ∃ n : Nat, A = n := ⟨A.toNat, by omega⟩
  obtain ⟨m, rfl⟩ : ∃ m : Nat, L = m := ⟨L.toNat, by omega⟩
  rw [Int.toNat_natCast, Int.toNat_natCast]
  have gp : 0 < Nat.gcd n m := Nat.gcd_pos_of_pos_right _ (by omega)
  obtain ⟨u, hu⟩ := Nat.gcd_dvd_left n m
  obtain ⟨v, hv⟩ := Nat.gcd_dvd_right n m
  have cop : Nat.gcd (n / Nat.gcd n m) (m / Nat.gcd n m) = 1 := by rw [Nat.gcd_div (Nat.gcd_dvd_left n m) (Nat.gcd_dvd_right n m), Nat.div_self gp]
  generalize hg : Nat.gcd n m = g at *
  have du : n / g = u := by rw [hu]; exact Nat.mul_div_cancel_left _ gp
  have dv : m / g = v := by rw [hv]; exact Nat.mul_div_cancel_left _ gp
  have e1 : (n : Int) / (g : Int) = (u : Int) := by rw [← Int.natCast_ediv, du]
  have e2 : (m : Int) / (g : Int) = (v : Int) := by rw [← Int.natCast_ediv, dv]
  rw [du, dv] at cop
  rw [e1, e2]
  have g1 : (1 : Int) ≤ g := by omega
  have hn : (n : Int) = g * u := by rw [← Int.natCast_mul, ← hu]
  have hm : (m : Int) = g * v := by rw [← Int.natCast_mul, ← hv]
  have vp : 1 ≤ v := by
    cases v with
    | zero => rw [Nat.mul_zero] at hv; omega
    | succ v => omega
  have gpos : (0 : Int) < g := by omega
  refine ⟨by omega, by omega, ?_, ?_, ?_, ?_, ?_⟩
  · have : v ≤ m := by rw [← dv]; exact Nat.div_le_self _ _
    omega
  · rw [Int.toNat_natCast, Int.toNat_natCast]
    exact cop
  · rw [hd]
    show (u : Int) * (m : Int) = (n : Int) * (v : Int)
    rw [hn, hm, Int.mul_left_comm, Int.mul_assoc]
  · refine Int.le_of_mul_le_mul_left (a := g) ?_ gpos
    rw [← hn, Int.mul_left_comm, ← hm]
    exact h1
  · refine Int.le_of_mul_le_mul_left (a := g) ?_ gpos
    rw [← hn, Int.mul_left_comm, ← hm]
    exact h2
/-- between two numbers -/
theorem between {a b h lo hi p : Int} (h0 : 0 ≤ p) (h1 : p ≤ h) (a1 : lo ≤ a) (b1 : lo ≤ b) (a2 : a ≤ hi) (b2 : b ≤ hi) : lo * h ≤ a * (h - p) + b * p ∧ a * (h - p) + b * p ≤ hi * h := by
  have e1 : lo * h = lo * (h - p) + lo * p := by rw [← Int.mul_add, show h - p + p = h by omega]
  have e2 : hi * h = hi * (h - p) + hi * p := by rw [← Int.mul_add, show h - p + p = h by omega]
  have c1 : lo * (h - p) ≤ a * (h - p) := Int.mul_le_mul_of_nonneg_right a1 (by omega)
  have c2 : lo * p ≤ b * p := Int.mul_le_mul_of_nonneg_right b1 h0
  have c3 : a * (h - p) ≤ hi * (h - p) := Int.mul_le_mul_of_nonneg_right a2 (by omega)
  have c4 : b * p ≤ hi * p := Int.mul_le_mul_of_nonneg_right b2 h0
  omega
theorem lin {a b h p : Int} : a * h + (b - a) * p = a * (h - p) + b * p := by
  rw [Int.sub_mul, Int.mul_sub]
  omega
/-! Euclid -/
def est (s : Nat × Nat) : Nat × Nat := if s.2 = 0 then s else (s.2, s.1 % s.2)
def eit (s : Nat × Nat) : Nat → Nat × Nat
  | 0 => s
  | n + 1 => est (eit s n)
theorem est_gcd (s : Nat × Nat) : Nat.gcd (est s).1 (est s).2 = Nat.gcd s.1 s.2 := by
  unfold est
  split
  · rfl
  · show Nat.gcd s.2 (s.1 % s.2) = _
    rw [Nat.gcd_comm, ← Nat.gcd_rec, Nat.gcd_comm]
theorem eit_gcd (s : Nat × Nat) : ∀ n, Nat.gcd (eit s n).1 (eit s n).2 = Nat.gcd s.1 s.2
  | 0 => rfl
  | n + 1 => (est_gcd _).trans (eit_gcd s n)
theorem est_half (s : Nat × Nat) : 2 * (est (est s)).2 ≤ s.2 := by
  unfold est
  by_cases h : s.2 = 0
  · rw [if_pos h, if_pos h, h]
    exact Nat.le_refl _
  · rw [if_neg h]
    by_cases h2 : s.1 % s.2 = 0
    · rw [if_pos h2]
      show 2 * (s.1 % s.2) ≤ s.2
      omega
    · rw [if_neg h2]
      show 2 * (s.2 % (s.1 % s.2)) ≤ s.2
      have a : s.1 % s.2 < s.2 := Nat.mod_lt _ (by omega)
      have b : s.2 % (s.1 % s.2) < s.1 % s.2 := Nat.mod_lt _ (by omega)
      have c := Nat.div_add_mod s.2 (s.1 % s.2)
      have d : 1 ≤ s.2 / (s.1 % s.2) := Nat.div_pos (by omega) (by omega)
      have e : (s.1 % s.2) * 1 ≤ (s.1 % s.2) * (s.2 / (s.1 % s.2)) := Nat.mul_le_mul_left _ d
      omega
theorem eit_small (s : Nat × Nat) : ∀ k, s.2 < 2 ^ k → (eit s (2 * k)).2 = 0 := by
  have key : ∀ k, 2 ^ k * (eit s (2 * k)).2 ≤ s.2 := by
    intro k
    induction k with
    | zero => rw [Nat.pow_zero, Nat.one_mul]; exact Nat.le_refl _
    | succ k ih =>
      have h := est_half (eit s (2 * k))
      show 2 ^ (k + 1) * (est (est (eit s (2 * k)))).2 ≤ s.2
      have e : 2 ^ (k + 1) * (est (est (eit s (2 * k)))).2 = 2 ^ k * (2 * (est (est (eit s (2 * k)))).2) := by rw [Nat.pow_succ, Nat.mul_assoc]
      rw [e]
      exact Nat.le_trans (Nat.mul_le_mul_left _ h) ih
  intro k h
  have a := key k
  cases hz : (eit s (2 * k)).2 with
  | zero => rfl
  | succ z =>
    rw [hz] at a
    have : 2 ^ k * 1 ≤ 2 ^ k * (z + 1) := Nat.mul_le_mul_left _ (by omega)
    omega
end WK
namespace K16
open PySem PySem.Spec PyProof.Rows L2 Evl Lay
section
variable {P : Program} {w : World} {K : PySem.W.Frag} {mg : Str → Option Value} {base : Heap} {CRuler CTable CBlock : Addr} {tkC tkH tkL : Tok}
def top (i : Nat) : Stmt := PySem.Challenge.pw_comestrue_k16_lines_that_hold_and_even_l.main.body.getD i (.Pass ⟨0, 0, 0, 0⟩)
structure Txt (K : PySem.W.Frag) (mg : Str → Option Value) (tkC tkH tkL : Tok) : Prop where
  n_abs : mg "abs" = none
  n_bool : mg "bool" = none
  n_enumerate : mg "enumerate" = none
  n_int : mg "int" = none
  n_isinstance : mg "isinstance" = none
  n_len : mg "len" = none
  n_list : mg "list" = none
  n_max : mg "max" = none
  n_range : mg "range" = none
  n_sum : mg "sum" = none
  n_tuple : mg "tuple" = none
  g_CELLS : mg "CELLS" = some (.int 64 tkC)
  g_HEIGHTS : mg "HEIGHTS" = some (.int 1000000000 tkH)
  g_LINES : mg "LINES" = some (.int 1000000 tkL)
end
end K16
namespace K16
open PySem PySem.Spec PyProof.Rows L2 Evl Lay
section
variable {P : Program} {w : World} {K : PySem.W.Frag} {mg : Str → Option Value} {base : Heap} {CRuler CTable CBlock : Addr} {tkC tkH tkL : Tok}
def spIsWhole : Sp := fun vs H Q _ => ∃ i : Int, vs = [.int i] ∧ Q (.bl true) H
abbrev s_is_whole : Stmt := top 2
theorem sc_is_whole : FnScope ["value"] ["value"] (defScope s_is_whole) := ⟨rfl, rfl, rfl, by decide +kernel, rfl, by decide +kernel, by decide +kernel⟩
theorem ok_is_whole (T : Txt K mg tkC tkH tkL ) (F : At K mg "is_whole" s_is_whole ["value"]) : Def P w K mg base "is_whole" 1 ["value"] spIsWhole := by
  refine Def.mk' F sc_is_whole (fun vs H Q E h => ?_) (fun f cdv Ar outer s H vs Q E hr h => ⟨_, (pss_one (ps_ret (pe_and (pe_callB (r := rIsi K) call_isi rfl T.n_isinstance (by decide +kernel) (pa_cons (pv 0) (pa_cons (pe_bltn (v := .ty "int") (u := .type "int") rfl T.n_int (by decide +kernel) rfl) pa_nil))) (pe_one (pe_not (pe_callB (r := rIsi K) call_isi rfl T.n_isinstance (by decide +kernel) (pa_cons (pv 0) (pa_cons (pe_bltn (v := .ty "bool") (u := .type "bool") rfl T.n_bool (by decide +kernel) rfl) pa_nil)))))))), ?_⟩)
  · obtain ⟨i, rfl, _⟩ := h
    rfl
  · obtain ⟨i, rfl, q⟩ := h
    walk_at "go0"
    exact q
end
end K16
namespace K16
open PySem PySem.Spec PyProof.Rows L2 Evl Lay
section
variable {P : Program} {w : World} {K : PySem.W.Frag} {mg : Str → Option Value} {base : Heap} {CRuler CTable CBlock : Addr} {tkC tkH tkL : Tok}
/-! ### bounds that hold -/
def spMost0 : Sp := fun vs H Q _ => ∃ (s : Str) (n m : Int), vs = [.str s, .int n, .int m] ∧ n ≤ m ∧ Q .non H
abbrev s_check_most : Stmt := top 12
theorem sc_check_most : FnScope ["what", "many", "most"] ["what", "many", "most"] (defScope s_check_most) := ⟨rfl, rfl, rfl, by decide +kernel, rfl, by decide +kernel, by decide +kernel⟩
theorem ok_check_most (T : Txt K mg tkC tkH tkL ) (F : At K mg "check_most" s_check_most ["what", "many", "most"]) (d_is_whole : Def P w K mg base "is_whole" 1 ["value"] spIsWhole) :
    Def P w K mg base "check_most" 2 ["what", "many", "most"] spMost0 := by
  refine Def.mk' F sc_check_most (fun vs H Q E h => ?_) (fun f cdv Ar outer s H vs Q E hr h => ⟨_, (pss_one (ps_if (PW.pt (pw_and (pt_val (pe_d d_is_whole (hr.mono (by decide)) (passes_call (takes_of rfl rfl rfl rfl) (fun _ _ _ _ h => h)) (pa_cons (pv 1) pa_nil))) (pw_and1 (pt_cmpR op_gt (pv 1) (pv 2) (nomark _))))) (pss_one ps_dead) pss_nil)), ?_⟩)
  · obtain ⟨s, n, m, rfl, _⟩ := h
    rfl
  · obtain ⟨s, n, m, rfl, hs, q⟩ := h
    walk_at "go0"
    refine ⟨n, rfl, ?_⟩
    walk_at "go"
    refine r_no (by omega) ?_
    walk_at "go"
    exact q
def spNums0 (K : PySem.W.Frag) : Sp := fun vs H Q _ => ∃ (s : Str) (a : Addr) (ns : List Int) (m : Int), vs = [.str s, .ref a, .int m] ∧ SqL K H a (ns.map V.int) ∧ (∀ z ∈ ns, z ≤ m) ∧ Q .non H
abbrev s_check_numbers : Stmt := top 13
theorem sc_check_numbers : FnScope ["what", "numbers", "most", "number"] ["what", "numbers", "most"] (defScope s_check_numbers) := ⟨rfl, rfl, rfl, by decide +kernel, rfl, by decide +kernel, by decide +kernel⟩
theorem ok_check_numbers (T : Txt K mg tkC tkH tkL ) (F : At K mg "check_numbers" s_check_numbers ["what", "numbers", "most"]) (d_check_most : Def P w K mg base "check_most" 2 ["what", "many", "most"] spMost0) :
    Def P w K mg base "check_numbers" 3 ["what", "numbers", "most"] (spNums0 K) := by
  refine Def.mk' F sc_check_numbers (fun vs H Q E h => ?_) (fun f cdv Ar outer s H vs Q E hr h => ⟨_, (pss_one (ps_for (passes_of rfl) rfl (pi_list (pv 1)) (pg_name (i := 3) sc_check_numbers.nd rfl (Or.inl rfl)) (pss_one (ps_expr (pe_d d_check_most (hr.mono (by decide)) (passes_call (takes_of rfl rfl rfl rfl) (fun _ _ _ _ h => h)) (pa_cons (pv 0) (pa_cons (pv 3) (pa_cons (pv 2) pa_nil)))))))), ?_⟩)
  · obtain ⟨s, a, ns, m, rfl, _⟩ := h
    rfl
  · obtain ⟨s, a, ns, m, rfl, ha, hm, q⟩ := h
    walk_at "go0"
    refine forI ha (fun i σ' H' => (∃ v, σ' = [some (.str s), some (.ref a), some (.int m), v]) ∧ H' = H) ⟨⟨_, rfl⟩, rfl⟩ ?_ ?_ ?_
    · rintro i σ' H' _ ⟨_, rfl⟩
      exact ha
    · rintro i z σ' H' hz ⟨⟨v, rfl⟩, rfl⟩
      walk_at "go"
      refine ⟨s, z, m, rfl, hm z (List.mem_of_getElem? hz), ?_⟩
      walk_at "go"
      exact ⟨⟨_, rfl⟩, rfl⟩
    · rintro σ' H' ⟨⟨v, rfl⟩, rfl⟩
      walk_at "go"
      exact q
end
end K16
namespace K16
open PySem PySem.Spec PyProof.Rows L2 Evl Lay
section
variable {P : Program} {w : World} {K : PySem.W.Frag} {mg : Str → Option Value} {base : Heap} {CRuler CTable CBlock : Addr} {tkC tkH tkL : Tok}
def spNumsT (K : PySem.W.Frag) : Sp := fun vs H Q _ => ∃ (s : Str) (a : Addr) (ns : List Int) (m : Int), vs = [.str s, .ref a, .int m] ∧ SqT K H a (ns.map V.int) ∧ (∀ z ∈ ns, z ≤ m) ∧ Q .non H
theorem ok_check_numbersT (T : Txt K mg tkC tkH tkL ) (F : At K mg "check_numbers" s_check_numbers ["what", "numbers", "most"]) (d_check_most : Def P w K mg base "check_most" 2 ["what", "many", "most"] spMost0) :
    Def P w K mg base "check_numbers" 3 ["what", "numbers", "most"] (spNumsT K) := by
  refine Def.mk' F sc_check_numbers (fun vs H Q E h => ?_) (fun f cdv Ar outer s H vs Q E hr h => ⟨_, (pss_one (ps_for (passes_of rfl) rfl (pi_tup (pv 1)) (pg_name (i := 3) sc_check_numbers.nd rfl (Or.inl rfl)) (pss_one (ps_expr (pe_d d_check_most (hr.mono (by decide)) (passes_call (takes_of rfl rfl rfl rfl) (fun _ _ _ _ h => h)) (pa_cons (pv 0) (pa_cons (pv 3) (pa_cons (pv 2) pa_nil)))))))), ?_⟩)
  · obtain ⟨s, a, ns, m, rfl, _⟩ := h
    rfl
  · obtain ⟨s, a, ns, m, rfl, ha, hm, q⟩ := h
    walk_at "go0"
    refine forT ha (fun i σ' H' => (∃ v, σ' = [some (.str s), some (.ref a), some (.int m), v]) ∧ H' = H) ⟨⟨_, rfl⟩, rfl⟩ ?_ ?_ ?_
    · rintro i σ' H' _ ⟨_, rfl⟩
      exact ha
    · rintro i z σ' H' hz ⟨⟨v, rfl⟩, rfl⟩
      obtain ⟨hi, rfl⟩ := int_at hz
      walk_at "go"
      refine ⟨s, _, m, rfl, hm _ (List.getElem_mem hi), ?_⟩
      walk_at "go"
      exact ⟨⟨_, rfl⟩, rfl⟩
    · rintro σ' H' ⟨⟨v, rfl⟩, rfl⟩
      walk_at "go"
      exact q
end
end K16
namespace K16
open PySem PySem.Spec PyProof.Rows L2 Evl Lay
section
variable {P : Program} {w : World} {K : PySem.W.Frag} {mg : Str → Option Value} {base : Heap} {CRuler CTable CBlock : Addr} {tkC tkH tkL : Tok}
/-! ### rulers -/
def RulerAt (CRuler : Addr) (H : Hp) (x : Addr) (hs : List Int) : Prop := ∃ dx hl el, H x = some (.ins CRuler dx [("height_list", .ref hl), ("edge_list", .ref el)]) ∧ H hl = some (.lst (hs.map V.int)) ∧ H el = some (.lst ((WK.edges hs).map V.int))
theorem RulerAt.ex {CRuler : Addr} {H H2 : Hp} {x : Addr} {hs : List Int} (h : RulerAt CRuler H x hs) (e : Ex H H2) : RulerAt CRuler H2 x hs := by
  obtain ⟨dx, hl, el, h1, h2, h3⟩ := h
  exact ⟨dx, hl, el, e _ _ h1, e _ _ h2, e _ _ h3⟩
def spRuler (K : PySem.W.Frag) (CRuler : Addr) : Sp := fun vs H Q _ => ∃ (x a dx : Addr) (hs : List Int), vs = [.ref x, .ref a] ∧ H x = some (.ins CRuler dx []) ∧ SqL K H a (hs.map V.int) ∧ hs.length ≤ 63 ∧ WK.HOk hs ∧ (∀ z ∈ hs, z ≤ 1000000000) ∧
  ∀ H2 hl el, ExB x H H2 → H hl = none → H el = none → H2 x = some (.ins CRuler dx [("height_list", .ref hl), ("edge_list", .ref el)]) → H2 hl = some (.lst (hs.map V.int)) → H2 el = some (.lst ((WK.edges hs).map V.int)) → Q .non H2
abbrev s_Ruler___init__ : Stmt := inClass (top 26) 0
theorem sc_Ruler___init__ : FnScope ["self", "heights", "line", "place", "height"] ["self", "heights"] (defScope s_Ruler___init__) := ⟨rfl, rfl, rfl, by decide +kernel, rfl, by decide +kernel, by decide +kernel⟩
theorem ok_Ruler_init (T : Txt K mg tkC tkH tkL ) (F : AtI K mg "Ruler" CRuler "Ruler.__init__" s_Ruler___init__ ["self", "heights"]) (o_Ruler : OC K mg "Ruler" CRuler ["height_list", "edge_list"])
    (d_check_most : Def P w K mg base "check_most" 2 ["what", "many", "most"] spMost0) (d_check_numbers : Def P w K mg base "check_numbers" 3 ["what", "numbers", "most"] (spNums0 K)) :
    DI P w K mg base "Ruler" CRuler 4 ["self", "heights"] (spRuler K CRuler) := by
  refine DI.mk' F sc_Ruler___init__ (fun vs H Q E h => ?_) (fun f cdv Ar outer s H vs Q E hr h => ⟨_, (pss_cons (ps_expr (pe_d d_check_most (hr.mono (by decide)) (passes_call (takes_of rfl rfl rfl rfl) (fun _ _ _ _ h => h)) (pa_cons pe_str (pa_cons (pe_op op_add (pe_callB (r := Lay.rLen K) c_len rfl T.n_len PySem.boot_len (pa_cons (pv 1) pa_nil)) pe_int) (pa_cons (pe_glob (v := .int 64) rfl T.g_CELLS ⟨_, rfl⟩) pa_nil)))))
      (pss_cons (ps_expr (pe_d d_check_numbers (hr.mono (by decide)) (passes_call (takes_of rfl rfl rfl rfl) (fun _ _ _ _ h => h)) (pa_cons pe_str (pa_cons (pv 1) (pa_cons (pe_glob (v := .int 1000000000) rfl T.g_HEIGHTS ⟨_, rfl⟩) pa_nil)))))
      (pss_cons (ps_fld (pv 0) (pe_lst pa_nil) rfl)
      (pss_cons (ps_fld (pv 0) (pe_lst pa_nil) rfl)
      (pss_cons (ps_set (i := 2) sc_Ruler___init__.nd rfl (Or.inl rfl) pe_int)
      (pss_one (ps_for (passes_of rfl) rfl (pi_enum rfl T.n_enumerate (pa_cons (pv 1) pa_nil)) (pg_tup (n := 2) rfl (pgs_cons (pg_name (i := 3) sc_Ruler___init__.nd rfl (Or.inl rfl)) (pgs_cons (pg_name (i := 4) sc_Ruler___init__.nd rfl (Or.inl rfl)) pgs_nil))) (pss_cons (ps_if (pt_cmpR op_lt (pv 4) pe_int (nomark _)) (pss_one ps_dead) pss_nil)
      (pss_cons (ps_set (i := 2) sc_Ruler___init__.nd rfl (Or.inl rfl) (pe_op op_add (pv 2) (pv 4)))
      (pss_cons (ps_expr (pe_bm PySem.F.plainAttrs_list PySem.F.slot_list_append PySem.F.type_list_append mt_append (pe_fld (pv 0) rfl) (pa_cons (pv 4) pa_nil)))
      (pss_one (ps_expr (pe_bm PySem.F.plainAttrs_list PySem.F.slot_list_append PySem.F.type_list_append mt_append (pe_fld (pv 0) rfl) (pa_cons (pv 2) pa_nil)))))))))))))), ?_⟩)
  · obtain ⟨x, a, dx, hs, rfl, _⟩ := h
    rfl
  · obtain ⟨x, a, dx, hs, rfl, hx, ha, hl, ho, hm, q⟩ := h
    walk_at "go0"
    refine ⟨"cells", _, 64, rfl, by omega, ?_⟩
    walk_at "go"
    refine ⟨"heights", a, hs, 1000000000, rfl, ha, hm, ?_⟩
    walk_at "go"
    refine r_newI0 fun h1 H1 n1 e1 hh1 => ?_
    walk_at "go"
    refine r_rfst (e1 _ _ hx) o_Ruler (by decide) (by decide) fun H2 e2 hx2 => ?_
    walk_at "go"
    refine r_newI0 fun l1 H3 n3 e3 hl3 => ?_
    walk_at "go"
    refine r_rfst (e3 _ _ hx2) o_Ruler (by decide) (Nat.le_of_ble_eq_true rfl) fun H4 e4 hx4 => ?_
    have hx1 : H1 x = some (.ins CRuler dx []) := e1 _ _ hx
    have hx3 := e3 _ _ hx2
    have hx5 : H4 x = some (.ins CRuler dx [("height_list", .ref h1), ("edge_list", .ref l1)]) := hx4
    have nh : h1 ≠ x := by walk_at "ne"
    have nl : l1 ≠ x := by walk_at "ne"
    have hh2 : H2 h1 = some (.lst (([] : List Int).map V.int)) := by walk_at "hp"
    have nhl : h1 ≠ l1 := by walk_at "ne"
    have hh4 : H4 h1 = some (.lst (([] : List Int).map V.int)) := by walk_at "hp"
    have hl4 : H4 l1 = some (.lst (([] : List Int).map V.int)) := by walk_at "hp"
    have ex4 : ExB x H H4 := by walk_at "ex"
    have ln : H l1 = none := fresh_back e1 (freshB e2 nl n3)
    have ha4 : SqL K H4 a (hs.map V.int) := by walk_at "sq"
    walk_at "go"
    refine forE ha4 (fun i s h => (∃ v u, s = [some (.ref x), some (.ref a), some (.int (hs.take i).sum), v, u]) ∧ ExB x H h ∧ h x = some (.ins CRuler dx [("height_list", .ref h1), ("edge_list", .ref l1)]) ∧ h h1 = some (.lst ((hs.take i).map V.int)) ∧ h l1 = some (.lst (((List.range i).map (WK.ed hs)).map V.int)) ∧ SqL K h a (hs.map V.int)) ?_ ?_ ?_ ?_
    · exact ⟨⟨_, _, rfl⟩, ex4, hx5, hh4, hl4, ha4⟩
    · intro i s h _ ⟨_, _, _, _, _, z⟩
      exact z
    · rintro i z s h h2 hz ⟨⟨v, u, rfl⟩, ex, hx, hh, hl, ha⟩ e
      obtain ⟨hi, rfl⟩ := int_at hz
      walk_at "go"
      refine r_no (fun c => absurd (ho _ (List.getElem_mem hi)) (by omega)) ?_
      walk_at "go"
      refine r_appI (e _ _ hh) (by rw [List.length_take]; omega) fun H5 e5 h5 f5 => ?_
      have hx5 : H5 x = some (.ins CRuler dx [("height_list", .ref h1), ("edge_list", .ref l1)]) := exb_at e5 nh.symm (e _ _ hx)
      have hl5 : H5 l1 = some (.lst (((List.range i).map (WK.ed hs)).map V.int)) := exb_at e5 nhl.symm (e _ _ hl)
      walk_at "go"
      refine r_appI hl5 (by rw [List.length_map, List.length_range]; omega) fun H6 e6 h6 f6 => ?_
      refine r_next ⟨⟨_, _, by rw [← take_sum hi]; rfl⟩, ?_, exb_at e6 nl.symm hx5, ?_, ?_, ?_⟩
      · exact ExB.exB (ExB.exB (ex.trans (Ex.b e)) e5 n1) e6 ln
      · rw [← take_snoc hi]
        exact exb_at e6 nhl h5
      · rw [List.range_succ, List.map_append]
        have e9 : (hs.take i).sum + hs[i] = WK.ed hs i := take_sum hi
        rw [e9] at h6
        exact h6
      · exact sq_fresh ‹SqL K H a (hs.map V.int)› ln (sq_fresh ‹SqL K H a (hs.map V.int)› n1 (ex_l e ha) e5) e6
    · rintro s h ⟨⟨v, u, rfl⟩, ex, hx, hh, hl, ha⟩
      rw [List.length_map] at hh hl
      rw [List.take_length] at hh
      exact r_next (q h h1 l1 ex n1 ln hx hh hl)
def spMany (CRuler : Addr) : Sp := fun vs H Q _ => ∃ (x : Addr) (hs : List Int), vs = [.ref x] ∧ RulerAt CRuler H x hs ∧ Q (.int (hs.length + 1)) H
abbrev s_Ruler_many : Stmt := inClass (top 26) 1
theorem sc_Ruler_many : FnScope ["self"] ["self"] (defScope s_Ruler_many) := ⟨rfl, rfl, rfl, by decide +kernel, rfl, by decide +kernel, by decide +kernel⟩
theorem ok_Ruler_many (T : Txt K mg tkC tkH tkL ) (F : AtM K CRuler "many" "Ruler.many" s_Ruler_many ["self"]) (o_Ruler : OC K mg "Ruler" CRuler ["height_list", "edge_list"]) : DM P w K mg base CRuler "many" 1 ["self"] (spMany CRuler) := by
  refine DM.mk' F sc_Ruler_many (fun vs H Q E h => ?_) (fun f cdv Ar outer s H vs Q E hr h => ⟨_, (pss_one (ps_ret (pe_op op_add (pe_callB (r := Lay.rLen K) c_len rfl T.n_len PySem.boot_len (pa_cons (pe_fld (pv 0) rfl) pa_nil)) pe_int))), ?_⟩)
  · obtain ⟨x, hs, rfl, _⟩ := h
    rfl
  · obtain ⟨x, hs, rfl, ⟨dx, hl, el, h1, h2, h3⟩, q⟩ := h
    walk_at "go0"
    exact q
def spCellOf (CRuler : Addr) : Sp := fun vs H Q _ => ∃ (x : Addr) (hs : List Int) (line : Int), vs = [.ref x, .int line] ∧ RulerAt CRuler H x hs ∧ WK.HOk hs ∧ hs.length ≤ 63 ∧ Q (.int (WK.cnt hs line hs.length + 1)) H
abbrev s_Ruler_cell : Stmt := inClass (top 26) 4
theorem sc_Ruler_cell : FnScope ["self", "line", "low", "high", "middle"] ["self", "line"] (defScope s_Ruler_cell) := ⟨rfl, rfl, rfl, by decide +kernel, rfl, by decide +kernel, by decide +kernel⟩
theorem ok_Ruler_cell (T : Txt K mg tkC tkH tkL ) (F : AtM K CRuler "cell" "Ruler.cell" s_Ruler_cell ["self", "line"]) (o_Ruler : OC K mg "Ruler" CRuler ["height_list", "edge_list"]) : DM P w K mg base CRuler "cell" 1 ["self", "line"] (spCellOf CRuler) := by
  refine DM.mk' F sc_Ruler_cell (fun vs H Q E h => ?_) (fun f cdv Ar outer s H vs Q E hr h => ⟨_, (pss_cons (ps_set (i := 2) sc_Ruler_cell.nd rfl (Or.inl rfl) pe_int)
      (pss_cons (ps_set (i := 3) sc_Ruler_cell.nd rfl (Or.inl rfl) (pe_callB (r := Lay.rLen K) c_len rfl T.n_len PySem.boot_len (pa_cons (pe_fld (pv 0) rfl) pa_nil)))
      (pss_cons (ps_while (passes_of rfl) (pt_cmpR op_lt (pv 2) (pv 3) (nomark _)) (pss_cons (ps_set (i := 4) sc_Ruler_cell.nd rfl (Or.inl rfl) (pe_op op_fdiv (pe_op op_add (pv 2) (pv 3)) pe_int))
      (pss_one (ps_if (pt_cmpR op_le (pe_ix (r := rIxL K) ix_list (pe_fld (pv 0) rfl) (pv 4) (fun _ _ => rfl)) (pv 1) (nomark _)) (pss_one (ps_set (i := 2) sc_Ruler_cell.nd rfl (Or.inl rfl) (pe_op op_add (pv 4) pe_int))) (pss_one (ps_set (i := 3) sc_Ruler_cell.nd rfl (Or.inl rfl) (pv 4)))))))
      (pss_one (ps_ret (pe_op op_add (pv 2) pe_int)))))), ?_⟩)
  · obtain ⟨x, hs, line, rfl, _⟩ := h
    rfl
  · obtain ⟨x, hs, line, rfl, ⟨dx, hl, el, h1, h2, h3⟩, ho, hn, q⟩ := h
    have le : (WK.edges hs).length = hs.length := by unfold WK.edges; rw [List.length_map, List.length_range]
    walk_at "go0"
    rw [le]
    refine r_while (fun m s h => ∃ (lo hi : Nat) (v : Option V), s = [some (.ref x), some (.int line), some (.int lo), some (.int hi), v] ∧ h = H ∧ m = hi - lo ∧ lo ≤ hi ∧ hi ≤ hs.length ∧ (∀ i, i < lo → WK.ed hs i ≤ line) ∧ (∀ i, hi ≤ i → i < hs.length → line < WK.ed hs i)) _ ⟨0, hs.length, _, rfl, rfl, rfl, Nat.zero_le _, Nat.le_refl _, fun i z => absurd z (Nat.not_lt_zero _), fun i a b => absurd a (by omega)⟩ ?_
    rintro m s h ⟨lo, hi, v, rfl, rfl, rfl, l1, l2, b1, b2⟩
    walk_at "go"
    refine whB (fun c => ?_) (fun c => ?_)
    · walk_at "go"
      have m0 : 0 ≤ ((lo : Int) + hi) / 2 := by omega
      obtain ⟨mi, hmi⟩ : ∃ mi : Nat, ((lo : Int) + hi) / 2 = mi := ⟨(((lo : Int) + hi) / 2).toNat, by omega⟩
      have g : gi (WK.edges hs) (((lo : Int) + hi) / 2) = WK.ed hs mi := by
        unfold WK.edges
        rw [gi_range m0 (by omega), hmi, Int.toNat_natCast]
      rw [g, hmi]
      refine r_ite (fun c2 => ?_) (fun c2 => ?_)
      · walk_at "go"
        refine ⟨_, ?_, mi + 1, hi, _, rfl, rfl, rfl, by omega, l2, fun i hi2 => ?_, b2⟩
        · omega
        · by_cases z : i = mi
          · rw [z]; exact c2
          · have := WK.ed_lt ho (i := i) (j := mi) (by omega) (by omega)
            omega
      · walk_at "go"
        refine ⟨_, ?_, lo, mi, _, rfl, rfl, rfl, by omega, by omega, b1, fun i hi2 hi3 => ?_⟩
        · omega
        · by_cases z : i = mi
          · rw [z]; omega
          · have := WK.ed_lt ho (i := mi) (j := i) (by omega) hi3
            omega
    · walk_at "go"
      have e : lo = hi := by omega
      subst e
      rw [WK.cnt_split b1 hs.length l2 b2] at q
      exact q
def spRCheck (CRuler : Addr) : Sp := fun vs H Q _ => ∃ (x : Addr) (hs : List Int) (c : Int), vs = [.ref x, .int c] ∧ RulerAt CRuler H x hs ∧ 1 ≤ c ∧ c ≤ hs.length + 1 ∧ Q .non H
abbrev s_Ruler_check_cell : Stmt := inClass (top 26) 7
theorem sc_Ruler_check_cell : FnScope ["self", "cell"] ["self", "cell"] (defScope s_Ruler_check_cell) := ⟨rfl, rfl, rfl, by decide +kernel, rfl, by decide +kernel, by decide +kernel⟩
theorem ok_Ruler_check (T : Txt K mg tkC tkH tkL ) (F : AtM K CRuler "check_cell" "Ruler.check_cell" s_Ruler_check_cell ["self", "cell"]) (o_Ruler : OC K mg "Ruler" CRuler ["height_list", "edge_list"]) (d_Ruler_many : DM P w K mg base CRuler "many" 1 ["self"] (spMany CRuler)) :
    DM P w K mg base CRuler "check_cell" 2 ["self", "cell"] (spRCheck CRuler) := by
  refine DM.mk' F sc_Ruler_check_cell (fun vs H Q E h => ?_) (fun f cdv Ar outer s H vs Q E hr h => ⟨_, (pss_one (ps_if (pt_not (pt_chain op_le op_le pe_int (pv 1) (pe_mD0 d_Ruler_many o_Ruler.cl (hr.mono (by decide)) (passes_call (takes_of rfl rfl rfl rfl) (fun _ _ _ _ h => h)) (pv 0)))) (pss_one ps_dead) pss_nil)), ?_⟩)
  · obtain ⟨x, hs, c, rfl, _⟩ := h
    rfl
  · obtain ⟨x, hs, c, rfl, hR, h0, h1, q⟩ := h
    walk_at "go0"
    refine r_yes h0 ?_
    obtain ⟨dx, hl, el, hx, h2, h3⟩ := id hR
    walk_at "go"
    refine r_rmth hx rfl ?_
    walk_at "go"
    refine ⟨x, hs, rfl, hR, ?_⟩
    walk_at "go"
    rw [decide_eq_true (show c ≤ (hs.length : Int) + 1 by omega)]
    walk_at "go"
    exact q
def spFirst (CRuler : Addr) : Sp := fun vs H Q _ => ∃ (x : Addr) (hs : List Int) (c : Int), vs = [.ref x, .int c] ∧ RulerAt CRuler H x hs ∧ 1 ≤ c ∧ c ≤ hs.length + 1 ∧ Q (.int (hs.take (c - 1).toNat).sum) H
abbrev s_Ruler_first : Stmt := inClass (top 26) 5
theorem sc_Ruler_first : FnScope ["self", "cell"] ["self", "cell"] (defScope s_Ruler_first) := ⟨rfl, rfl, rfl, by decide +kernel, rfl, by decide +kernel, by decide +kernel⟩
theorem ok_Ruler_first (T : Txt K mg tkC tkH tkL ) (F : AtM K CRuler "first" "Ruler.first" s_Ruler_first ["self", "cell"]) (o_Ruler : OC K mg "Ruler" CRuler ["height_list", "edge_list"]) (d_Ruler_check_cell : DM P w K mg base CRuler "check_cell" 2 ["self", "cell"] (spRCheck CRuler)) :
    DM P w K mg base CRuler "first" 3 ["self", "cell"] (spFirst CRuler) := by
  refine DM.mk' F sc_Ruler_first (fun vs H Q E h => ?_) (fun f cdv Ar outer s H vs Q E hr h => ⟨_, (pss_cons (ps_expr (pe_mD d_Ruler_check_cell o_Ruler.cl (hr.mono (by decide)) (passes_call (takes_of rfl rfl rfl rfl) (fun _ _ _ _ h => h)) (pv 0) (pa_cons (pv 1) pa_nil)))
      (pss_one (ps_ret (pe_ifExp (pt_cmpR op_eq (pv 1) pe_int (nomark _)) pe_int (pe_ix (r := rIxL K) ix_list (pe_fld (pv 0) rfl) (pe_op op_sub (pv 1) pe_int) (fun _ _ => rfl)))))), ?_⟩)
  · obtain ⟨x, hs, c, rfl, _⟩ := h
    rfl
  · obtain ⟨x, hs, c, rfl, hR, h0, h1, q⟩ := h
    obtain ⟨dx, hl, el, hx, h2, h3⟩ := id hR
    have le : (WK.edges hs).length = hs.length := by unfold WK.edges; rw [List.length_map, List.length_range]
    walk_at "go0"
    refine r_rmth hx rfl ?_
    walk_at "go"
    refine ⟨x, hs, c, rfl, hR, h0, h1, ?_⟩
    walk_at "go"
    refine r_tIf ?_
    walk_at "go"
    refine r_ite (fun z => ?_) (fun z => ?_)
    · walk_at "go"
      rw [z] at q
      exact q
    · walk_at "go"
      have g : gi (WK.edges hs) (c - 2) = (hs.take (c - 1).toNat).sum := by
        unfold WK.edges
        rw [gi_range (by omega) (by omega)]
        unfold WK.ed
        rw [show (c - 2).toNat + 1 = (c - 1).toNat by omega]
      rw [g]
      exact q
end
end K16
namespace K16
open PySem PySem.Spec PyProof.Rows L2 Evl Lay
section
variable {P : Program} {w : World} {K : PySem.W.Frag} {mg : Str → Option Value} {base : Heap} {CRuler CTable CBlock : Addr} {tkC tkH tkL : Tok}
/-! ### tables -/
def TabAt (K : PySem.W.Frag) (CTable : Addr) (H : Hp) (x : Addr) (sp : Prs) : Prop := ∃ dx sl ps fr, H x = some (.ins CTable dx [("span_rows", .ref sl), ("free_lines", .int fr)]) ∧ PrL K H sl ps sp ∧ H sl = some (.lst (ps.map V.ref))
theorem TabAt.ex {K : PySem.W.Frag} {CTable : Addr} {H H2 : Hp} {x : Addr} {sp : Prs} (h : TabAt K CTable H x sp) (e : Ex H H2) : TabAt K CTable H2 x sp := by
  obtain ⟨dx, sl, ps, fr, h1, h2, h3⟩ := h
  exact ⟨dx, sl, ps, fr, e _ _ h1, h2.ex e, e _ _ h3⟩
def spTable (K : PySem.W.Frag) (CTable : Addr) : Sp := fun vs H Q _ => ∃ (x a dx : Addr) (fr : Int) (ps : List Addr) (sp : Prs), vs = [.ref x, .ref a, .int fr] ∧ H x = some (.ins CTable dx []) ∧ PrL K H a ps sp ∧ WK.Ok sp ∧
  (∀ i : Int, 0 ≤ i → i < sp.length → zl sp i ≤ 1000000 ∧ zh sp i ≤ 1000000) ∧ 2 ≤ sp.length ∧ sp.length ≤ 64 ∧ 0 ≤ fr ∧ fr ≤ 1000000 ∧ ∀ H2, ExB x H H2 → TabAt K CTable H2 x sp → Q .non H2
abbrev s_Table___init__ : Stmt := inClass (top 15) 0
theorem sc_Table___init__ : FnScope ["self", "spans", "free", "span", "low", "high"] ["self", "spans", "free"] (defScope s_Table___init__) := ⟨rfl, rfl, rfl, by decide +kernel, rfl, by decide +kernel, by decide +kernel⟩
theorem ok_Table_init (T : Txt K mg tkC tkH tkL ) (F : AtI K mg "Table" CTable "Table.__init__" s_Table___init__ ["self", "spans", "free"]) (o_Table : OC K mg "Table" CTable ["span_rows", "free_lines"])
    (d_check_most : Def P w K mg base "check_most" 2 ["what", "many", "most"] spMost0) (d_check_numbersT : Def P w K mg base "check_numbers" 3 ["what", "numbers", "most"] (spNumsT K)) :
    DI P w K mg base "Table" CTable 4 ["self", "spans", "free"] (spTable K CTable) := by
  refine DI.mk' F sc_Table___init__ (fun vs H Q E h => ?_) (fun f cdv Ar outer s H vs Q E hr h => ⟨_, (pss_cons (ps_expr (pe_d d_check_most (hr.mono (by decide)) (passes_call (takes_of rfl rfl rfl rfl) (fun _ _ _ _ h => h)) (pa_cons pe_str (pa_cons (pe_callB (r := Lay.rLen K) c_len rfl T.n_len PySem.boot_len (pa_cons (pv 1) pa_nil)) (pa_cons (pe_glob (v := .int 64) rfl T.g_CELLS ⟨_, rfl⟩) pa_nil)))))
      (pss_cons (ps_for (passes_of rfl) rfl (pi_list (pv 1)) (pg_name (i := 3) sc_Table___init__.nd rfl (Or.inl rfl)) (pss_one (ps_expr (pe_d d_check_numbersT (hr.mono (by decide)) (passes_call (takes_of rfl rfl rfl rfl) (fun _ _ _ _ h => h)) (pa_cons pe_str (pa_cons (pv 3) (pa_cons (pe_glob (v := .int 1000000) rfl T.g_LINES ⟨_, rfl⟩) pa_nil)))))))
      (pss_cons (ps_expr (pe_d d_check_most (hr.mono (by decide)) (passes_call (takes_of rfl rfl rfl rfl) (fun _ _ _ _ h => h)) (pa_cons pe_str (pa_cons (pv 2) (pa_cons (pe_glob (v := .int 1000000) rfl T.g_LINES ⟨_, rfl⟩) pa_nil)))))
      (pss_cons (ps_if (pt_cmpR op_lt (pe_callB (r := Lay.rLen K) c_len rfl T.n_len PySem.boot_len (pa_cons (pv 1) pa_nil)) pe_int (nomark _)) (pss_one ps_dead) pss_nil)
      (pss_cons (ps_for (passes_of rfl) rfl (pi_list (pv 1)) (pg_tup (n := 2) rfl (pgs_cons (pg_name (i := 4) sc_Table___init__.nd rfl (Or.inl rfl)) (pgs_cons (pg_name (i := 5) sc_Table___init__.nd rfl (Or.inl rfl)) pgs_nil))) (pss_one (ps_if (pt_not (pt_chain op_le op_le pe_int (pv 4) (pv 5))) (pss_one ps_dead) pss_nil)))
      (pss_cons (ps_if (pt_cmpR op_lt (pv 2) pe_int (nomark _)) (pss_one ps_dead) pss_nil)
      (pss_cons (ps_fld (pv 0) (pe_lc (own := [("low", 4), ("high", 5)]) (g := (gTup K 2 (gCons (gName 4) (gCons (gName 5) gNil)))) (tt := tYes) rfl sc_Table___init__.nd (pi_list (pv 1)) (blkOk_by (own := [("low", 4), ("high", 5)]) (N := ["self", "spans", "free", "span", "low", "high"]) (sc := defScope s_Table___init__) (by decide +kernel)) (fun _ _ _ _ _ => (pg_tup (n := 2) rfl (pgs_cons (pg_name (i := 4) sc_Table___init__.nd rfl (Or.inl rfl)) (pgs_cons (pg_name (i := 5) sc_Table___init__.nd rfl (Or.inl rfl)) pgs_nil)))) (fun _ _ _ _ _ => pts_nil) (fun _ _ _ _ _ => (pe_tup (pa_cons (pv 4) (pa_cons (pv 5) pa_nil))))) rfl)
      (pss_one (ps_fld (pv 0) (pv 2) rfl))))))))), ?_⟩)
  · obtain ⟨x, a, dx, fr, ps, sp, rfl, _⟩ := h
    rfl
  · obtain ⟨x, a, dx, fr, ps, sp, rfl, hx, ha, ho, hb, h2, h64, f0, f1, q⟩ := h
    walk_at "go0"
    refine ⟨"cells", _, 64, rfl, by omega, ?_⟩
    walk_at "go"
    refine forP ha (fun i s h => (∃ v, s = [some (.ref x), some (.ref a), some (.int fr), v, none, none]) ∧ h = H) ⟨⟨_, rfl⟩, rfl⟩ ?_ ?_ ?_
    · rintro i s h _ ⟨_, rfl⟩
      exact ha.1
    · rintro i s h hi ⟨⟨v, rfl⟩, rfl⟩
      have hp := ha.2.2 i (by omega) (by omega)
      have b := hb i (by omega) (by omega)
      walk_at "go"
      refine ⟨"lines", _, [zl sp i, zh sp i], 1000000, rfl, L2.SqT.of hp, ?_, ?_⟩
      · intro z hz
        rcases List.mem_cons.mp hz with r | hz
        · rw [r]; exact b.1
        · rcases List.mem_cons.mp hz with r | hz
          · rw [r]; exact b.2
          · exact (List.not_mem_nil hz).elim
      walk_at "go"
      exact ⟨⟨_, rfl⟩, rfl⟩
    rintro s h ⟨⟨v, rfl⟩, rfl⟩
    walk_at "go"
    refine ⟨"lines", _, 1000000, rfl, f1, ?_⟩
    walk_at "go"
    refine r_no (by omega) ?_
    walk_at "go"
    refine forP ha (fun i s h2 => (∃ v v1 v2, s = [some (.ref x), some (.ref a), some (.int fr), v, v1, v2]) ∧ h2 = h) ⟨⟨_, _, _, rfl⟩, rfl⟩ ?_ ?_ ?_
    · rintro i s h _ ⟨_, rfl⟩
      exact ha.1
    · rintro i s h hi ⟨⟨v, v1, v2, rfl⟩, rfl⟩
      have hp := ha.2.2 i (by omega) (by omega)
      have o := ho i (by omega) (by omega)
      walk_at "go"
      refine r_yes o.1 ?_
      walk_at "go"
      rw [decide_eq_true o.2]
      walk_at "go"
      exact ⟨⟨_, _, _, rfl⟩, rfl⟩
    rintro s h2 ⟨⟨v, v1, v2, rfl⟩, rfl⟩
    walk_at "go"
    refine r_no (by omega) ?_
    walk_at "go"
    refine lcP ha (fun p i h => ∃ qs : List Addr, h p = some (.lst (qs.map V.ref)) ∧ qs.length = i ∧ (∀ j : Int, 0 ≤ j → j < i → h (ga qs j) = some (.tup [.int (zl sp j), .int (zh sp j)])) ∧ Ex h2 h ∧ h2 p = none) ?_ ?_ ?_ ?_
    · exact fun p h n e hp => ⟨[], hp, rfl, fun j a b => absurd b (by omega), e, n⟩
    · rintro p i h _ ⟨qs, _, _, _, e, _⟩
      exact ex_l e ha.1
    · rintro p i h hi ⟨qs, hp, hq, ht, e, n⟩
      have hg := e _ _ (ha.2.2 i (by omega) (by omega))
      walk_at "go"
      refine r_yesC rfl ?_
      walk_at "go"
      refine r_newT (len3 rfl) fun t H2 nt et hT => ?_
      refine appW (et _ _ hp) (by rw [List.length_map]; omega) fun H5 e5 h5 => ?_
      have np : t ≠ p := by walk_at "ne"
      refine ⟨qs ++ [t], by rw [List.map_append]; exact h5, by rw [List.length_append, hq]; rfl, fun j j0 j1 => ?_, ExB.ex (e.trans et) e5 n, n⟩
      by_cases c : j < i
      · rw [ga_snoc j0 (by omega)]
        have z := et _ _ (ht j j0 c)
        exact e5 _ _ (fun y => by rw [y, et _ _ hp] at z; cases z) z
      · rw [ga_last (by omega)]
        have ej : j = (i : Int) := by omega
        rw [ej]
        exact e5 _ _ np hT
    · rintro p h ⟨qs, hp, hq, ht, e, n⟩
      walk_at "go"
      refine r_rfst (e _ _ hx) o_Table (by decide) (by decide) fun H2 e2 hx2 => ?_
      walk_at "go"
      refine r_rfst hx2 o_Table (by decide) (Nat.le_of_ble_eq_true rfl) fun H3 e3 hx3 => ?_
      have npx : p ≠ x := by walk_at "ne"
      have hx1 := e _ _ hx
      have P : PrL K h p qs sp := ⟨L2.SqL.of hp, hq, ht⟩
      have P2 := (P.exb e2 npx (fun xs z => by rw [hx1] at z; cases z)).exb e3 npx (fun xs z => by rw [hx2] at z; cases z)
      refine r_next (q H3 (by walk_at "ex") ⟨dx, p, qs, fr, hx3, P2, ?_⟩)
      exact exb_at e3 npx (exb_at e2 npx hp)
def spSpans (K : PySem.W.Frag) (CTable : Addr) : Sp := fun vs H Q _ => ∃ (x : Addr) (sp : Prs), vs = [.ref x] ∧ TabAt K CTable H x sp ∧ ∀ p ps H2, H p = none → Ex H H2 → PrL K H2 p ps sp → Q (.ref p) H2
abbrev s_Table_spans : Stmt := inClass (top 15) 1
theorem sc_Table_spans : FnScope ["self"] ["self"] (defScope s_Table_spans) := ⟨rfl, rfl, rfl, by decide +kernel, rfl, by decide +kernel, by decide +kernel⟩
theorem ok_Table_spans (T : Txt K mg tkC tkH tkL ) (F : AtM K CTable "spans" "Table.spans" s_Table_spans ["self"]) (o_Table : OC K mg "Table" CTable ["span_rows", "free_lines"]) : DM P w K mg base CTable "spans" 1 ["self"] (spSpans K CTable) := by
  refine DM.mk' F sc_Table_spans (fun vs H Q E h => ?_) (fun f cdv Ar outer s H vs Q E hr h => ⟨_, (pss_one (ps_ret (pe_callTy (r := Lay.rList K) c_list rfl T.n_list (by decide +kernel) (pa_cons (pe_fld (pv 0) rfl) pa_nil)))), ?_⟩)
  · obtain ⟨x, sp, rfl, _⟩ := h
    rfl
  · obtain ⟨x, sp, rfl, ⟨dx, sl, ps, fr, h1, h2, h3⟩, q⟩ := h
    walk_at "go0"
    refine r_listP h2 fun p2 H2 n e P _ => ?_
    exact q p2 ps H2 n e P
def spCells (K : PySem.W.Frag) (CTable : Addr) : Sp := fun vs H Q _ => ∃ (x : Addr) (sp : Prs), vs = [.ref x] ∧ TabAt K CTable H x sp ∧ Q (.int sp.length) H
abbrev s_Table_cells : Stmt := inClass (top 15) 3
theorem sc_Table_cells : FnScope ["self"] ["self"] (defScope s_Table_cells) := ⟨rfl, rfl, rfl, by decide +kernel, rfl, by decide +kernel, by decide +kernel⟩
theorem ok_Table_cells (T : Txt K mg tkC tkH tkL ) (F : AtM K CTable "cells" "Table.cells" s_Table_cells ["self"]) (o_Table : OC K mg "Table" CTable ["span_rows", "free_lines"]) : DM P w K mg base CTable "cells" 1 ["self"] (spCells K CTable) := by
  refine DM.mk' F sc_Table_cells (fun vs H Q E h => ?_) (fun f cdv Ar outer s H vs Q E hr h => ⟨_, (pss_one (ps_ret (pe_callB (r := Lay.rLen K) c_len rfl T.n_len PySem.boot_len (pa_cons (pe_fld (pv 0) rfl) pa_nil)))), ?_⟩)
  · obtain ⟨x, sp, rfl, _⟩ := h
    rfl
  · obtain ⟨x, sp, rfl, ⟨dx, sl, ps, fr, h1, h2, h3⟩, q⟩ := h
    walk_at "go0"
    exact q
def spTCheck (K : PySem.W.Frag) (CTable : Addr) : Sp := fun vs H Q _ => ∃ (x : Addr) (sp : Prs) (c : Int), vs = [.ref x, .int c] ∧ TabAt K CTable H x sp ∧ 1 ≤ c ∧ c ≤ sp.length ∧ Q .non H
abbrev s_Table_check_cell : Stmt := inClass (top 15) 6
theorem sc_Table_check_cell : FnScope ["self", "cell"] ["self", "cell"] (defScope s_Table_check_cell) := ⟨rfl, rfl, rfl, by decide +kernel, rfl, by decide +kernel, by decide +kernel⟩
theorem ok_Table_check (T : Txt K mg tkC tkH tkL ) (F : AtM K CTable "check_cell" "Table.check_cell" s_Table_check_cell ["self", "cell"]) (o_Table : OC K mg "Table" CTable ["span_rows", "free_lines"]) :
    DM P w K mg base CTable "check_cell" 1 ["self", "cell"] (spTCheck K CTable) := by
  refine DM.mk' F sc_Table_check_cell (fun vs H Q E h => ?_) (fun f cdv Ar outer s H vs Q E hr h => ⟨_, (pss_one (ps_if (pt_not (pt_chain op_le op_le pe_int (pv 1) (pe_callB (r := Lay.rLen K) c_len rfl T.n_len PySem.boot_len (pa_cons (pe_fld (pv 0) rfl) pa_nil)))) (pss_one ps_dead) pss_nil)), ?_⟩)
  · obtain ⟨x, sp, c, rfl, _⟩ := h
    rfl
  · obtain ⟨x, sp, c, rfl, ⟨dx, sl, ps, fr, h1, h2, h3⟩, c0, c1, q⟩ := h
    walk_at "go0"
    refine r_yes c0 ?_
    walk_at "go"
    rw [decide_eq_true c1]
    walk_at "go"
    exact q
def spLow (K : PySem.W.Frag) (CTable : Addr) : Sp := fun vs H Q _ => ∃ (x : Addr) (sp : Prs) (c : Int), vs = [.ref x, .int c] ∧ TabAt K CTable H x sp ∧ 1 ≤ c ∧ c ≤ sp.length ∧ Q (.int (zl sp (c - 1))) H
abbrev s_Table_low : Stmt := inClass (top 15) 4
theorem sc_Table_low : FnScope ["self", "cell"] ["self", "cell"] (defScope s_Table_low) := ⟨rfl, rfl, rfl, by decide +kernel, rfl, by decide +kernel, by decide +kernel⟩
theorem ok_Table_low (T : Txt K mg tkC tkH tkL ) (F : AtM K CTable "low" "Table.low" s_Table_low ["self", "cell"]) (o_Table : OC K mg "Table" CTable ["span_rows", "free_lines"]) (d_Table_check_cell : DM P w K mg base CTable "check_cell" 1 ["self", "cell"] (spTCheck K CTable)) :
    DM P w K mg base CTable "low" 2 ["self", "cell"] (spLow K CTable) := by
  refine DM.mk' F sc_Table_low (fun vs H Q E h => ?_) (fun f cdv Ar outer s H vs Q E hr h => ⟨_, (pss_cons (ps_expr (pe_mD d_Table_check_cell o_Table.cl (hr.mono (by decide)) (passes_call (takes_of rfl rfl rfl rfl) (fun _ _ _ _ h => h)) (pv 0) (pa_cons (pv 1) pa_nil)))
      (pss_one (ps_ret (pe_ix (r := rIxT K) ix_tup (pe_ix (r := rIxL K) ix_list (pe_fld (pv 0) rfl) (pe_op op_sub (pv 1) pe_int) (fun _ _ => rfl)) pe_int (fun _ _ => rfl))))), ?_⟩)
  · obtain ⟨x, sp, c, rfl, _⟩ := h
    rfl
  · obtain ⟨x, sp, c, rfl, hT, c0, c1, q⟩ := h
    obtain ⟨dx, sl, ps, fr, h1, h2, h3⟩ := id hT
    walk_at "go0"
    refine r_rmth h1 rfl ?_
    walk_at "go"
    refine ⟨x, sp, c, rfl, hT, c0, c1, ?_⟩
    walk_at "go"
    exact q
end
end K16
namespace K16
open PySem PySem.Spec PyProof.Rows L2 Evl Lay
section
variable {P : Program} {w : World} {K : PySem.W.Frag} {mg : Str → Option Value} {base : Heap} {CRuler CTable CBlock : Addr} {tkC tkH tkL : Tok}
/-! ### falls and leaps -/
def spFall (K : PySem.W.Frag) (CTable : Addr) : Sp := fun vs H Q _ => ∃ (x : Addr) (sp : Prs), vs = [.ref x] ∧ TabAt K CTable H x sp ∧ sp.length ≤ 64 ∧ (∀ H2, Ex H H2 → ¬ WK.fallP sp → Q .non H2) ∧ (∀ t H2, Ex H H2 → WK.fallP sp → Q (.ref t) H2)
abbrev s_fall_of : Stmt := top 18
theorem sc_fall_of : FnScope ["table", "spans", "width", "place", "lines"] ["table"] (defScope s_fall_of) := ⟨rfl, rfl, rfl, by decide +kernel, rfl, by decide +kernel, by decide +kernel⟩
theorem ok_fall_of (T : Txt K mg tkC tkH tkL ) (F : At K mg "fall_of" s_fall_of ["table"]) (o_Table : OC K mg "Table" CTable ["span_rows", "free_lines"]) (d_Table_spans : DM P w K mg base CTable "spans" 1 ["self"] (spSpans K CTable)) :
    Def P w K mg base "fall_of" 2 ["table"] (spFall K CTable) := by
  refine Def.mk' F sc_fall_of (fun vs H Q E h => ?_) (fun f cdv Ar outer s H vs Q E hr h => ⟨_, (pss_cons (ps_set (i := 1) sc_fall_of.nd rfl (Or.inl rfl) (pe_mD0 d_Table_spans o_Table.cl (hr.mono (by decide)) (passes_call (takes_of rfl rfl rfl rfl) (fun _ _ _ _ h => h)) (pv 0)))
      (pss_cons (ps_for (passes_of rfl) rfl (pi_range2 rfl T.n_range (pa_cons pe_int (pa_cons (pe_callB (r := Lay.rLen K) c_len rfl T.n_len PySem.boot_len (pa_cons (pv 1) pa_nil)) pa_nil))) (pg_name (i := 2) sc_fall_of.nd rfl (Or.inl rfl)) (pss_one (ps_for (passes_of rfl) rfl (pi_range1 rfl T.n_range (pa_cons (pe_op op_sub (pe_callB (r := Lay.rLen K) c_len rfl T.n_len PySem.boot_len (pa_cons (pv 1) pa_nil)) (pv 2)) pa_nil)) (pg_name (i := 3) sc_fall_of.nd rfl (Or.inl rfl)) (pss_cons (ps_set (i := 4) sc_fall_of.nd rfl (Or.inl rfl) (pe_op op_sub (pe_ix (r := rIxT K) ix_tup (pe_ix (r := rIxL K) ix_list (pv 1) (pv 3) (fun _ _ => rfl)) pe_int (fun _ _ => rfl)) (pe_ix (r := rIxT K) ix_tup (pe_ix (r := rIxL K) ix_list (pv 1) (pe_op op_add (pv 3) (pv 2)) (fun _ _ => rfl)) pe_int (fun _ _ => rfl))))
      (pss_one (ps_if (pt_cmpR op_gt (pv 4) pe_int (nomark _)) (pss_one (ps_ret (pe_tup (pa_cons (pe_op op_add (pv 3) pe_int) (pa_cons (pe_op op_add (pe_op op_add (pv 3) (pv 2)) pe_int) (pa_cons (pv 4) pa_nil)))))) pss_nil))))))
      (pss_one (ps_ret pe_non)))), ?_⟩)
  · obtain ⟨x, sp, rfl, _⟩ := h
    rfl
  · obtain ⟨x, sp, rfl, hT, h64, qn, qy⟩ := h
    obtain ⟨dx, sl, ps0, fr, h1, h2, h3⟩ := id hT
    walk_at "go0"
    refine r_rmth h1 rfl ?_
    walk_at "go"
    refine ⟨x, sp, rfl, hT, fun p ps H1 n e hP => ?_⟩
    walk_at "go"
    refine forR2 ⟨by decide, by decide⟩ ⟨by omega, by omega⟩ (fun k s h => (∃ v1 v2 v3, s = [some (.ref x), some (.ref p), v1, v2, v3]) ∧ h = H1 ∧ ∀ a b : Int, 0 ≤ a → a < b → b - a < 1 + k → b < sp.length → ¬ zh sp b < zl sp a) ?_ ?_ ?_
    · exact ⟨⟨_, _, _, rfl⟩, rfl, fun a b _ _ _ _ => by omega⟩
    · rintro k s h hk ⟨⟨v1, v2, v3, rfl⟩, rfl, hq⟩
      walk_at "go"
      refine forR1 (by omega) (by omega) (fun j s h2 => (∃ v2 v3, s = [some (.ref x), some (.ref p), some (.int (1 + k)), v2, v3]) ∧ h2 = h ∧ ∀ a : Int, 0 ≤ a → a < j → ¬ zh sp (a + (1 + k)) < zl sp a) ?_ ?_ ?_
      · exact ⟨⟨_, _, rfl⟩, rfl, fun a _ _ => by omega⟩
      · rintro j s h2 hj ⟨⟨v2, v3, rfl⟩, rfl, hq2⟩
        walk_at "go"
        refine r_ite (fun c => ?_) (fun c => ?_)
        · walk_at "go"
          refine r_newT (len3 rfl) fun t H2 _ e2 _ => ?_
          exact qy t H2 (e.trans e2) ⟨j, (j : Int) + (1 + k), by omega, by omega, by omega, by omega⟩
        · refine r_next ⟨⟨_, _, rfl⟩, rfl, fun a a0 a1 => ?_⟩
          by_cases z : a = j
          · rw [z]; omega
          · exact hq2 a a0 (by omega)
      · rintro s h2 ⟨⟨v2, v3, rfl⟩, rfl, hq2⟩
        refine ⟨⟨_, _, _, rfl⟩, rfl, fun a b a0 ab bl bn => ?_⟩
        by_cases z : b - a < 1 + k
        · exact hq a b a0 ab z bn
        · have eb : b = a + (1 + k) := by omega
          rw [eb]
          exact hq2 a a0 (by omega)
    · rintro s h ⟨⟨v1, v2, v3, rfl⟩, rfl, hq⟩
      walk_at "go"
      exact qn h e fun ⟨a, b, a0, ab, bn, z⟩ => hq a b a0 ab (by omega) bn z
def spLeap (K : PySem.W.Frag) (CTable : Addr) : Sp := fun vs H Q _ => ∃ (x : Addr) (sp : Prs), vs = [.ref x] ∧ TabAt K CTable H x sp ∧ sp.length ≤ 64 ∧ (∀ H2, Ex H H2 → ¬ WK.leapP sp → Q .non H2) ∧ (∀ t H2, Ex H H2 → WK.leapP sp → Q (.ref t) H2)
/-- the best leap so far -/
def BestOk (h : Hp) (b : V) (S : Prop) : Prop := (b = .non ∧ ¬ S) ∨ ∃ t u v, b = .ref t ∧ h t = some (.tup [.int u, .int v]) ∧ S
theorem BestOk.imp {h : Hp} {b : V} {S S' : Prop} (q : BestOk h b S) (i : S ↔ S') : BestOk h b S' := by
  rcases q with ⟨r, n⟩ | ⟨t, u, v, r, ht, s⟩
  · exact .inl ⟨r, fun z => n (i.mpr z)⟩
  · exact .inr ⟨t, u, v, r, ht, i.mp s⟩
def bIx : Bool → Nat
  | true => 0
  | false => 1
abbrev s_leap_of : Stmt := top 19
theorem sc_leap_of : FnScope ["kind", "lines", "spans", "best", "ups", "place"] ["kind"] (defScope s_leap_of) := ⟨rfl, rfl, rfl, by decide +kernel, rfl, by decide +kernel, by decide +kernel⟩
theorem ok_leap_of (T : Txt K mg tkC tkH tkL ) (F : At K mg "leap_of" s_leap_of ["kind"]) (o_Table : OC K mg "Table" CTable ["span_rows", "free_lines"]) (o_Block : OC K mg "Block" CBlock []) (i_Table : OI K CTable)
    (kit_Table_Block : PySem.W.kitOne K (.ref CTable) (.ref CBlock) = some false) (kit_Table_Table : PySem.W.kitOne K (.ref CTable) (.ref CTable) = some true) (d_Table_spans : DM P w K mg base CTable "spans" 1 ["self"] (spSpans K CTable)) :
    Def P w K mg base "leap_of" 2 ["kind"] (spLeap K CTable) := by
  refine Def.mk' F sc_leap_of (fun vs H Q E h => ?_) (fun f cdv Ar outer s H vs Q E hr h => ⟨_, (pss_cons (ps_if (pt_val (pe_callB (r := rIsi K) call_isi rfl T.n_isinstance (by decide +kernel) (pa_cons (pv 0) (pa_cons (pe_glob (v := .ref CBlock) rfl o_Block.g rfl) pa_nil)))) (pss_cons ps_dead (pss_one ps_dead)) pss_nil)
      (pss_cons (ps_if (pt_not (pt_val (pe_callB (r := rIsi K) call_isi rfl T.n_isinstance (by decide +kernel) (pa_cons (pv 0) (pa_cons (pe_glob (v := .ref CTable) rfl o_Table.g rfl) pa_nil))))) (pss_one ps_dead) pss_nil)
      (pss_cons (ps_set (i := 2) sc_leap_of.nd rfl (Or.inl rfl) (pe_mD0 d_Table_spans o_Table.cl (hr.mono (by decide)) (passes_call (takes_of rfl rfl rfl rfl) (fun _ _ _ _ h => h)) (pv 0)))
      (pss_cons (ps_set (i := 3) sc_leap_of.nd rfl (Or.inl rfl) pe_non)
      (pss_cons (ps_for (passes_of rfl) rfl (pi_tup (pe_tup (pa_cons pe_bl (pa_cons pe_bl pa_nil)))) (pg_name (i := 4) sc_leap_of.nd rfl (Or.inl rfl)) (pss_one (ps_for (passes_of rfl) rfl (pi_range2 rfl T.n_range (pa_cons pe_int (pa_cons (pe_callB (r := Lay.rLen K) c_len rfl T.n_len PySem.boot_len (pa_cons (pv 2) pa_nil)) pa_nil))) (pg_name (i := 5) sc_leap_of.nd rfl (Or.inl rfl)) (pss_cons (ps_if (pt_val (pv 4)) (pss_one (ps_set (i := 1) sc_leap_of.nd rfl (Or.inl rfl) (pe_op op_sub (pe_ix (r := rIxT K) ix_tup (pe_ix (r := rIxL K) ix_list (pv 2) (pv 5) (fun _ _ => rfl)) pe_int (fun _ _ => rfl)) (pe_ix (r := rIxT K) ix_tup (pe_ix (r := rIxL K) ix_list (pv 2) (pe_op op_sub (pv 5) pe_int) (fun _ _ => rfl)) pe_int (fun _ _ => rfl))))) (pss_one (ps_set (i := 1) sc_leap_of.nd rfl (Or.inl rfl) (pe_op op_sub (pe_ix (r := rIxT K) ix_tup (pe_ix (r := rIxL K) ix_list (pv 2) (pe_op op_sub (pv 5) pe_int) (fun _ _ => rfl)) pe_int (fun _ _ => rfl)) (pe_ix (r := rIxT K) ix_tup (pe_ix (r := rIxL K) ix_list (pv 2) (pv 5) (fun _ _ => rfl)) pe_int (fun _ _ => rfl))))))
      (pss_one (ps_if (PW.pt (pw_and (pt_cmpR op_gt (pv 1) pe_int (nomark _)) (pw_and1 (PW.pt (pw_or (pt_cmpR op_isN1 (pv 3) pe_non (nomark _)) (pw_or1 (pt_cmpR op_gt (pv 1) (pe_ix (r := rIxT K) ix_tup (pv 3) pe_int (fun _ _ => rfl)) (nomark _)))))))) (pss_one (ps_set (i := 3) sc_leap_of.nd rfl (Or.inl rfl) (pe_tup (pa_cons (pe_op op_add (pv 5) pe_int) (pa_cons (pv 1) pa_nil))))) pss_nil))))))
      (pss_one (ps_ret (pv 3)))))))), ?_⟩)
  · obtain ⟨x, sp, rfl, _⟩ := h
    rfl
  · obtain ⟨x, sp, rfl, hT, h64, qn, qy⟩ := h
    obtain ⟨dx, sl, ps0, fr, h1, h2, h3⟩ := id hT
    walk_at "go0"
    refine r_isO h1 o_Table i_Table kit_Table_Block ?_
    walk_at "go"
    refine r_isO h1 o_Table i_Table kit_Table_Table ?_
    walk_at "go"
    refine r_rmth h1 rfl ?_
    walk_at "go"
    refine ⟨x, sp, rfl, hT, fun p ps H1 n e hP => ?_⟩
    walk_at "go"
    refine r_newT (len3 rfl) fun tt H2 _ e2 htt => ?_
    walk_at "go"
    refine forT (xs := [.bl true, .bl false]) (L2.SqT.of htt) (fun i s h => (∃ b v1 v4 v5, s = [some (.ref x), v1, some (.ref p), some b, v4, v5] ∧ BestOk h b (∃ (c : Bool) (j : Int), bIx c < i ∧ 1 ≤ j ∧ j < sp.length ∧ 0 < WK.lp sp c j)) ∧ Ex H2 h) ?_ ?_ ?_ ?_
    · exact ⟨⟨_, _, _, _, rfl, .inl ⟨rfl, fun ⟨c, j, z, _⟩ => absurd z (Nat.not_lt_zero _)⟩⟩, Ex.refl _⟩
    · rintro i s h _ ⟨_, e3⟩
      exact ex_t e3 (L2.SqT.of htt)
    · rintro i y s h hy ⟨⟨b, v1, v4, v5, rfl, hb⟩, e3⟩
      have hy2 : ∃ c : Bool, y = .bl c ∧ bIx c = i := by
        rcases i with _ | _ | i
        · cases hy; exact ⟨true, rfl, rfl⟩
        · cases hy; exact ⟨false, rfl, rfl⟩
        · cases hy
      obtain ⟨c, rfl, rfl⟩ := hy2
      have hP2 := hP.ex (e2.trans e3)
      walk_at "go"
      refine forR2 ⟨by decide, by decide⟩ ⟨by omega, by omega⟩ (fun k s h' => (∃ b v1 v5, s = [some (.ref x), v1, some (.ref p), some b, some (.bl c), v5] ∧ BestOk h' b ((∃ (c' : Bool) (j : Int), bIx c' < bIx c ∧ 1 ≤ j ∧ j < sp.length ∧ 0 < WK.lp sp c' j) ∨ ∃ j : Int, 1 ≤ j ∧ j < 1 + k ∧ 0 < WK.lp sp c j)) ∧ Ex h h') ?_ ?_ ?_
      · exact ⟨⟨_, _, _, rfl, hb.imp ⟨.inl, fun z => z.elim id fun ⟨j, a, b, _⟩ => by omega⟩⟩, Ex.refl _⟩
      · rintro k s h' hk ⟨⟨b, v1, v5, rfl, hb⟩, e4⟩
        have hP3 := hP2.ex e4
        -- what follows the two ways
        have rest : ∀ (l : Int), l = WK.lp sp c (1 + k) → ∀ (v : V), BestOk h' b ((∃ (c' : Bool) (j : Int), bIx c' < bIx c ∧ 1 ≤ j ∧ j < sp.length ∧ 0 < WK.lp sp c' j) ∨ ∃ j : Int, 1 ≤ j ∧ j < 1 + k ∧ 0 < WK.lp sp c j) → True := fun _ _ _ _ => trivial
        have nx : ¬ 0 < WK.lp sp c (1 + k) → BestOk h' b ((∃ (c' : Bool) (j : Int), bIx c' < bIx c ∧ 1 ≤ j ∧ j < sp.length ∧ 0 < WK.lp sp c' j) ∨ ∃ j : Int, 1 ≤ j ∧ j < 1 + ((k + 1 : Nat) : Int) ∧ 0 < WK.lp sp c j) := fun z => hb.imp ⟨fun q => q.elim .inl fun ⟨j, a, b, d⟩ => .inr ⟨j, a, by omega, d⟩, fun q => q.elim .inl fun ⟨j, a, b, d⟩ => by
          by_cases ej : j = 1 + k
          · rw [ej] at d; exact absurd d z
          · exact .inr ⟨j, a, by omega, d⟩⟩
        have ny : ∀ (t : Addr) (u : Int) (h2 : Hp), 0 < WK.lp sp c (1 + k) → h2 t = some (.tup [.int u, .int (WK.lp sp c (1 + k))]) → BestOk h2 (.ref t) ((∃ (c' : Bool) (j : Int), bIx c' < bIx c ∧ 1 ≤ j ∧ j < sp.length ∧ 0 < WK.lp sp c' j) ∨ ∃ j : Int, 1 ≤ j ∧ j < 1 + ((k + 1 : Nat) : Int) ∧ 0 < WK.lp sp c j) :=
          fun t u h2 z ht => .inr ⟨t, u, _, rfl, ht, .inr ⟨1 + k, by omega, by omega, z⟩⟩
        have nk : 0 < WK.lp sp c (1 + k) → (∃ t u v, b = .ref t ∧ h' t = some (.tup [.int u, .int v])) → BestOk h' b ((∃ (c' : Bool) (j : Int), bIx c' < bIx c ∧ 1 ≤ j ∧ j < sp.length ∧ 0 < WK.lp sp c' j) ∨ ∃ j : Int, 1 ≤ j ∧ j < 1 + ((k + 1 : Nat) : Int) ∧ 0 < WK.lp sp c j) :=
          fun z ⟨t, u, v, eb, ht⟩ => .inr ⟨t, u, v, eb, ht, .inr ⟨1 + k, by omega, by omega, z⟩⟩
        clear rest
        cases c
        · walk_at "go"
          refine r_ite (fun z => ?_) (fun z => ?_)
          · rcases hb with ⟨rfl, hS⟩ | ⟨t, u, v, rfl, ht, hS⟩
            · walk_at "go"
              refine r_yes rfl ?_
              walk_at "go"
              refine r_newT (len3 rfl) fun t H3 _ e5 ht => ?_
              exact ⟨⟨_, _, _, rfl, ny t _ H3 z ht⟩, e4.trans e5⟩
            · walk_at "go"
              refine r_no (fun z => by cases z) ?_
              walk_at "go"
              refine r_ite (fun z2 => ?_) (fun z2 => ?_)
              · walk_at "go"
                refine r_newT (len3 rfl) fun t H3 _ e5 ht => ?_
                exact ⟨⟨_, _, _, rfl, ny t _ H3 z ht⟩, e4.trans e5⟩
              · refine r_next ⟨⟨_, _, _, rfl, nk z ⟨_, _, _, rfl, ht⟩⟩, e4⟩
          · walk_at "go"
            exact ⟨⟨_, _, _, rfl, nx z⟩, e4⟩
        · walk_at "go"
          refine r_ite (fun z => ?_) (fun z => ?_)
          · rcases hb with ⟨rfl, hS⟩ | ⟨t, u, v, rfl, ht, hS⟩
            · walk_at "go"
              refine r_yes rfl ?_
              walk_at "go"
              refine r_newT (len3 rfl) fun t H3 _ e5 ht => ?_
              exact ⟨⟨_, _, _, rfl, ny t _ H3 z ht⟩, e4.trans e5⟩
            · walk_at "go"
              refine r_no (fun z => by cases z) ?_
              walk_at "go"
              refine r_ite (fun z2 => ?_) (fun z2 => ?_)
              · walk_at "go"
                refine r_newT (len3 rfl) fun t H3 _ e5 ht => ?_
                exact ⟨⟨_, _, _, rfl, ny t _ H3 z ht⟩, e4.trans e5⟩
              · refine r_next ⟨⟨_, _, _, rfl, nk z ⟨_, _, _, rfl, ht⟩⟩, e4⟩
          · walk_at "go"
            exact ⟨⟨_, _, _, rfl, nx z⟩, e4⟩
      · rintro s h' ⟨⟨b, v1, v5, rfl, hb⟩, e4⟩
        refine ⟨⟨_, _, _, _, rfl, hb.imp ⟨fun z => ?_, fun ⟨c', j, a, b, d, g⟩ => ?_⟩⟩, e3.trans e4⟩
        · rcases z with ⟨c', j, a, b, d, g⟩ | ⟨j, a, b, d⟩
          · exact ⟨c', j, by omega, b, d, g⟩
          · exact ⟨c, j, by omega, a, by omega, d⟩
        · by_cases ec : bIx c' < bIx c
          · exact .inl ⟨c', j, ec, b, d, g⟩
          · have e6 : c' = c := by
              cases c <;> cases c' <;> first | rfl | (exfalso; revert a ec; decide)
            rw [e6] at g
            exact .inr ⟨j, b, by omega, g⟩
    · rintro s h ⟨⟨b, v1, v4, v5, rfl, hb⟩, e3⟩
      have iff : (∃ (c : Bool) (j : Int), bIx c < [V.bl true, V.bl false].length ∧ 1 ≤ j ∧ j < sp.length ∧ 0 < WK.lp sp c j) ↔ WK.leapP sp := by
        rw [WK.leap_lp]
        exact ⟨fun ⟨c, j, _, a, b, d⟩ => ⟨c, j, a, b, d⟩, fun ⟨c, j, a, b, d⟩ => ⟨c, j, by cases c <;> decide, a, b, d⟩⟩
      walk_at "go"
      rcases hb with ⟨rfl, hS⟩ | ⟨t, u, v, rfl, ht, hS⟩
      · exact qn h (e.trans (e2.trans e3)) fun z => hS (iff.mpr z)
      · exact qy t h (e.trans (e2.trans e3)) (iff.mp hS)
/-! ### lines that hold, even lines -/
def mo (sp : Prs) : Nat → Int
  | 0 => 0
  | i + 1 => WK.top sp i
theorem mo_mx {sp : Prs} (ho : WK.Ok sp) {i : Nat} (h : i < sp.length) : mx (mo sp i) (zl sp i) = mo sp (i + 1) := by
  cases i with
  | zero =>
    have := (ho 0 (Int.le_refl _) (by omega)).1
    show (if zl sp 0 > 0 then zl sp 0 else 0) = zl sp 0
    split <;> omega
  | succ i => rfl
def spHeld (K : PySem.W.Frag) (CTable : Addr) : Sp := fun vs H Q _ => ∃ (x : Addr) (sp : Prs), vs = [.ref x] ∧ TabAt K CTable H x sp ∧ sp.length ≤ 64 ∧ WK.Ok sp ∧ (∀ H2, Ex H H2 → WK.fallP sp → Q .non H2) ∧
  (∀ l H2, H l = none → Ex H H2 → H2 l = some (.lst ((WK.heldL sp).map V.int)) → ¬ WK.fallP sp → Q (.ref l) H2)
abbrev s_held_lows : Stmt := top 21
theorem sc_held_lows : FnScope ["table", "found", "most", "low", "high"] ["table"] (defScope s_held_lows) := ⟨rfl, rfl, rfl, by decide +kernel, rfl, by decide +kernel, by decide +kernel⟩
theorem ok_held_lows (T : Txt K mg tkC tkH tkL ) (F : At K mg "held_lows" s_held_lows ["table"]) (o_Table : OC K mg "Table" CTable ["span_rows", "free_lines"]) (d_Table_spans : DM P w K mg base CTable "spans" 1 ["self"] (spSpans K CTable)) (d_fall_of : Def P w K mg base "fall_of" 2 ["table"] (spFall K CTable)) :
    Def P w K mg base "held_lows" 3 ["table"] (spHeld K CTable) := by
  refine Def.mk' F sc_held_lows (fun vs H Q E h => ?_) (fun f cdv Ar outer s H vs Q E hr h => ⟨_, (pss_cons (ps_if (pt_cmpR op_notN1 (pe_d d_fall_of (hr.mono (by decide)) (passes_call (takes_of rfl rfl rfl rfl) (fun _ _ _ _ h => h)) (pa_cons (pv 0) pa_nil)) pe_non (nomark _)) (pss_one (ps_ret pe_non)) pss_nil)
      (pss_cons (ps_set (i := 1) sc_held_lows.nd rfl (Or.inl rfl) (pe_lst pa_nil))
      (pss_cons (ps_set (i := 2) sc_held_lows.nd rfl (Or.inl rfl) pe_int)
      (pss_cons (ps_for (passes_of rfl) rfl (pi_list (pe_mD0 d_Table_spans o_Table.cl (hr.mono (by decide)) (passes_call (takes_of rfl rfl rfl rfl) (fun _ _ _ _ h => h)) (pv 0))) (pg_tup (n := 2) rfl (pgs_cons (pg_name (i := 3) sc_held_lows.nd rfl (Or.inl rfl)) (pgs_cons (pg_name (i := 4) sc_held_lows.nd rfl (Or.inl rfl)) pgs_nil))) (pss_cons (ps_set (i := 2) sc_held_lows.nd rfl (Or.inl rfl) (pe_callB (c_max2 rfl) rfl T.n_max (by decide +kernel) (pa_cons (pv 2) (pa_cons (pv 3) pa_nil))))
      (pss_one (ps_expr (pe_bm PySem.F.plainAttrs_list PySem.F.slot_list_append PySem.F.type_list_append mt_append (pv 1) (pa_cons (pv 2) pa_nil))))))
      (pss_one (ps_ret (pv 1))))))), ?_⟩)
  · obtain ⟨x, sp, rfl, _⟩ := h
    rfl
  · obtain ⟨x, sp, rfl, hT, h64, ho, qn, qy⟩ := h
    walk_at "go0"
    refine ⟨x, sp, rfl, hT, h64, fun H1 e1 nf => ?_, fun t H1 e1 hf => ?_⟩
    · walk_at "go"
      refine r_noN rfl ?_
      walk_at "go"
      refine r_newI0 fun f H2 n2 e2 hf => ?_
      walk_at "go"
      have hT2 := hT.ex (e1.trans e2)
      obtain ⟨dx, sl, ps0, fr, h1, h2, h3⟩ := id hT2
      refine r_rmth h1 rfl ?_
      walk_at "go"
      refine ⟨x, sp, rfl, hT2, fun p ps H3 n3 e3 hP => ?_⟩
      have npf : p ≠ f := by walk_at "ne"
      have hf3 := e3 _ _ hf
      refine forP hP (fun i s h => (∃ v3 v4, s = [some (.ref x), some (.ref f), some (.int (mo sp i)), v3, v4]) ∧ ExB f H3 h ∧ h f = some (.lst (((List.range i).map (WK.top sp)).map V.int))) ?_ ?_ ?_ ?_
      · exact ⟨⟨_, _, rfl⟩, ExB.refl _ _, hf3⟩
      · rintro i s h _ ⟨_, e, _⟩
        exact exb_l e npf hP.1
      · rintro i s h hi ⟨⟨v3, v4, rfl⟩, e, hf⟩
        have hP2 := hP.exb e npf (fun xs z => by rw [hf3] at z; cases z)
        have hp := hP2.2.2 i (by omega) (by omega)
        walk_at "go"
        refine r_appI hf (by rw [List.length_map, List.length_range]; omega) fun H5 e5 h5 f5 => ?_
        have em : (if zl sp i > mo sp i then zl sp i else mo sp i) = mo sp (i + 1) := mo_mx ho hi
        refine r_next ⟨⟨_, _, by rw [em]; rfl⟩, e.trans e5, ?_⟩
        rw [em] at h5
        rw [List.range_succ, List.map_append]
        exact h5
      · rintro s h ⟨⟨v3, v4, rfl⟩, e, hf⟩
        walk_at "go"
        exact qy f h (fresh_back e1 n2) ((e1.trans (Lay.ExB.ex (e2.trans e3) e n2))) hf nf
    · walk_at "go"
      refine r_yesN (fun z => by cases z) ?_
      walk_at "go"
      exact qn H1 e1 hf
def spEven (K : PySem.W.Frag) (CTable : Addr) : Sp := fun vs H Q _ => ∃ (x : Addr) (sp : Prs), vs = [.ref x] ∧ TabAt K CTable H x sp ∧ 2 ≤ sp.length ∧ sp.length ≤ 64 ∧ (∀ H2, Ex H H2 → WK.leapP sp → Q .non H2) ∧
  (∀ l H2, H l = none → Ex H H2 → H2 l = some (.lst ((WK.evL sp).map V.int)) → ¬ WK.leapP sp → Q (.ref l) H2)
abbrev s_even_lows : Stmt := top 22
theorem sc_even_lows : FnScope ["table", "cell"] ["table"] (defScope s_even_lows) := ⟨rfl, rfl, rfl, by decide +kernel, rfl, by decide +kernel, by decide +kernel⟩
theorem ok_even_lows (T : Txt K mg tkC tkH tkL ) (F : At K mg "even_lows" s_even_lows ["table"]) (o_Table : OC K mg "Table" CTable ["span_rows", "free_lines"]) (d_Table_cells : DM P w K mg base CTable "cells" 1 ["self"] (spCells K CTable)) (d_Table_low : DM P w K mg base CTable "low" 2 ["self", "cell"] (spLow K CTable))
    (d_leap_of : Def P w K mg base "leap_of" 2 ["kind"] (spLeap K CTable)) : Def P w K mg base "even_lows" 3 ["table"] (spEven K CTable) := by
  refine Def.mk' F sc_even_lows (fun vs H Q E h => ?_) (fun f cdv Ar outer s H vs Q E hr h => ⟨_, (pss_cons (ps_if (pt_cmpR op_notN1 (pe_d d_leap_of (hr.mono (by decide)) (passes_call (takes_of rfl rfl rfl rfl) (fun _ _ _ _ h => h)) (pa_cons (pv 0) pa_nil)) pe_non (nomark _)) (pss_one (ps_ret pe_non)) pss_nil)
      (pss_one (ps_ret (pe_lc (own := [("cell", 1)]) (g := gName 1) (tt := tYes) rfl sc_even_lows.nd (pi_range2 rfl T.n_range (pa_cons pe_int (pa_cons (pe_op op_add (pe_mD0 d_Table_cells o_Table.cl (hr.mono (by decide)) (passes_call (takes_of rfl rfl rfl rfl) (fun _ _ _ _ h => h)) (pv 0)) pe_int) pa_nil))) (blkOk_by (own := [("cell", 1)]) (N := ["table", "cell"]) (sc := defScope s_even_lows) (by decide +kernel)) (fun _ _ _ _ _ => (pg_name (i := 1) sc_even_lows.nd rfl (Or.inl rfl))) (fun _ _ _ _ _ => pts_nil) (fun _ _ _ _ _ => (pe_callB (c_max2 rfl) rfl T.n_max (by decide +kernel) (pa_cons (pe_mD d_Table_low o_Table.cl (hr.mono (by decide)) passL (pv 0) (pa_cons (pe_op op_sub (pv 1) pe_int) pa_nil)) (pa_cons (pe_mD d_Table_low o_Table.cl (hr.mono (by decide)) passL (pv 0) (pa_cons (pv 1) pa_nil)) pa_nil)))))))), ?_⟩)
  · obtain ⟨x, sp, rfl, _⟩ := h
    rfl
  · obtain ⟨x, sp, rfl, hT, h2, h64, qn, qy⟩ := h
    walk_at "go0"
    refine ⟨x, sp, rfl, hT, h64, fun H1 e1 nf => ?_, fun t H1 e1 hf => ?_⟩
    · have hT1 := hT.ex e1
      obtain ⟨dx, sl, ps0, fr, h1, hP, h3⟩ := id hT1
      walk_at "go"
      refine r_noN rfl ?_
      walk_at "go"
      refine r_rmth h1 rfl ?_
      walk_at "go"
      refine ⟨x, sp, rfl, hT1, ?_⟩
      walk_at "go"
      refine lcF2 (f := fun i : Nat => mx (zl sp i) (zl sp ((i + 1 : Nat) : Int))) ⟨by decide, by decide⟩ ⟨by omega, by omega⟩ (by omega) ?_ ?_ (fun _ => rfl)
      · intro k h R hk e k2
        have hT2 := hT1.ex e
        obtain ⟨dx, sl, ps0, fr, h1, hP, h3⟩ := id hT2
        walk_at "go"
        refine r_rmth h1 rfl ?_
        walk_at "go"
        refine ⟨x, sp, _, rfl, hT2, by omega, by omega, ?_⟩
        walk_at "go"
        refine r_rmth h1 rfl ?_
        walk_at "go"
        refine ⟨x, sp, _, rfl, hT2, by omega, by omega, ?_⟩
        walk_at "go"
        have a := k2 h (Ex.refl h)
        rw [show (2 : Int) + k - 1 - 1 = k by omega, show (2 : Int) + k - 1 = ((k + 1 : Nat) : Int) by omega]
        exact a
      · intro p h n e hp
        rw [show ((sp.length : Int) + 1 - 2).toNat = sp.length - 1 by omega] at hp
        walk_at "go"
        exact qy p h (fresh_back e1 n) (e1.trans e) hp nf
    · walk_at "go"
      refine r_yesN (fun z => by cases z) ?_
      walk_at "go"
      exact qn H1 e1 hf
def spLowT : Sp := fun vs H Q _ => ∃ (A L : Int), vs = [.int A, .int L] ∧ 0 ≤ A ∧ 1 ≤ L ∧ L ≤ 1000000000 ∧ ∀ t H2, Ex H H2 → H2 t = some (.tup [.int (A / (Nat.gcd A.toNat L.toNat : Nat)), .int (L / (Nat.gcd A.toNat L.toNat : Nat))]) → Q (.ref t) H2
abbrev s_in_lowest_terms : Stmt := top 23
theorem sc_in_lowest_terms : FnScope ["above", "below", "one", "other"] ["above", "below"] (defScope s_in_lowest_terms) := ⟨rfl, rfl, rfl, by decide +kernel, rfl, by decide +kernel, by decide +kernel⟩
theorem ok_lowest (T : Txt K mg tkC tkH tkL ) (F : At K mg "in_lowest_terms" s_in_lowest_terms ["above", "below"]) : Def P w K mg base "in_lowest_terms" 1 ["above", "below"] spLowT := by
  refine Def.mk' F sc_in_lowest_terms (fun vs H Q E h => ?_) (fun f cdv Ar outer s H vs Q E hr h => ⟨_, (pss_cons (ps_set (i := 2) sc_in_lowest_terms.nd rfl (Or.inl rfl) (pv 0))
      (pss_cons (ps_set (i := 3) sc_in_lowest_terms.nd rfl (Or.inl rfl) (pv 1))
      (pss_cons (ps_while (passes_of rfl) (pt_cmpR op_gt (pv 2) pe_int (nomark _)) (pss_one (ps_par (i := 2) (j := 3) rfl sc_in_lowest_terms.nd rfl rfl (by decide) rfl rfl (pa_cons (pe_op op_mod (pv 3) (pv 2)) (pa_cons (pv 2) pa_nil)) rfl)))
      (pss_one (ps_ret (pe_tup (pa_cons (pe_op op_fdivN (pv 0) (pv 3)) (pa_cons (pe_op op_fdivN (pv 1) (pv 3)) pa_nil)))))))), ?_⟩)
  · obtain ⟨A, L, rfl, _⟩ := h
    rfl
  · obtain ⟨A, L, rfl, hA, hL, hL2, q⟩ := h
    obtain ⟨n, rfl⟩ : ∃ n : Nat, A = n := ⟨A.toNat, by omega⟩
    obtain ⟨m, rfl⟩ : ∃ m : Nat, L = m := ⟨L.toNat, by omega⟩
    rw [Int.toNat_natCast, Int.toNat_natCast] at q
    have gp : 0 < Nat.gcd n m := Nat.gcd_pos_of_pos_right _ (by omega)
    walk_at "go0"
    refine r_while (fun k s h => ∃ (a b : Nat), s = [some (.int n), some (.int m), some (.int a), some (.int b)] ∧ h = H ∧ k = a ∧ Nat.gcd a b = Nat.gcd n m) n ⟨n, m, rfl, rfl, rfl, rfl⟩ ?_
    rintro k s h ⟨a, b, rfl, rfl, rfl, hg⟩
    walk_at "go"
    refine whB (fun c => ?_) (fun c => ?_)
    · walk_at "go"
      refine ⟨b % k, Nat.mod_lt _ (by omega), b % k, k, by rw [Int.natCast_emod]; rfl, rfl, rfl, ?_⟩
      rw [← Nat.gcd_rec]
      exact hg
    · have a0 : k = 0 := by omega
      subst a0
      rw [Nat.gcd_zero_left] at hg
      subst hg
      have gl : Nat.gcd n m ≤ m := Nat.gcd_le_right _ (by omega)
      walk_at "go"
      refine r_newT (len3 rfl) fun t H2 _ e ht => ?_
      rw [Int.fdiv_eq_ediv_of_nonneg _ (by omega), Int.fdiv_eq_ediv_of_nonneg _ (by omega)] at ht
      exact q t H2 e ht
def spEvenAt (K : PySem.W.Frag) (CTable CRuler : Addr) : Sp := fun vs H Q _ => ∃ (x y : Addr) (sp : Prs) (hs : List Int) (line : Int), vs = [.ref x, .ref y, .int line] ∧ TabAt K CTable H x sp ∧ RulerAt CRuler H y hs ∧ WK.Ok sp ∧ 2 ≤ sp.length ∧ sp.length ≤ 64 ∧ WK.HOk hs ∧ (∀ z ∈ hs, z ≤ 1000000000) ∧
  hs.length < sp.length ∧ 0 ≤ line ∧ (∀ H2, Ex H H2 → WK.leapP sp → Q .non H2) ∧ (∀ t H2 a b, Ex H H2 → H2 t = some (.tup [.int a, .int b]) → ¬ WK.leapP sp → WK.ValOk sp hs line a b → Q (.ref t) H2)
abbrev s_even_at : Stmt := top 24
theorem sc_even_at : FnScope ["table", "ruler", "line", "lows", "cell", "here", "lines", "above"] ["table", "ruler", "line"] (defScope s_even_at) := ⟨rfl, rfl, rfl, by decide +kernel, rfl, by decide +kernel, by decide +kernel⟩
theorem ok_even_at (T : Txt K mg tkC tkH tkL ) (F : At K mg "even_at" s_even_at ["table", "ruler", "line"]) (o_Table : OC K mg "Table" CTable ["span_rows", "free_lines"]) (o_Ruler : OC K mg "Ruler" CRuler ["height_list", "edge_list"]) (d_Table_low : DM P w K mg base CTable "low" 2 ["self", "cell"] (spLow K CTable))
    (d_even_lows : Def P w K mg base "even_lows" 3 ["table"] (spEven K CTable)) (d_Ruler_many : DM P w K mg base CRuler "many" 1 ["self"] (spMany CRuler)) (d_Ruler_cell : DM P w K mg base CRuler "cell" 1 ["self", "line"] (spCellOf CRuler))
    (d_Ruler_first : DM P w K mg base CRuler "first" 3 ["self", "cell"] (spFirst CRuler)) (d_in_lowest_terms : Def P w K mg base "in_lowest_terms" 1 ["above", "below"] spLowT) : Def P w K mg base "even_at" 4 ["table", "ruler", "line"] (spEvenAt K CTable CRuler) := by
  refine Def.mk' F sc_even_at (fun vs H Q E h => ?_) (fun f cdv Ar outer s H vs Q E hr h => ⟨_, (pss_cons (ps_set (i := 3) sc_even_at.nd rfl (Or.inl rfl) (pe_d d_even_lows (hr.mono (by decide)) (passes_call (takes_of rfl rfl rfl rfl) (fun _ _ _ _ h => h)) (pa_cons (pv 0) pa_nil)))
      (pss_cons (ps_if (pt_cmpR op_isN1 (pv 3) pe_non (nomark _)) (pss_one (ps_ret pe_non)) pss_nil)
      (pss_cons (ps_if (pt_cmpR op_eq (pe_mD0 d_Ruler_many o_Ruler.cl (hr.mono (by decide)) (passes_call (takes_of rfl rfl rfl rfl) (fun _ _ _ _ h => h)) (pv 1)) pe_int (nomark _)) (pss_one (ps_ret (pe_tup (pa_cons (pe_mD d_Table_low o_Table.cl (hr.mono (by decide)) (passes_call (takes_of rfl rfl rfl rfl) (fun _ _ _ _ h => h)) (pv 0) (pa_cons pe_int pa_nil)) (pa_cons pe_int pa_nil))))) pss_nil)
      (pss_cons (ps_set (i := 4) sc_even_at.nd rfl (Or.inl rfl) (pe_mD d_Ruler_cell o_Ruler.cl (hr.mono (by decide)) (passes_call (takes_of rfl rfl rfl rfl) (fun _ _ _ _ h => h)) (pv 1) (pa_cons (pv 2) pa_nil)))
      (pss_cons (ps_if (pt_cmpR op_eq (pv 4) pe_int (nomark _)) (pss_one (ps_ret (pe_tup (pa_cons (pe_ix (r := rIxL K) ix_list (pv 3) pe_int (fun _ _ => rfl)) (pa_cons pe_int pa_nil))))) pss_nil)
      (pss_cons (ps_set (i := 5) sc_even_at.nd rfl (Or.inl rfl) (pe_ix (r := rIxL K) ix_list (pv 3) (pe_op op_sub (pv 4) pe_int) (fun _ _ => rfl)))
      (pss_cons (ps_if (pt_cmpR op_eq (pv 4) (pe_mD0 d_Ruler_many o_Ruler.cl (hr.mono (by decide)) (passes_call (takes_of rfl rfl rfl rfl) (fun _ _ _ _ h => h)) (pv 1)) (nomark _)) (pss_one (ps_ret (pe_tup (pa_cons (pv 5) (pa_cons pe_int pa_nil))))) pss_nil)
      (pss_cons (ps_set (i := 6) sc_even_at.nd rfl (Or.inl rfl) (pe_op op_sub (pe_mD d_Ruler_first o_Ruler.cl (hr.mono (by decide)) (passes_call (takes_of rfl rfl rfl rfl) (fun _ _ _ _ h => h)) (pv 1) (pa_cons (pe_op op_add (pv 4) pe_int) pa_nil)) (pe_mD d_Ruler_first o_Ruler.cl (hr.mono (by decide)) (passes_call (takes_of rfl rfl rfl rfl) (fun _ _ _ _ h => h)) (pv 1) (pa_cons (pv 4) pa_nil))))
      (pss_cons (ps_set (i := 7) sc_even_at.nd rfl (Or.inl rfl) (pe_op op_add (pe_op op_mul (pv 5) (pv 6)) (pe_op op_mul (pe_op op_sub (pe_ix (r := rIxL K) ix_list (pv 3) (pe_op op_sub (pv 4) pe_int) (fun _ _ => rfl)) (pv 5)) (pe_op op_sub (pv 2) (pe_mD d_Ruler_first o_Ruler.cl (hr.mono (by decide)) (passes_call (takes_of rfl rfl rfl rfl) (fun _ _ _ _ h => h)) (pv 1) (pa_cons (pv 4) pa_nil))))))
      (pss_one (ps_ret (pe_d d_in_lowest_terms (hr.mono (by decide)) (passes_call (takes_of rfl rfl rfl rfl) (fun _ _ _ _ h => h)) (pa_cons (pv 7) (pa_cons (pv 6) pa_nil)))))))))))))), ?_⟩)
  · obtain ⟨x, y, sp, hs, line, rfl, _⟩ := h
    rfl
  · obtain ⟨x, y, sp, hs, line, rfl, hT, hR, ho, h2, h64, hh, hm, hlt, hl0, qn, qy⟩ := h
    walk_at "go0"
    refine ⟨x, sp, rfl, hT, h2, h64, fun H1 e1 hf => ?_, fun l H1 nl e1' hl nf => ?_⟩
    · walk_at "go"
      refine r_yes rfl ?_
      walk_at "go"
      exact qn H1 e1 hf
    have e1 := e1'
    have hT1 := hT.ex e1
    have hR1 := hR.ex e1
    obtain ⟨dx, sl, ps0, fr, h1, hP, h3⟩ := id hT1
    obtain ⟨dy, hl1, el1, g1, g2, g3⟩ := id hR1
    obtain ⟨cn, clo, chi⟩ := WK.cnt_spec hh line
    have el := WK.evL_len sp
    walk_at "go"
    refine r_no (fun z => by cases z) ?_
    walk_at "go"
    refine r_rmth g1 rfl ?_
    walk_at "go"
    refine ⟨y, hs, rfl, hR1, ?_⟩
    walk_at "go"
    refine r_ite (fun c => ?_) (fun c => ?_)
    · have hz : hs.length = 0 := by omega
      walk_at "go"
      refine r_rmth h1 rfl ?_
      walk_at "go"
      refine ⟨x, sp, _, rfl, hT1, by decide, by omega, ?_⟩
      walk_at "go"
      refine r_newT (len3 rfl) fun t H2 _ e2 ht => ?_
      have o := ho 0 (Int.le_refl _) (by omega)
      refine qy t H2 _ _ (e1.trans e2) ht nf (WK.val_one o.1 (by unfold WK.due; rw [if_pos hz]; rfl) ?_ ?_)
      · rw [hz]; exact Int.le_refl _
      · rw [hz]; exact o.2
    walk_at "go"
    refine r_rmth g1 rfl ?_
    walk_at "go"
    refine ⟨y, hs, line, rfl, hR1, hh, by omega, ?_⟩
    walk_at "go"
    refine r_ite (fun c1 => ?_) (fun c1 => ?_)
    · have hz : WK.cnt hs line hs.length = 0 := by omega
      walk_at "go"
      refine r_newT (len3 rfl) fun t H2 _ e2 ht => ?_
      rw [WK.evL_at (by decide) (by omega)] at ht
      have o := ho 0 (Int.le_refl _) (by omega)
      have b := WK.eL_in ho nf (i := 0) (by decide) (by omega)
      refine qy t H2 _ _ (e1.trans e2) ht nf (WK.val_one (by show 0 ≤ WK.eL sp 0; omega) (by unfold WK.due; rw [if_neg (by omega), if_pos hz]; rfl) ?_ ?_)
      · rw [hz]; exact b.1
      · rw [hz]; exact b.2.1
    walk_at "go"
    rw [WK.evL_at (i := (WK.cnt hs line hs.length : Int) + 1 - 2) (by omega) (by omega)]
    refine r_rmth g1 rfl ?_
    walk_at "go"
    refine ⟨y, hs, rfl, hR1, ?_⟩
    walk_at "go"
    refine r_ite (fun c2 => ?_) (fun c2 => ?_)
    · have hz : WK.cnt hs line hs.length = hs.length := by omega
      walk_at "go"
      refine r_newT (len3 rfl) fun t H2 _ e2 ht => ?_
      rw [hz, show (hs.length : Int) + 1 - 2 = hs.length - 1 by omega] at ht
      have o := ho (hs.length - 1) (by omega) (by omega)
      have b := WK.eL_in ho nf (i := hs.length - 1) (by omega) (by omega)
      rw [show (hs.length : Int) - 1 + 1 = hs.length by omega] at b
      refine qy t H2 _ _ (e1.trans e2) ht nf (WK.val_one (v := WK.eL sp (hs.length - 1)) (by omega) (by unfold WK.due; rw [if_neg (by omega), if_neg (by omega), if_pos hz]) ?_ ?_)
      · rw [hz]; exact b.2.2.1
      · rw [hz]; exact b.2.2.2
    have hc : WK.cnt hs line hs.length < hs.length := by omega
    walk_at "go"
    refine r_rmth g1 rfl ?_
    walk_at "go"
    refine ⟨y, hs, _, rfl, hR1, by omega, by omega, ?_⟩
    walk_at "go"
    refine r_rmth g1 rfl ?_
    walk_at "go"
    refine ⟨y, hs, _, rfl, hR1, by omega, by omega, ?_⟩
    walk_at "go"
    generalize hcc : WK.cnt hs line hs.length = c0 at *
    have hL : gi hs c0 = hs[c0] := by
      unfold gi
      rw [Int.toNat_natCast, List.getD_eq_getElem?_getD, List.getElem?_eq_getElem hc]
      rfl
    have l1 : 1 ≤ gi hs c0 := by rw [hL]; exact hh _ (List.getElem_mem hc)
    have l2 : gi hs c0 ≤ 1000000000 := by rw [hL]; exact hm _ (List.getElem_mem hc)
    have ts : (hs.take (c0 + 1)).sum = (hs.take c0).sum + gi hs c0 := by rw [hL]; exact (take_sum hc).symm
    have e1 : (hs.take ((c0 : Int) + 1 + 1 - 1).toNat).sum - (hs.take ((c0 : Int) + 1 - 1).toNat).sum = gi hs c0 := by
      rw [show ((c0 : Int) + 1 + 1 - 1).toNat = c0 + 1 by omega, show ((c0 : Int) + 1 - 1).toNat = c0 by omega, ts]
      omega
    have p0 : (hs.take c0).sum ≤ line := by
      have a := clo (c0 - 1) (by omega)
      unfold WK.ed at a
      rw [show c0 - 1 + 1 = c0 by omega] at a
      exact a
    have p1 : line < (hs.take c0).sum + gi hs c0 := by
      have a := chi c0 (Nat.le_refl _) hc
      unfold WK.ed at a
      rw [ts] at a
      exact a
    rw [e1]
    walk_at "go"
    rw [WK.evL_at (i := (c0 : Int) + 1 - 1) (by omega) (by omega)]
    refine r_rmth g1 rfl ?_
    walk_at "go"
    refine ⟨y, hs, _, rfl, hR1, by omega, by omega, ?_⟩
    rw [show ((c0 : Int) + 1 - 1).toNat = c0 by omega]
    walk_at "go"
    have b1 := WK.eL_in ho nf (i := (c0 : Int) - 1) (by omega) (by omega)
    have b2 := WK.eL_in ho nf (i := (c0 : Int)) (by omega) (by omega)
    rw [show (c0 : Int) - 1 + 1 = c0 by omega] at b1
    have f1 : mx (zl sp ((c0 : Int) + 1 - 2)) (zl sp ((c0 : Int) + 1 - 2 + 1)) = WK.eL sp ((c0 : Int) - 1) := by
      unfold WK.eL
      rw [show (c0 : Int) + 1 - 2 = c0 - 1 by omega]
    have f2 : mx (zl sp ((c0 : Int) + 1 - 1)) (zl sp ((c0 : Int) + 1 - 1 + 1)) = WK.eL sp (c0 : Int) := by
      unfold WK.eL
      rw [show (c0 : Int) + 1 - 1 = c0 by omega]
    rw [f1, f2, WK.lin]
    have bt := WK.between (p := line - (hs.take c0).sum) (h := gi hs c0) (by omega) (by omega) b1.2.2.1 b2.1 b1.2.2.2 b2.2.1
    have o := ho c0 (by omega) (by omega)
    have nn : 0 ≤ zl sp c0 * gi hs c0 := Int.mul_nonneg o.1 (by omega)
    refine ⟨_, _, rfl, by omega, l1, l2, fun t H2 e2 ht => ?_⟩
    refine qy t H2 _ _ (e1'.trans e2) ht nf (WK.val_low (by omega) l1 l2 ?_ ?_ ?_)
    · unfold WK.due
      rw [hcc, if_neg (by omega), if_neg (by omega), if_neg (by omega)]
    · rw [hcc]; exact bt.1
    · rw [hcc]; exact bt.2
end
end K16
namespace K16
open PySem PySem.Spec PyProof.Rows L2 Evl Lay
section
variable {P : Program} {w : World} {K : PySem.W.Frag} {mg : Str → Option Value} {base : Heap} {CRuler CTable CBlock : Addr} {tkC tkH tkL : Tok}
/-! ### the law's own -/
def spPurse (K : PySem.W.Frag) : Sp := fun vs H Q _ => ∃ (a : Addr) (ns : List Int) (i : Int), vs = [.ref a, .int i] ∧ SqL K H a (ns.map V.int) ∧ 0 ≤ i ∧ ns.length ≤ 63 ∧ ∀ p H2, H p = none → Ex H H2 → Pur H2 p → Q (.ref p) H2
abbrev s__law_purse : Stmt := top 28
theorem sc__law_purse : FnScope ["script", "at", "cell", "size", "one"] ["script", "at"] (defScope s__law_purse) := ⟨rfl, rfl, rfl, by decide +kernel, rfl, by decide +kernel, by decide +kernel⟩
theorem ok_purse (T : Txt K mg tkC tkH tkL ) (F : At K mg "_law_purse" s__law_purse ["script", "at"]) : Def P w K mg base "_law_purse" 1 ["script", "at"] (spPurse K) := by
  refine Def.mk' F sc__law_purse (fun vs H Q E h => ?_) (fun f cdv Ar outer s H vs Q E hr h => ⟨_, (pss_cons (ps_set (i := 2) sc__law_purse.nd rfl (Or.inl rfl) (pe_ifExp (pt_cmpR op_lt (pv 1) (pe_callB (r := Lay.rLen K) c_len rfl T.n_len PySem.boot_len (pa_cons (pv 0) pa_nil)) (nomark _)) (pe_callTy c_int rfl T.n_int (by decide +kernel) (pa_cons (pe_ix (r := rIxL K) ix_list (pv 0) (pv 1) (fun _ _ => rfl)) pa_nil)) (pe_op op_mul pe_int (pe_callB (r := rSum K) (cr_sum rfl) rfl T.n_sum (by decide +kernel) (pa_cons (pe_lc (own := [("one", 4)]) (g := gName 4) (tt := tYes) rfl sc__law_purse.nd (pi_list (pe_slice (r := rSlL K) sl_list (pv 0) po_none (po_some pe_int))) (blkOk_by (own := [("one", 4)]) (N := ["script", "at", "cell", "size", "one"]) (sc := defScope s__law_purse) (by decide +kernel)) (fun _ _ _ _ _ => (pg_name (i := 4) sc__law_purse.nd rfl (Or.inl rfl))) (fun _ _ _ _ _ => pts_nil) (fun _ _ _ _ _ => (pe_callTy c_int rfl T.n_int (by decide +kernel) (pa_cons (pv 4) pa_nil)))) pa_nil)))))
      (pss_cons (ps_set (i := 3) sc__law_purse.nd rfl (Or.inl rfl) (pe_op op_add (pe_op op_mul pe_int (pe_callB c_abs rfl T.n_abs (by decide +kernel) (pa_cons (pv 2) pa_nil))) (pe_ifExp (pt_cmpR op_lt (pv 2) pe_int (nomark _)) pe_int pe_int)))
      (pss_one (ps_ret (pe_lst (pa_cons (pe_ifExp (pt_cmpR op_ge (pv 3) (pe_op op_pow pe_int pe_int) (nomark _)) (pv 3) pe_int) (pa_cons (pe_op op_mod (pe_callTy c_int rfl T.n_int (by decide +kernel) (pa_cons (pe_op op_add (pe_op op_add (pv 3) (pe_op op_mul (pv 1) pe_int)) pe_int) pa_nil)) pe_int) (pa_cons (pv 1) pa_nil)))))))), ?_⟩)
  · obtain ⟨a, ns, i, rfl, _⟩ := h
    rfl
  · obtain ⟨a, ns, i, rfl, ha, h0, hl, q⟩ := h
    walk_at "go0"
    refine r_K (fun Q' k => ?_) (fun c H1 e1 => ?_)
    · refine r_tIf ?_
      walk_at "go"
      refine r_ite (fun c => ?_) (fun c => ?_)
      · walk_at "go"
        exact k _ H (Ex.refl H)
      · walk_at "go"
        refine r_slL ha fun p H1 hp e1 h1 => ?_
        rw [cut_ints] at h1
        walk_at "go"
        refine lcI (by walk_at "sq") (fun l i h => ∃ zs : List Int, zs.length = i ∧ h l = some (.lst (zs.map V.int)) ∧ Ex H1 h ∧ H1 l = none) ?_ ?_ ?_ ?_ (fun _ => rfl)
        · exact fun l h hl e hn => ⟨[], rfl, hn, e, hl⟩
        · intro l i h _ ⟨zs, _, _, e, _⟩
          walk_at "sq"
        · intro l i z h hz ⟨zs, hi, hl, e, ln⟩
          walk_at "go"
          have hm : i < 64 := by
            have a := (List.getElem?_eq_some_iff.mp hz).1
            rw [List.length_take, List.length_drop] at a
            omega
          exact appW hl (by rw [List.length_map]; omega) fun H5 e5 h5 => ⟨zs ++ [z], by rw [List.length_append, hi]; rfl, by rw [List.map_append]; exact h5, ExB.ex e e5 ln, ln⟩
        · intro l h ⟨zs, _, hl, e, _⟩
          walk_at "go"
          refine r_sum (by walk_at "sq") ?_
          walk_at "go"
          exact k _ h (e1.trans e)
    · walk_at "go"
      refine r_K (fun Q' k => ?_) (fun c3 H3 e3 => ?_)
      · refine r_tIf ?_
        walk_at "go"
        refine r_ite (fun _ => ?_) (fun _ => ?_)
        · walk_at "go"
          exact k _ H1 (Ex.refl H1)
        · walk_at "go"
          exact k _ H1 (Ex.refl H1)
      walk_at "go"
      exact r_newL (len3 rfl) fun p H4 hp e4 h4 => q p H4 (fresh_back (e1.trans e3) hp) (e1.trans (e3.trans e4)) ⟨_, _, _, h4⟩
def spDraw : Sp := fun vs H Q _ => ∃ (p : Addr) (n : Int), vs = [.ref p, .int n] ∧ 0 < n ∧ n < 1073741824 ∧ Pur H p ∧ ∀ r H2, 0 ≤ r → r < n → ExB p H H2 → Pur H2 p → Q (.int r) H2
abbrev s__law_draw : Stmt := top 29
theorem sc__law_draw : FnScope ["purse", "many", "found"] ["purse", "many"] (defScope s__law_draw) := ⟨rfl, rfl, rfl, by decide +kernel, rfl, by decide +kernel, by decide +kernel⟩
theorem ok_draw (T : Txt K mg tkC tkH tkL ) (F : At K mg "_law_draw" s__law_draw ["purse", "many"]) : Def P w K mg base "_law_draw" 1 ["purse", "many"] spDraw := by
  refine Def.mk' F sc__law_draw (fun vs H Q E h => ?_) (fun f cdv Ar outer s H vs Q E hr h => ⟨_, (pss_cons (ps_if (pt_cmpR op_gt (pe_ix (r := rIxL K) ix_list (pv 0) pe_int (fun _ _ => rfl)) pe_int (nomark _)) (pss_cons (ps_set (i := 2) sc__law_draw.nd rfl (Or.inl rfl) (pe_op op_mod (pe_callTy c_int rfl T.n_int (by decide +kernel) (pa_cons (pe_ix (r := rIxL K) ix_list (pv 0) pe_int (fun _ _ => rfl)) pa_nil)) (pv 1)))
      (pss_cons (ps_asg (pe_op op_fdivN (pe_ix (r := rIxL K) ix_list (pv 0) pe_int (fun _ _ => rfl)) (pv 1)) (pg_sub (pv 0) pe_int set_list))
      (pss_one (ps_ret (pv 2))))) pss_nil)
      (pss_cons (ps_augS (pv 0) pe_int get_list pe_int ip_add set_list)
      (pss_cons (ps_asg (pe_op op_mod (pe_callTy c_int rfl T.n_int (by decide +kernel) (pa_cons (pe_op op_add (pe_op op_mul (pe_ix (r := rIxL K) ix_list (pv 0) pe_int (fun _ _ => rfl)) pe_int) (pe_op op_mul (pe_ix (r := rIxL K) ix_list (pv 0) pe_int (fun _ _ => rfl)) pe_int)) pa_nil)) pe_int) (pg_sub (pv 0) pe_int set_list))
      (pss_one (ps_ret (pe_op op_mod (pe_op op_fdiv (pe_op op_mod (pe_callTy c_int rfl T.n_int (by decide +kernel) (pa_cons (pe_op op_add (pe_op op_mul (pe_ix (r := rIxL K) ix_list (pv 0) pe_int (fun _ _ => rfl)) pe_int) (pe_op op_mul (pe_ix (r := rIxL K) ix_list (pv 0) pe_int (fun _ _ => rfl)) pe_int)) pa_nil)) pe_int) pe_int) (pv 1))))))), ?_⟩)
  · obtain ⟨p, n, rfl, _⟩ := h
    rfl
  · obtain ⟨p, n, rfl, h0, h1, ⟨a, b, c, hp⟩, q⟩ := h
    walk_at "go0"
    refine r_ite (fun c => ?_) (fun c => ?_)
    · walk_at "go"
      refine r_setL hp (by decide) (by simp) fun H2 e2 h2 _ => ?_
      walk_at "go"
      exact q _ H2 (Int.emod_nonneg _ (by omega)) (Int.emod_lt_of_pos _ h0) e2 ⟨_, _, _, h2⟩
    · walk_at "go"
      refine r_setL hp (by decide) (by simp) fun H2 e2 h2 _ => ?_
      walk_at "go"
      refine r_setL h2 (by decide) (by simp) fun H3 e3 h3 _ => ?_
      walk_at "go"
      exact q _ H3 (Int.emod_nonneg _ (by omega)) (Int.emod_lt_of_pos _ h0) (e2.trans e3) ⟨_, _, _, h3⟩
end
end K16
namespace K16
open PySem PySem.Spec PyProof.Rows L2 Evl Lay
section
variable {P : Program} {w : World} {K : PySem.W.Frag} {mg : Str → Option Value} {base : Heap} {CRuler CTable CBlock : Addr} {tkC tkH tkL : Tok}
/-! ### the law's rows -/
def RowAt (K : PySem.W.Frag) (H : Hp) (r : Addr) (sp : Prs) (fr : Int) : Prop := ∃ a ps, H r = some (.tup [.str "table", .ref a, .int fr]) ∧ PB H a ps sp
theorem RowAt.ex {K : PySem.W.Frag} {H H2 : Hp} {r : Addr} {sp : Prs} {fr : Int} (h : RowAt K H r sp fr) (e : Ex H H2) : RowAt K H2 r sp fr := by
  obtain ⟨a, ps, h1, h2⟩ := h
  exact ⟨a, ps, e _ _ h1, h2.ex e⟩
theorem RowAt.pur {K : PySem.W.Frag} {H H2 : Hp} {r p : Addr} {sp : Prs} {fr : Int} (h : RowAt K H r sp fr) (hp : Pur H p) (e : ExB p H H2) (n : 0 < sp.length) : RowAt K H2 r sp fr := by
  obtain ⟨a, ps, h1, h2⟩ := h
  have np : a ≠ p := fun z => by
    obtain ⟨u, v, w, hp⟩ := hp
    have x := h2.1
    rw [z, hp] at x
    cases ps with
    | nil => exact absurd h2.2.1 (by show ¬ 0 = sp.length; omega)
    | cons b ps => cases x
  exact ⟨a, ps, e _ _ (fun z => hp.nt _ (by rw [← z]; exact h1)) h1, h2.exb e np hp.nt⟩
def spCouples : Sp := fun vs H Q _ => ∃ (n : Int), vs = [.int n] ∧ 0 ≤ n ∧ n ≤ 64 ∧ ∀ l qs cs H2, H l = none → Ex H H2 → PB H2 l qs cs → cs.length ≤ 5000 → (∀ a b : Int, (a, b) ∈ cs ↔ 0 ≤ a ∧ a < b ∧ b < n) → Q (.ref l) H2
abbrev s__law_couples : Stmt := top 32
theorem sc__law_couples : FnScope ["many", "found", "width", "place"] ["many"] (defScope s__law_couples) := ⟨rfl, rfl, rfl, by decide +kernel, rfl, by decide +kernel, by decide +kernel⟩
theorem ok_couples (T : Txt K mg tkC tkH tkL ) (F : At K mg "_law_couples" s__law_couples ["many"]) : Def P w K mg base "_law_couples" 1 ["many"] spCouples := by
  refine Def.mk' F sc__law_couples (fun vs H Q E h => ?_) (fun f cdv Ar outer s H vs Q E hr h => ⟨_, (pss_cons (ps_set (i := 1) sc__law_couples.nd rfl (Or.inl rfl) (pe_lst pa_nil))
      (pss_cons (ps_for (passes_of rfl) rfl (pi_range2 rfl T.n_range (pa_cons pe_int (pa_cons (pv 0) pa_nil))) (pg_name (i := 2) sc__law_couples.nd rfl (Or.inr rfl)) (pss_one (ps_set (i := 1) sc__law_couples.nd rfl (Or.inl rfl) (pe_op op_cat (pv 1) (pe_lc (own := [("place", 3)]) (g := gName 3) (tt := tYes) rfl sc__law_couples.nd (pi_range1 rfl T.n_range (pa_cons (pe_op op_sub (pv 0) (pv 2)) pa_nil)) (blkOk_by (own := [("place", 3)]) (N := ["many", "found", "width", "place"]) (sc := defScope s__law_couples) (by decide +kernel)) (fun _ _ _ _ _ => (pg_name (i := 3) sc__law_couples.nd rfl (Or.inl rfl))) (fun _ _ _ _ _ => pts_nil) (fun _ _ _ _ _ => (pe_tup (pa_cons (pv 3) (pa_cons (pe_op op_add (pv 3) (pv 2)) pa_nil)))))))))
      (pss_one (ps_ret (pv 1))))), ?_⟩)
  · obtain ⟨n, rfl, _⟩ := h
    rfl
  · obtain ⟨n, rfl, h0, h64, q⟩ := h
    walk_at "go0"
    refine r_newI0 fun l H1 n1 e1 hl => ?_
    walk_at "go"
    refine forR2 ⟨by decide, by decide⟩ ⟨by omega, by omega⟩ (fun k s h => ∃ l v2 v3 qs cs, s = [some (.int n), some (.ref l), v2, v3] ∧ Ex H h ∧ H l = none ∧ PB h l qs cs ∧ cs.length ≤ 64 * k ∧ ∀ a b : Int, (a, b) ∈ cs ↔ 0 ≤ a ∧ a < b ∧ b - a < 1 + k ∧ b < n) ?_ ?_ ?_
    · exact ⟨l, _, _, [], [], rfl, e1, n1, PB.nil hl, Nat.le_refl _, fun a b => ⟨fun z => (List.not_mem_nil z).elim, fun ⟨_, _, _, _⟩ => by omega⟩⟩
    · rintro k s h hk ⟨l, v2, v3, qs, cs, rfl, e, nl, hB, hc, hm⟩
      walk_at "go"
      refine lcR1 (by omega) (by omega) (fun p i h' => ∃ rs, PB h' p rs ((List.range i).map fun j : Nat => ((j : Int), (j : Int) + (1 + k))) ∧ Ex h h' ∧ h p = none) ?_ ?_ ?_ (fun _ => rfl)
      · exact fun p h' np e' hp => ⟨[], PB.nil hp, e', np⟩
      · rintro p i h' hi ⟨rs, hB', e', np⟩
        walk_at "go"
        refine r_newT (len3 rfl) fun t H3 nt e3 ht => ?_
        refine hB'.appW (by rw [hB'.2.1, List.length_map, List.length_range]; omega) e3 ht fun H5 e5 b5 => ⟨rs ++ [t], ?_, ExB.ex (e'.trans e3) e5 np, np⟩
        rw [List.range_succ, List.map_append]
        exact b5
      · rintro p h' ⟨rs, hB', e', np⟩
        have hl2 := hB'.2.1
        rw [List.length_map, List.length_range] at hl2
        have hl1 := hB.2.1
        walk_at "go"
        refine (hB.ex e').cat hB' (by omega) fun p2 H2 n2 e2 b2 => ?_
        refine r_next ⟨p2, _, _, _, _, rfl, e.trans (e'.trans e2), fresh_back (e.trans e') n2, b2, ?_, fun a b => ?_⟩
        · rw [List.length_append, List.length_map, List.length_range]
          omega
        · rw [List.mem_append, hm, List.mem_map]
          constructor
          · rintro (⟨a0, ab, bl, bn⟩ | ⟨j, hj, z⟩)
            · exact ⟨a0, ab, by omega, bn⟩
            · rw [List.mem_range] at hj
              cases z
              exact ⟨by omega, by omega, by omega, by omega⟩
          · rintro ⟨a0, ab, bl, bn⟩
            by_cases z : b - a < 1 + k
            · exact .inl ⟨a0, ab, z, bn⟩
            · refine .inr ⟨a.toNat, List.mem_range.mpr (by omega), ?_⟩
              rw [Int.toNat_of_nonneg a0, show a + (1 + (k : Int)) = b by omega]
    · rintro s h ⟨l, v2, v3, qs, cs, rfl, e, nl, hB, hc, hm⟩
      walk_at "go"
      refine q l qs cs h nl e hB (by omega) fun a b => (hm a b).trans ⟨fun ⟨x, y, _, z⟩ => ⟨x, y, z⟩, fun ⟨x, y, z⟩ => ⟨x, y, by omega, z⟩⟩
def spLFalls (K : PySem.W.Frag) : Sp := fun vs H Q _ => ∃ (r : Addr) (sp : Prs) (fr : Int), vs = [.ref r] ∧ RowAt K H r sp fr ∧ sp.length ≤ 64 ∧ ∀ l ts H2, Ex H H2 → TB H2 l ts → (ts = [] ↔ ¬ WK.fallP sp) → Q (.ref l) H2
abbrev s__law_falls : Stmt := top 31
theorem sc__law_falls : FnScope ["row", "spans", "p", "q"] ["row"] (defScope s__law_falls) := ⟨rfl, rfl, rfl, by decide +kernel, rfl, by decide +kernel, by decide +kernel⟩
theorem ok_falls (T : Txt K mg tkC tkH tkL ) (F : At K mg "_law_falls" s__law_falls ["row"]) (d__law_couples : Def P w K mg base "_law_couples" 1 ["many"] spCouples) : Def P w K mg base "_law_falls" 2 ["row"] (spLFalls K) := by
  refine Def.mk' F sc__law_falls (fun vs H Q E h => ?_) (fun f cdv Ar outer s H vs Q E hr h => ⟨_, (pss_cons (ps_if (pt_cmpR op_ne (pe_ix (r := rIxT K) ix_tup (pv 0) pe_int (fun _ _ => rfl)) pe_str (nomark _)) (pss_one (ps_ret (pe_lst pa_nil))) pss_nil)
      (pss_cons (ps_set (i := 1) sc__law_falls.nd rfl (Or.inr rfl) (pe_ix (r := rIxT K) ix_tup (pv 0) pe_int (fun _ _ => rfl)))
      (pss_one (ps_ret (pe_lc (own := [("p", 2), ("q", 3)]) (g := (gTup K 2 (gCons (gName 2) (gCons (gName 3) gNil)))) rfl sc__law_falls.nd (pi_list (pe_d d__law_couples (hr.mono (by decide)) (passes_call (takes_of rfl rfl rfl rfl) (fun _ _ _ _ h => h)) (pa_cons (pe_callB (r := Lay.rLen K) c_len rfl T.n_len PySem.boot_len (pa_cons (pv 1) pa_nil)) pa_nil))) (blkOk_by (own := [("p", 2), ("q", 3)]) (N := ["row", "spans", "p", "q"]) (sc := defScope s__law_falls) (by decide +kernel)) (fun _ _ _ _ _ => (pg_tup (n := 2) rfl (pgs_cons (pg_name (i := 2) sc__law_falls.nd rfl (Or.inl rfl)) (pgs_cons (pg_name (i := 3) sc__law_falls.nd rfl (Or.inl rfl)) pgs_nil)))) (fun _ _ _ _ _ => (pts_one (pt_cmpR op_lt (pe_ix (r := rIxT K) ix_tup (pe_ix (r := rIxL K) ix_list (pv 1) (pv 3) (fun _ _ => rfl)) pe_int (fun _ _ => rfl)) (pe_ix (r := rIxT K) ix_tup (pe_ix (r := rIxL K) ix_list (pv 1) (pv 2) (fun _ _ => rfl)) pe_int (fun _ _ => rfl)) (nomark _)))) (fun _ _ _ _ _ => (pe_tup (pa_cons (pe_op op_add (pv 2) pe_int) (pa_cons (pe_op op_add (pv 3) pe_int) (pa_cons (pe_op op_sub (pe_ix (r := rIxT K) ix_tup (pe_ix (r := rIxL K) ix_list (pv 1) (pv 2) (fun _ _ => rfl)) pe_int (fun _ _ => rfl)) (pe_ix (r := rIxT K) ix_tup (pe_ix (r := rIxL K) ix_list (pv 1) (pv 3) (fun _ _ => rfl)) pe_int (fun _ _ => rfl))) pa_nil)))))))))), ?_⟩)
  · obtain ⟨r, sp, fr, rfl, _⟩ := h
    rfl
  · obtain ⟨r, sp, fr, rfl, ⟨a, ps, h1, hB⟩, h64, q⟩ := h
    have hP : PrL K H a ps sp := hB.pr
    walk_at "go0"
    refine r_noN rfl ?_
    walk_at "go"
    refine ⟨_, rfl, by omega, by omega, fun c qs cs H1 nc e1 hC hcl hcm => ?_⟩
    have hP1 := hP.ex e1
    refine lcP hC.pr (fun p i h => ∃ ts, TB h p ts ∧ Ex H1 h ∧ H1 p = none ∧ ts.length ≤ i ∧ (ts = [] ↔ ∀ j : Int, 0 ≤ j → j < i → ¬ zh sp (zh cs j) < zl sp (zl cs j))) ?_ ?_ ?_ ?_
    · exact fun p h np e hp => ⟨[], TB.nil hp, e, np, Nat.le_refl _, fun _ j a b => by omega, fun _ => rfl⟩
    · rintro p i h _ ⟨ts, _, e, _⟩
      exact ex_l e (L2.SqL.of hC.1)
    · rintro p i h hi ⟨ts, hT, e, np, hl, hz⟩
      have hg := (hC.ex e).2.2 i (by omega) (by omega)
      have hP2 := hP1.ex e
      have mem : (zl cs i, zh cs i) ∈ cs := by
        unfold zl zh
        rw [Int.toNat_natCast, List.getD_eq_getElem?_getD, List.getElem?_eq_getElem hi]
        exact List.getElem_mem hi
      obtain ⟨m0, m1, m2⟩ := (hcm _ _).mp mem
      walk_at "go"
      refine ⟨rfl, ?_⟩
      walk_at "go"
      refine r_ite (fun z => ?_) (fun z => ?_)
      · walk_at "go"
        refine r_newT (len3 rfl) fun t H3 nt e3 ht => ?_
        refine hT.appW (by omega) e3 ⟨_, _, _, .inr ⟨_, rfl⟩, ht⟩ fun H5 e5 b5 => ⟨ts ++ [t], b5, ExB.ex (e.trans e3) e5 np, np, by rw [List.length_append]; show ts.length + 1 ≤ _; omega, fun y => ?_, fun y => ?_⟩
        · exact absurd y (by simp)
        · exact absurd z (y i (by omega) (by omega))
      · refine ⟨ts, hT, e, np, by omega, fun y j j0 j1 => ?_, fun y => hz.mpr fun j j0 j1 => y j j0 (by omega)⟩
        by_cases ej : j = i
        · rw [ej]; exact z
        · exact hz.mp y j j0 (by omega)
    · rintro p h ⟨ts, hT, e, np, hl, hz⟩
      walk_at "go"
      refine q p ts h (e1.trans e) hT (hz.trans ⟨fun y ⟨u, v, u0, uv, vn, k⟩ => ?_, fun y j j0 j1 k => ?_⟩)
      · obtain ⟨j, hj, ej⟩ := List.mem_iff_getElem.mp ((hcm u v).mpr ⟨u0, uv, vn⟩)
        have w := y j (by omega) (by omega)
        have eu : zl cs j = u := by
          unfold zl
          rw [Int.toNat_natCast, List.getD_eq_getElem?_getD, List.getElem?_eq_getElem hj, ej]
          rfl
        have ev : zh cs j = v := by
          unfold zh
          rw [Int.toNat_natCast, List.getD_eq_getElem?_getD, List.getElem?_eq_getElem hj, ej]
          rfl
        rw [eu, ev] at w
        exact w k
      · obtain ⟨n, rfl⟩ : ∃ n : Nat, j = n := ⟨j.toNat, by omega⟩
        have hj : n < cs.length := by omega
        have mem : (zl cs n, zh cs n) ∈ cs := by
          unfold zl zh
          rw [Int.toNat_natCast, List.getD_eq_getElem?_getD, List.getElem?_eq_getElem hj]
          exact List.getElem_mem hj
        obtain ⟨m0, m1, m2⟩ := (hcm _ _).mp mem
        exact y ⟨_, _, m0, m1, m2, k⟩
def spLLeaps (K : PySem.W.Frag) : Sp := fun vs H Q _ => ∃ (r : Addr) (sp : Prs) (fr : Int), vs = [.ref r] ∧ RowAt K H r sp fr ∧ sp.length ≤ 64 ∧ ∀ l ts H2, Ex H H2 → TB H2 l ts → (ts = [] ↔ ¬ WK.leapP sp) → Q (.ref l) H2
abbrev s__law_leaps : Stmt := top 33
theorem sc__law_leaps : FnScope ["row", "found", "place", "before", "here"] ["row"] (defScope s__law_leaps) := ⟨rfl, rfl, rfl, by decide +kernel, rfl, by decide +kernel, by decide +kernel⟩
theorem ok_leaps (T : Txt K mg tkC tkH tkL ) (F : At K mg "_law_leaps" s__law_leaps ["row"]) : Def P w K mg base "_law_leaps" 1 ["row"] (spLLeaps K) := by
  refine Def.mk' F sc__law_leaps (fun vs H Q E h => ?_) (fun f cdv Ar outer s H vs Q E hr h => ⟨_, (pss_cons (ps_if (pt_cmpR op_eq (pe_ix (r := rIxT K) ix_tup (pv 0) pe_int (fun _ _ => rfl)) pe_str (nomark _)) (pss_one ps_dead) pss_nil)
      (pss_cons (ps_if (pt_cmpR op_eq (pe_ix (r := rIxT K) ix_tup (pv 0) pe_int (fun _ _ => rfl)) pe_str (nomark _)) (pss_one ps_dead) pss_nil)
      (pss_cons (ps_set (i := 1) sc__law_leaps.nd rfl (Or.inl rfl) (pe_lst pa_nil))
      (pss_cons (ps_for (passes_of rfl) rfl (pi_range2 rfl T.n_range (pa_cons pe_int (pa_cons (pe_callB (r := Lay.rLen K) c_len rfl T.n_len PySem.boot_len (pa_cons (pe_ix (r := rIxT K) ix_tup (pv 0) pe_int (fun _ _ => rfl)) pa_nil)) pa_nil))) (pg_name (i := 2) sc__law_leaps.nd rfl (Or.inl rfl)) (pss_cons (ps_set (i := 3) sc__law_leaps.nd rfl (Or.inl rfl) (pe_ix (r := rIxL K) ix_list (pe_ix (r := rIxT K) ix_tup (pv 0) pe_int (fun _ _ => rfl)) (pe_op op_sub (pv 2) pe_int) (fun _ _ => rfl)))
      (pss_cons (ps_set (i := 4) sc__law_leaps.nd rfl (Or.inl rfl) (pe_ix (r := rIxL K) ix_list (pe_ix (r := rIxT K) ix_tup (pv 0) pe_int (fun _ _ => rfl)) (pv 2) (fun _ _ => rfl)))
      (pss_cons (ps_if (pt_cmpR op_gt (pe_ix (r := rIxT K) ix_tup (pv 4) pe_int (fun _ _ => rfl)) (pe_ix (r := rIxT K) ix_tup (pv 3) pe_int (fun _ _ => rfl)) (nomark _)) (pss_one (ps_expr (pe_bm PySem.F.plainAttrs_list PySem.F.slot_list_append PySem.F.type_list_append mt_append (pv 1) (pa_cons (pe_tup (pa_cons (pe_op op_add (pv 2) pe_int) (pa_cons (pe_op op_sub (pe_ix (r := rIxT K) ix_tup (pv 4) pe_int (fun _ _ => rfl)) (pe_ix (r := rIxT K) ix_tup (pv 3) pe_int (fun _ _ => rfl))) (pa_cons pe_bl pa_nil)))) pa_nil)))) pss_nil)
      (pss_one (ps_if (pt_cmpR op_gt (pe_ix (r := rIxT K) ix_tup (pv 3) pe_int (fun _ _ => rfl)) (pe_ix (r := rIxT K) ix_tup (pv 4) pe_int (fun _ _ => rfl)) (nomark _)) (pss_one (ps_expr (pe_bm PySem.F.plainAttrs_list PySem.F.slot_list_append PySem.F.type_list_append mt_append (pv 1) (pa_cons (pe_tup (pa_cons (pe_op op_add (pv 2) pe_int) (pa_cons (pe_op op_sub (pe_ix (r := rIxT K) ix_tup (pv 3) pe_int (fun _ _ => rfl)) (pe_ix (r := rIxT K) ix_tup (pv 4) pe_int (fun _ _ => rfl))) (pa_cons pe_bl pa_nil)))) pa_nil)))) pss_nil))))))
      (pss_one (ps_ret (pv 1))))))), ?_⟩)
  · obtain ⟨r, sp, fr, rfl, _⟩ := h
    rfl
  · obtain ⟨r, sp, fr, rfl, ⟨a, ps, h1, hB⟩, h64, q⟩ := h
    have hP : PrL K H a ps sp := hB.pr
    walk_at "go0"
    refine r_no (by decide +kernel) ?_
    walk_at "go"
    refine r_no (by decide +kernel) ?_
    walk_at "go"
    refine r_newI0 fun l H1 nl e1 hl => ?_
    have hP1 := hP.ex e1
    walk_at "go"
    refine forR2 ⟨by decide, by decide⟩ ⟨by omega, by omega⟩ (fun k s h => ∃ v2 v3 v4 ts, s = [some (.ref r), some (.ref l), v2, v3, v4] ∧ Ex H h ∧ TB h l ts ∧ ts.length ≤ 2 * k ∧ (ts = [] ↔ ∀ j : Int, 1 ≤ j → j < 1 + k → ¬ (zh sp (j - 1) < zl sp j ∨ zh sp j < zl sp (j - 1)))) ?_ ?_ ?_
    · exact ⟨_, _, _, [], rfl, e1, TB.nil hl, Nat.le_refl _, fun _ j a b => by omega, fun _ => rfl⟩
    · rintro k s h hk ⟨v2, v3, v4, ts, rfl, e, hT, hn, hz⟩
      have hP2 := hP.ex e
      have hr := e _ _ h1
      have hTl := hT.1
      have step : ∀ (ts' : List Addr), (ts' = [] ↔ ts = [] ∧ ¬ (zh sp k < zl sp (1 + k) ∨ zh sp (1 + k) < zl sp k)) → (ts' = [] ↔ ∀ j : Int, 1 ≤ j → j < 1 + ((k + 1 : Nat) : Int) → ¬ (zh sp (j - 1) < zl sp j ∨ zh sp j < zl sp (j - 1))) := by
        intro ts' w
        rw [w, hz]
        constructor
        · rintro ⟨x, y⟩ j j0 j1
          by_cases ej : j = 1 + k
          · rw [ej, show (1 + (k : Int)) - 1 = k by omega]; exact y
          · exact x j j0 (by omega)
        · intro x
          refine ⟨fun j j0 j1 => x j j0 (by omega), ?_⟩
          have y := x (1 + k) (by omega) (by omega)
          rw [show (1 + (k : Int)) - 1 = k by omega] at y
          exact y
      walk_at "go"
      have g1 := hP2.2.2 (1 + k) (by omega) (by omega)
      have g0 := hP2.2.2 (1 + k - 1) (by omega) (by omega)
      rw [show (1 + (k : Int)) - 1 = k by omega] at g0 ⊢
      walk_at "go"
      refine r_ite (fun z => ?_) (fun z => ?_)
      · walk_at "go"
        refine r_newT (len3 rfl) fun t H3 nt e3 ht => ?_
        walk_at "go"
        refine hT.app (by omega) e3 ⟨_, _, _, .inl ⟨_, rfl⟩, ht⟩ fun H5 e5 b5 => ?_
        have hl3 := e3 _ _ hT.1
        have f0 : H5 (ga ps k) = some (.tup [.int (zl sp k), .int (zh sp k)]) := e5 _ _ (fun y => by have := e3 _ _ g0; rw [y, hl3] at this; cases this) (e3 _ _ g0)
        have f1 : H5 (ga ps (1 + k)) = some (.tup [.int (zl sp (1 + k)), .int (zh sp (1 + k))]) := e5 _ _ (fun y => by have := e3 _ _ g1; rw [y, hl3] at this; cases this) (e3 _ _ g1)
        have e6 : Ex H H5 := ExB.ex (e.trans e3) e5 nl
        have b5l := b5.1
        walk_at "go"
        refine r_ite (fun z2 => ?_) (fun z2 => ?_)
        · walk_at "go"
          refine r_newT (len3 rfl) fun t2 H6 nt2 e7 ht2 => ?_
          walk_at "go"
          refine b5.app (by rw [List.length_append]; show ts.length + 1 < _; omega) e7 ⟨_, _, _, .inl ⟨_, rfl⟩, ht2⟩ fun H8 e8 b8 => ?_
          refine r_next ⟨_, _, _, _, rfl, ExB.ex (e6.trans e7) e8 nl, b8, ?_, step _ ?_⟩
          · rw [List.length_append, List.length_append]
            show ts.length + 1 + 1 ≤ _
            omega
          · exact ⟨fun y => absurd y (by simp), fun ⟨_, y⟩ => absurd (.inl z) y⟩
        · refine r_next ⟨_, _, _, _, rfl, e6, b5, ?_, step _ ?_⟩
          · rw [List.length_append]
            show ts.length + 1 ≤ _
            omega
          · exact ⟨fun y => absurd y (by simp), fun ⟨_, y⟩ => absurd (.inl z) y⟩
      · walk_at "go"
        refine r_ite (fun z2 => ?_) (fun z2 => ?_)
        · walk_at "go"
          refine r_newT (len3 rfl) fun t2 H6 nt2 e7 ht2 => ?_
          walk_at "go"
          refine hT.app (by omega) e7 ⟨_, _, _, .inl ⟨_, rfl⟩, ht2⟩ fun H8 e8 b8 => ?_
          refine r_next ⟨_, _, _, _, rfl, ExB.ex (e.trans e7) e8 nl, b8, ?_, step _ ?_⟩
          · rw [List.length_append]
            show ts.length + 1 ≤ _
            omega
          · exact ⟨fun y => absurd y (by simp), fun ⟨_, y⟩ => absurd (.inr z2) y⟩
        · refine r_next ⟨_, _, _, _, rfl, e, hT, by omega, step _ ⟨fun y => ⟨y, fun w => w.elim z z2⟩, fun y => y.1⟩⟩
    · rintro s h ⟨v2, v3, v4, ts, rfl, e, hT, hn, hz⟩
      walk_at "go"
      refine q l ts h e hT (hz.trans ⟨fun y ⟨i, i0, i1, w⟩ => y i i0 (by omega) w, fun y j j0 j1 w => y ⟨j, j0, by omega, w⟩⟩)
end
end K16
namespace K16
open PySem PySem.Spec PyProof.Rows L2 Evl Lay
section
variable {P : Program} {w : World} {K : PySem.W.Frag} {mg : Str → Option Value} {base : Heap} {CRuler CTable CBlock : Addr} {tkC tkH tkL : Tok}
/-! ### tables drawn -/
structure TbI (p l : Addr) (H0 h : Hp) (qs : List Addr) (sp : Prs) (i : Nat) : Prop where
  e : ExB p H0 h
  pu : Pur h p
  b : PB h l qs sp
  n : sp.length = i
  ok : WK.Ok sp
  hb : WK.HiB sp (30 + i)
theorem TbI.draw {p l : Addr} {H0 h h2 : Hp} {qs : List Addr} {sp : Prs} {i : Nat} (t : TbI p l H0 h qs sp i) (n : l ≠ p) (e : ExB p h h2) (hp : Pur h2 p) : TbI p l H0 h2 qs sp i :=
  ⟨t.e.trans e, hp, t.b.exb e n t.pu.nt, t.n, t.ok, t.hb⟩
theorem TbI.app {p l tt : Addr} {H0 h h1 : Hp} {qs : List Addr} {sp : Prs} {i : Nat} {lo hi : Int} {Q : VK} (t : TbI p l H0 h qs sp i) (n : l ≠ p) (nl : H0 l = none) (e : Ex h h1) (ht : h1 tt = some (.tup [.int lo, .int hi])) (h0 : 0 ≤ lo) (h1' : lo ≤ hi) (h2 : hi ≤ 30 + ((i + 1 : Nat) : Int)) (hi' : i < 1000)
    (q : ∀ H5, TbI p l H0 H5 (qs ++ [tt]) (sp ++ [(lo, hi)]) (i + 1) → Q .non H5) : rAppend (.ref l) [.ref tt] h1 Q := by
  refine t.b.app (by rw [t.b.2.1, t.n]; omega) e ht fun H5 e5 b5 => q H5 ⟨ExB.exB (t.e.trans (Ex.b e)) e5 nl, (t.pu.ex e).upd e5 n.symm, b5, by rw [List.length_append, t.n]; rfl, t.ok.snoc h0 h1', t.hb.snoc h2 (by omega)⟩
theorem TbI.nil {p l : Addr} {H0 h : Hp} (e : Ex H0 h) (hp : Pur H0 p) (hl : h l = some (.lst [])) : TbI p l H0 h [] [] 0 := ⟨Ex.b e, hp.ex e, PB.nil hl, rfl, WK.Ok.nil, WK.HiB.nil⟩
theorem TbI.row {K : PySem.W.Frag} {p l r : Addr} {H0 h h2 : Hp} {qs : List Addr} {sp : Prs} {i : Nat} {fr : Int} (t : TbI p l H0 h qs sp i) (e : Ex h h2) (hr : h2 r = some (.tup [.str "table", .ref l, .int fr])) : RowAt K h2 r sp fr := ⟨l, qs, hr, t.b.ex e⟩
/-- what follows a drawn table -/
def RowK (K : PySem.W.Frag) (p : Addr) (n : Int) (H : Hp) (Q : VK) : Prop := ∀ r H2 sp fr, ExB p H H2 → Pur H2 p → RowAt K H2 r sp fr → WK.Ok sp → (sp.length : Int) = n → WK.HiB sp 100 → 0 ≤ fr → fr ≤ 1 → Q (.ref r) H2
theorem RowK.of {K : PySem.W.Frag} {p l : Addr} {H0 h : Hp} {qs : List Addr} {sp : Prs} {i : Nat} {fr n : Int} {Q : VK} (k : RowK K p n H0 Q) (t : TbI p l H0 h qs sp i) (hn : (i : Int) = n) (h8 : i ≤ 8) (f0 : 0 ≤ fr) (f1 : fr ≤ 1) : NewT [.str "table", .ref l, .int fr] h Q :=
  r_newT (len3 rfl) fun r H2 _ e hr => k r H2 sp fr (t.e.trans (Ex.b e)) (t.pu.ex e) (t.row e hr) t.ok (by rw [t.n]; exact hn) (fun j a b => by have := t.hb j a b; omega) f0 f1
def spTab4 (K : PySem.W.Frag) : Sp := fun vs H Q _ => ∃ (p : Addr) (n wd fr : Int), vs = [.ref p, .int n, .int wd, .int fr] ∧ 2 ≤ n ∧ n ≤ 8 ∧ 1 ≤ wd ∧ wd ≤ 20 ∧ 0 ≤ fr ∧ fr ≤ 1 ∧ Pur H p ∧ RowK K p n H Q
abbrev s__law_calm_table : Stmt := top 34
theorem sc__law_calm_table : FnScope ["purse", "cells", "wide", "free", "spans", "highest", "place", "low"] ["purse", "cells", "wide", "free"] (defScope s__law_calm_table) := ⟨rfl, rfl, rfl, by decide +kernel, rfl, by decide +kernel, by decide +kernel⟩
theorem ok_calm (T : Txt K mg tkC tkH tkL ) (F : At K mg "_law_calm_table" s__law_calm_table ["purse", "cells", "wide", "free"]) (d__law_draw : Def P w K mg base "_law_draw" 1 ["purse", "many"] spDraw) : Def P w K mg base "_law_calm_table" 2 ["purse", "cells", "wide", "free"] (spTab4 K) := by
  refine Def.mk' F sc__law_calm_table (fun vs H Q E h => ?_) (fun f cdv Ar outer s H vs Q E hr h => ⟨_, (pss_cons (ps_set (i := 4) sc__law_calm_table.nd rfl (Or.inl rfl) (pe_lst pa_nil))
      (pss_cons (ps_set (i := 5) sc__law_calm_table.nd rfl (Or.inl rfl) pe_int)
      (pss_cons (ps_for (passes_of rfl) rfl (pi_range1 rfl T.n_range (pa_cons (pv 1) pa_nil)) (pg_name (i := 6) sc__law_calm_table.nd rfl (Or.inl rfl)) (pss_cons (ps_set (i := 7) sc__law_calm_table.nd rfl (Or.inl rfl) (pe_d d__law_draw (hr.mono (by decide)) (passes_call (takes_of rfl rfl rfl rfl) (fun _ _ _ _ h => h)) (pa_cons (pv 0) (pa_cons (pe_op op_add (pv 2) pe_int) pa_nil))))
      (pss_cons (ps_set (i := 5) sc__law_calm_table.nd rfl (Or.inl rfl) (pe_callB (c_max2 rfl) rfl T.n_max (by decide +kernel) (pa_cons (pv 5) (pa_cons (pv 7) pa_nil))))
      (pss_one (ps_expr (pe_bm PySem.F.plainAttrs_list PySem.F.slot_list_append PySem.F.type_list_append mt_append (pv 4) (pa_cons (pe_tup (pa_cons (pv 7) (pa_cons (pe_callB (c_max2 rfl) rfl T.n_max (by decide +kernel) (pa_cons (pe_op op_add (pv 7) (pe_d d__law_draw (hr.mono (by decide)) (passes_call (takes_of rfl rfl rfl rfl) (fun _ _ _ _ h => h)) (pa_cons (pv 0) (pa_cons pe_int pa_nil)))) (pa_cons (pv 5) pa_nil))) pa_nil))) pa_nil)))))))
      (pss_one (ps_ret (pe_tup (pa_cons pe_str (pa_cons (pv 4) (pa_cons (pv 3) pa_nil))))))))), ?_⟩)
  · obtain ⟨p, n, wd, fr, rfl, _⟩ := h
    rfl
  · obtain ⟨p, n, wd, fr, rfl, n2, n8, w1, w20, f0, f1, hp, q⟩ := h
    walk_at "go0"
    refine r_newI0 fun l H1 nl e1 hl => ?_
    have nlp : l ≠ p := by walk_at "ne"
    walk_at "go"
    refine forR1 (by omega) (by omega) (fun i s h => ∃ hg : Int, ∃ v6 v7 qs sp, s = [some (.ref p), some (.int n), some (.int wd), some (.int fr), some (.ref l), some (.int hg), v6, v7] ∧ 0 ≤ hg ∧ hg ≤ 20 ∧ TbI p l H h qs sp i) ?_ ?_ ?_
    · exact ⟨0, _, _, [], [], rfl, by decide, by decide, TbI.nil e1 hp hl⟩
    · rintro i s h hi ⟨hg, v6, v7, qs, sp, rfl, g0, g1, t⟩
      walk_at "go"
      refine ⟨p, _, rfl, by omega, by omega, t.pu, fun x H2 x0 x1 e2 hp2 => ?_⟩
      have t2 := t.draw nlp e2 hp2
      have tl := t2.b.1
      walk_at "go"
      refine ⟨p, _, rfl, by decide, by decide, hp2, fun y H3 y0 y1 e3 hp3 => ?_⟩
      have t3 := t2.draw nlp e3 hp3
      walk_at "go"
      refine r_newT (len3 rfl) fun tt H4 _ e4 ht => ?_
      walk_at "go"
      refine t3.app nlp nl e4 ht x0 (by split <;> split <;> omega) (by split <;> split <;> omega) (by omega) fun H5 t5 => ?_
      exact r_next ⟨_, _, _, _, _, rfl, (by split <;> omega), (by split <;> omega), t5⟩
    · rintro s h ⟨hg, v6, v7, qs, sp, rfl, g0, g1, t⟩
      walk_at "go"
      exact q.of t (by omega) (by omega) f0 f1
abbrev s__law_any_table : Stmt := top 36
theorem sc__law_any_table : FnScope ["purse", "cells", "wide", "free", "spans", "place", "low"] ["purse", "cells", "wide", "free"] (defScope s__law_any_table) := ⟨rfl, rfl, rfl, by decide +kernel, rfl, by decide +kernel, by decide +kernel⟩
theorem ok_any (T : Txt K mg tkC tkH tkL ) (F : At K mg "_law_any_table" s__law_any_table ["purse", "cells", "wide", "free"]) (d__law_draw : Def P w K mg base "_law_draw" 1 ["purse", "many"] spDraw) : Def P w K mg base "_law_any_table" 2 ["purse", "cells", "wide", "free"] (spTab4 K) := by
  refine Def.mk' F sc__law_any_table (fun vs H Q E h => ?_) (fun f cdv Ar outer s H vs Q E hr h => ⟨_, (pss_cons (ps_set (i := 4) sc__law_any_table.nd rfl (Or.inl rfl) (pe_lst pa_nil))
      (pss_cons (ps_for (passes_of rfl) rfl (pi_range1 rfl T.n_range (pa_cons (pv 1) pa_nil)) (pg_name (i := 5) sc__law_any_table.nd rfl (Or.inl rfl)) (pss_cons (ps_set (i := 6) sc__law_any_table.nd rfl (Or.inl rfl) (pe_d d__law_draw (hr.mono (by decide)) (passes_call (takes_of rfl rfl rfl rfl) (fun _ _ _ _ h => h)) (pa_cons (pv 0) (pa_cons (pe_op op_add (pv 2) pe_int) pa_nil))))
      (pss_one (ps_expr (pe_bm PySem.F.plainAttrs_list PySem.F.slot_list_append PySem.F.type_list_append mt_append (pv 4) (pa_cons (pe_tup (pa_cons (pv 6) (pa_cons (pe_op op_add (pv 6) (pe_d d__law_draw (hr.mono (by decide)) (passes_call (takes_of rfl rfl rfl rfl) (fun _ _ _ _ h => h)) (pa_cons (pv 0) (pa_cons pe_int pa_nil)))) pa_nil))) pa_nil))))))
      (pss_one (ps_ret (pe_tup (pa_cons pe_str (pa_cons (pv 4) (pa_cons (pv 3) pa_nil)))))))), ?_⟩)
  · obtain ⟨p, n, wd, fr, rfl, _⟩ := h
    rfl
  · obtain ⟨p, n, wd, fr, rfl, n2, n8, w1, w20, f0, f1, hp, q⟩ := h
    walk_at "go0"
    refine r_newI0 fun l H1 nl e1 hl => ?_
    have nlp : l ≠ p := by walk_at "ne"
    walk_at "go"
    refine forR1 (by omega) (by omega) (fun i s h => ∃ v6 v7 qs sp, s = [some (.ref p), some (.int n), some (.int wd), some (.int fr), some (.ref l), v6, v7] ∧ TbI p l H h qs sp i) ?_ ?_ ?_
    · exact ⟨_, _, [], [], rfl, TbI.nil e1 hp hl⟩
    · rintro i s h hi ⟨v6, v7, qs, sp, rfl, t⟩
      walk_at "go"
      refine ⟨p, _, rfl, by omega, by omega, t.pu, fun x H2 x0 x1 e2 hp2 => ?_⟩
      have t2 := t.draw nlp e2 hp2
      have tl := t2.b.1
      walk_at "go"
      refine ⟨p, _, rfl, by decide, by decide, hp2, fun y H3 y0 y1 e3 hp3 => ?_⟩
      have t3 := t2.draw nlp e3 hp3
      walk_at "go"
      refine r_newT (len3 rfl) fun tt H4 _ e4 ht => ?_
      walk_at "go"
      refine t3.app nlp nl e4 ht x0 (by omega) (by omega) (by omega) fun H5 t5 => ?_
      exact r_next ⟨_, _, _, _, rfl, t5⟩
    · rintro s h ⟨v6, v7, qs, sp, rfl, t⟩
      walk_at "go"
      exact q.of t (by omega) (by omega) f0 f1
/-- the first span -/
theorem TbI.one {p l tt : Addr} {H0 h : Hp} {lo hi : Int} (e : ExB p H0 h) (hp : Pur h p) (hl : h l = some (.lst [.ref tt])) (ht : h tt = some (.tup [.int lo, .int hi])) (h0 : 0 ≤ lo) (h1 : lo ≤ hi) (h2 : hi ≤ 31) : TbI p l H0 h [tt] [(lo, hi)] 1 :=
  ⟨e, hp, PB.one hl ht, rfl, WK.Ok.nil.snoc h0 h1, WK.HiB.nil.snoc h2 (Int.le_refl _)⟩
abbrev s__law_even_table : Stmt := top 35
theorem sc__law_even_table : FnScope ["purse", "cells", "wide", "free", "low", "spans", "place", "before", "high"] ["purse", "cells", "wide", "free"] (defScope s__law_even_table) := ⟨rfl, rfl, rfl, by decide +kernel, rfl, by decide +kernel, by decide +kernel⟩
theorem ok_event (T : Txt K mg tkC tkH tkL ) (F : At K mg "_law_even_table" s__law_even_table ["purse", "cells", "wide", "free"]) (d__law_draw : Def P w K mg base "_law_draw" 1 ["purse", "many"] spDraw) : Def P w K mg base "_law_even_table" 2 ["purse", "cells", "wide", "free"] (spTab4 K) := by
  refine Def.mk' F sc__law_even_table (fun vs H Q E h => ?_) (fun f cdv Ar outer s H vs Q E hr h => ⟨_, (pss_cons (ps_set (i := 4) sc__law_even_table.nd rfl (Or.inl rfl) (pe_op op_add pe_int (pe_d d__law_draw (hr.mono (by decide)) (passes_call (takes_of rfl rfl rfl rfl) (fun _ _ _ _ h => h)) (pa_cons (pv 0) (pa_cons (pv 2) pa_nil)))))
      (pss_cons (ps_set (i := 5) sc__law_even_table.nd rfl (Or.inl rfl) (pe_lst (pa_cons (pe_tup (pa_cons (pv 4) (pa_cons (pe_op op_add (pv 4) (pe_d d__law_draw (hr.mono (by decide)) (passes_call (takes_of rfl rfl rfl rfl) (fun _ _ _ _ h => h)) (pa_cons (pv 0) (pa_cons pe_int pa_nil)))) pa_nil))) pa_nil)))
      (pss_cons (ps_for (passes_of rfl) rfl (pi_range2 rfl T.n_range (pa_cons pe_int (pa_cons (pv 1) pa_nil))) (pg_name (i := 6) sc__law_even_table.nd rfl (Or.inl rfl)) (pss_cons (ps_set (i := 7) sc__law_even_table.nd rfl (Or.inl rfl) (pe_ix (r := rIxL K) ix_list (pv 5) (pe_op op_sub (pv 6) pe_int) (fun _ _ => rfl)))
      (pss_one (ps_if (pt_cmpR op_gt (pe_d d__law_draw (hr.mono (by decide)) (passes_call (takes_of rfl rfl rfl rfl) (fun _ _ _ _ h => h)) (pa_cons (pv 0) (pa_cons pe_int pa_nil))) pe_int (nomark _)) (pss_cons (ps_set (i := 8) sc__law_even_table.nd rfl (Or.inl rfl) (pe_op op_add (pe_ix (r := rIxT K) ix_tup (pv 7) pe_int (fun _ _ => rfl)) (pe_d d__law_draw (hr.mono (by decide)) (passes_call (takes_of rfl rfl rfl rfl) (fun _ _ _ _ h => h)) (pa_cons (pv 0) (pa_cons (pe_op op_add (pe_op op_sub (pe_ix (r := rIxT K) ix_tup (pv 7) pe_int (fun _ _ => rfl)) (pe_ix (r := rIxT K) ix_tup (pv 7) pe_int (fun _ _ => rfl))) pe_int) pa_nil)))))
      (pss_cons (ps_set (i := 4) sc__law_even_table.nd rfl (Or.inl rfl) (pe_callB (c_max2 rfl) rfl T.n_max (by decide +kernel) (pa_cons pe_int (pa_cons (pe_op op_sub (pe_op op_sub (pv 8) pe_int) (pe_d d__law_draw (hr.mono (by decide)) (passes_call (takes_of rfl rfl rfl rfl) (fun _ _ _ _ h => h)) (pa_cons (pv 0) (pa_cons pe_int pa_nil)))) pa_nil))))
      (pss_one (ps_expr (pe_bm PySem.F.plainAttrs_list PySem.F.slot_list_append PySem.F.type_list_append mt_append (pv 5) (pa_cons (pe_tup (pa_cons (pv 4) (pa_cons (pv 8) pa_nil))) pa_nil)))))) (pss_cons (ps_set (i := 4) sc__law_even_table.nd rfl (Or.inl rfl) (pe_op op_add (pe_ix (r := rIxT K) ix_tup (pv 7) pe_int (fun _ _ => rfl)) (pe_d d__law_draw (hr.mono (by decide)) (passes_call (takes_of rfl rfl rfl rfl) (fun _ _ _ _ h => h)) (pa_cons (pv 0) (pa_cons (pe_op op_add (pe_op op_sub (pe_ix (r := rIxT K) ix_tup (pv 7) pe_int (fun _ _ => rfl)) (pe_ix (r := rIxT K) ix_tup (pv 7) pe_int (fun _ _ => rfl))) pe_int) pa_nil)))))
      (pss_one (ps_expr (pe_bm PySem.F.plainAttrs_list PySem.F.slot_list_append PySem.F.type_list_append mt_append (pv 5) (pa_cons (pe_tup (pa_cons (pv 4) (pa_cons (pe_op op_add (pv 4) (pe_d d__law_draw (hr.mono (by decide)) (passes_call (takes_of rfl rfl rfl rfl) (fun _ _ _ _ h => h)) (pa_cons (pv 0) (pa_cons pe_int pa_nil)))) pa_nil))) pa_nil)))))))))
      (pss_one (ps_ret (pe_tup (pa_cons pe_str (pa_cons (pv 5) (pa_cons (pv 3) pa_nil))))))))), ?_⟩)
  · obtain ⟨p, n, wd, fr, rfl, _⟩ := h
    rfl
  · obtain ⟨p, n, wd, fr, rfl, n2, n8, w1, w20, f0, f1, hp, q⟩ := h
    walk_at "go0"
    refine ⟨p, _, rfl, by omega, by omega, hp, fun x H1 x0 x1 e1 hp1 => ?_⟩
    walk_at "go"
    refine ⟨p, _, rfl, by omega, by omega, hp1, fun y H2 y0 y1 e2 hp2 => ?_⟩
    walk_at "go"
    refine r_newT (len3 rfl) fun t0 H3 nt e3 ht0 => ?_
    walk_at "go"
    refine r_newL (len3 rfl) fun l H4 nl4 e4 hl => ?_
    have hp4 := (hp2.ex e3).ex e4
    have nlp : l ≠ p := by walk_at "ne"
    have nl : H l = none := freshB (e1.trans e2) nlp (fresh_back e3 nl4)
    walk_at "go"
    refine forR2 ⟨by decide, by decide⟩ ⟨by omega, by omega⟩ (fun k s h => ∃ v4 v6 v7 v8 qs sp, s = [some (.ref p), some (.int n), some (.int wd), some (.int fr), v4, some (.ref l), v6, v7, v8] ∧ TbI p l H h qs sp (k + 1)) ?_ ?_ ?_
    · exact ⟨_, _, _, _, [t0], _, rfl, TbI.one ((e1.trans e2).trans (Ex.b (e3.trans e4))) hp4 hl (e4 _ _ ht0) (by omega) (by omega) (by omega)⟩
    · rintro k s h hk ⟨v4, v6, v7, v8, qs, sp, rfl, t⟩
      have hP := t.b.pr (K := K)
      have tn := t.n
      have ok0 := t.ok (1 + k - 1) (by omega) (by omega)
      have hb0 := t.hb (1 + k - 1) (by omega) (by omega)
      walk_at "go"
      refine ⟨p, _, rfl, by omega, by omega, t.pu, fun z H5 z0 z1 e5 hp5 => ?_⟩
      have t5 := t.draw nlp e5 hp5
      have g5 := t5.b.2.2 (1 + k - 1) (by omega) (by omega)
      walk_at "go"
      refine r_ite (fun c => ?_) (fun c => ?_)
      · walk_at "go"
        refine ⟨p, _, rfl, by omega, by omega, hp5, fun u H6 u0 u1 e6 hp6 => ?_⟩
        have t6 := t5.draw nlp e6 hp6
        walk_at "go"
        refine ⟨p, _, rfl, by omega, by omega, hp6, fun v H7 v0 v1 e7 hp7 => ?_⟩
        have t7 := t6.draw nlp e7 hp7
        have tl := t7.b.1
        walk_at "go"
        refine r_newT (len3 rfl) fun tt H8 _ e8 ht => ?_
        walk_at "go"
        refine t7.app nlp nl e8 ht (by split <;> omega) (by split <;> omega) (by omega) (by omega) fun H9 t9 => ?_
        exact r_next ⟨_, _, _, _, _, _, rfl, t9⟩
      · walk_at "go"
        refine ⟨p, _, rfl, by omega, by omega, hp5, fun u H6 u0 u1 e6 hp6 => ?_⟩
        have t6 := t5.draw nlp e6 hp6
        have tl := t6.b.1
        walk_at "go"
        refine ⟨p, _, rfl, by omega, by omega, hp6, fun v H7 v0 v1 e7 hp7 => ?_⟩
        have t7 := t6.draw nlp e7 hp7
        walk_at "go"
        refine r_newT (len3 rfl) fun tt H8 _ e8 ht => ?_
        walk_at "go"
        refine t7.app nlp nl e8 ht (by omega) (by omega) (by omega) (by omega) fun H9 t9 => ?_
        exact r_next ⟨_, _, _, _, _, _, rfl, t9⟩
    · rintro s h ⟨v4, v6, v7, v8, qs, sp, rfl, t⟩
      walk_at "go"
      exact q.of t (by omega) (by omega) f0 f1
def spTab3 (K : PySem.W.Frag) : Sp := fun vs H Q _ => ∃ (p : Addr) (n wd : Int), vs = [.ref p, .int n, .int wd] ∧ 2 ≤ n ∧ n ≤ 8 ∧ 1 ≤ wd ∧ wd ≤ 20 ∧ Pur H p ∧ RowK K p n H Q
abbrev s__law_sinking_table : Stmt := top 37
theorem sc__law_sinking_table : FnScope ["purse", "cells", "wide", "low", "spans", "place", "high"] ["purse", "cells", "wide"] (defScope s__law_sinking_table) := ⟨rfl, rfl, rfl, by decide +kernel, rfl, by decide +kernel, by decide +kernel⟩
theorem ok_sinking (T : Txt K mg tkC tkH tkL ) (F : At K mg "_law_sinking_table" s__law_sinking_table ["purse", "cells", "wide"]) (d__law_draw : Def P w K mg base "_law_draw" 1 ["purse", "many"] spDraw) : Def P w K mg base "_law_sinking_table" 2 ["purse", "cells", "wide"] (spTab3 K) := by
  refine Def.mk' F sc__law_sinking_table (fun vs H Q E h => ?_) (fun f cdv Ar outer s H vs Q E hr h => ⟨_, (pss_cons (ps_set (i := 3) sc__law_sinking_table.nd rfl (Or.inl rfl) (pe_op op_add pe_int (pe_d d__law_draw (hr.mono (by decide)) (passes_call (takes_of rfl rfl rfl rfl) (fun _ _ _ _ h => h)) (pa_cons (pv 0) (pa_cons (pv 2) pa_nil)))))
      (pss_cons (ps_set (i := 4) sc__law_sinking_table.nd rfl (Or.inl rfl) (pe_lst (pa_cons (pe_tup (pa_cons (pv 3) (pa_cons (pe_op op_add (pv 3) (pe_d d__law_draw (hr.mono (by decide)) (passes_call (takes_of rfl rfl rfl rfl) (fun _ _ _ _ h => h)) (pa_cons (pv 0) (pa_cons pe_int pa_nil)))) pa_nil))) pa_nil)))
      (pss_cons (ps_for (passes_of rfl) rfl (pi_range2 rfl T.n_range (pa_cons pe_int (pa_cons (pv 1) pa_nil))) (pg_name (i := 5) sc__law_sinking_table.nd rfl (Or.inl rfl)) (pss_cons (ps_set (i := 6) sc__law_sinking_table.nd rfl (Or.inl rfl) (pe_ix (r := rIxT K) ix_tup (pe_ix (r := rIxL K) ix_list (pv 4) (pe_op op_sub (pv 5) pe_int) (fun _ _ => rfl)) pe_int (fun _ _ => rfl)))
      (pss_one (ps_expr (pe_bm PySem.F.plainAttrs_list PySem.F.slot_list_append PySem.F.type_list_append mt_append (pv 4) (pa_cons (pe_tup (pa_cons (pe_callB (c_max2 rfl) rfl T.n_max (by decide +kernel) (pa_cons pe_int (pa_cons (pe_op op_sub (pe_op op_sub (pv 6) pe_int) (pe_d d__law_draw (hr.mono (by decide)) (passes_call (takes_of rfl rfl rfl rfl) (fun _ _ _ _ h => h)) (pa_cons (pv 0) (pa_cons pe_int pa_nil)))) pa_nil))) (pa_cons (pv 6) pa_nil))) pa_nil))))))
      (pss_one (ps_ret (pe_tup (pa_cons pe_str (pa_cons (pv 4) (pa_cons pe_int pa_nil))))))))), ?_⟩)
  · obtain ⟨p, n, wd, rfl, _⟩ := h
    rfl
  · obtain ⟨p, n, wd, rfl, n2, n8, w1, w20, hp, q⟩ := h
    walk_at "go0"
    refine ⟨p, _, rfl, by omega, by omega, hp, fun x H1 x0 x1 e1 hp1 => ?_⟩
    walk_at "go"
    refine ⟨p, _, rfl, by omega, by omega, hp1, fun y H2 y0 y1 e2 hp2 => ?_⟩
    walk_at "go"
    refine r_newT (len3 rfl) fun t0 H3 nt e3 ht0 => ?_
    walk_at "go"
    refine r_newL (len3 rfl) fun l H4 nl4 e4 hl => ?_
    have hp4 := (hp2.ex e3).ex e4
    have nlp : l ≠ p := by walk_at "ne"
    have nl : H l = none := freshB (e1.trans e2) nlp (fresh_back e3 nl4)
    walk_at "go"
    refine forR2 ⟨by decide, by decide⟩ ⟨by omega, by omega⟩ (fun k s h => ∃ v3 v5 v6 qs sp, s = [some (.ref p), some (.int n), some (.int wd), v3, some (.ref l), v5, v6] ∧ TbI p l H h qs sp (k + 1)) ?_ ?_ ?_
    · exact ⟨_, _, _, [t0], _, rfl, TbI.one ((e1.trans e2).trans (Ex.b (e3.trans e4))) hp4 hl (e4 _ _ ht0) (by omega) (by omega) (by omega)⟩
    · rintro k s h hk ⟨v3, v5, v6, qs, sp, rfl, t⟩
      have hP := t.b.pr (K := K)
      have tn := t.n
      have ok0 := t.ok (1 + k - 1) (by omega) (by omega)
      have hb0 := t.hb (1 + k - 1) (by omega) (by omega)
      have tl := t.b.1
      walk_at "go"
      refine ⟨p, _, rfl, by omega, by omega, t.pu, fun z H5 z0 z1 e5 hp5 => ?_⟩
      have t5 := t.draw nlp e5 hp5
      walk_at "go"
      refine r_newT (len3 rfl) fun tt H8 _ e8 ht => ?_
      walk_at "go"
      refine t5.app nlp nl e8 ht (by split <;> omega) (by split <;> omega) (by omega) (by omega) fun H9 t9 => ?_
      exact r_next ⟨_, _, _, _, _, rfl, t9⟩
    · rintro s h ⟨v3, v5, v6, qs, sp, rfl, t⟩
      walk_at "go"
      exact q.of t (by omega) (by omega) (by decide) (by decide)
def spDrawn (K : PySem.W.Frag) : Sp := fun vs H Q _ => ∃ (p : Addr) (k : Int), vs = [.ref p, .int k] ∧ Pur H p ∧ ∀ n, 2 ≤ n → n ≤ 8 → RowK K p n H Q
theorem RowK.back {K : PySem.W.Frag} {p : Addr} {n : Int} {H H2 : Hp} {Q : VK} (k : RowK K p n H Q) (e : ExB p H H2) : RowK K p n H2 Q := fun r H3 sp fr e3 hp hr ok n hb f0 f1 => k r H3 sp fr (e.trans e3) hp hr ok n hb f0 f1
abbrev s__law_drawn_table : Stmt := top 39
theorem sc__law_drawn_table : FnScope ["purse", "sort", "cells"] ["purse", "sort"] (defScope s__law_drawn_table) := ⟨rfl, rfl, rfl, by decide +kernel, rfl, by decide +kernel, by decide +kernel⟩
theorem ok_drawn (T : Txt K mg tkC tkH tkL ) (F : At K mg "_law_drawn_table" s__law_drawn_table ["purse", "sort"]) (d__law_draw : Def P w K mg base "_law_draw" 1 ["purse", "many"] spDraw) (d__law_calm_table : Def P w K mg base "_law_calm_table" 2 ["purse", "cells", "wide", "free"] (spTab4 K))
    (d__law_any_table : Def P w K mg base "_law_any_table" 2 ["purse", "cells", "wide", "free"] (spTab4 K)) (d__law_even_table : Def P w K mg base "_law_even_table" 2 ["purse", "cells", "wide", "free"] (spTab4 K)) (d__law_sinking_table : Def P w K mg base "_law_sinking_table" 2 ["purse", "cells", "wide"] (spTab3 K)) :
    Def P w K mg base "_law_drawn_table" 3 ["purse", "sort"] (spDrawn K) := by
  refine Def.mk' F sc__law_drawn_table (fun vs H Q E h => ?_) (fun f cdv Ar outer s H vs Q E hr h => ⟨_, (pss_cons (ps_set (i := 2) sc__law_drawn_table.nd rfl (Or.inl rfl) (pe_op op_add pe_int (pe_d d__law_draw (hr.mono (by decide)) (passes_call (takes_of rfl rfl rfl rfl) (fun _ _ _ _ h => h)) (pa_cons (pv 0) (pa_cons pe_int pa_nil)))))
      (pss_cons (ps_if (pt_cmpR op_eq (pv 1) pe_int (nomark _)) (pss_one (ps_ret (pe_d d__law_calm_table (hr.mono (by decide)) (passes_call (takes_of rfl rfl rfl rfl) (fun _ _ _ _ h => h)) (pa_cons (pv 0) (pa_cons (pv 2) (pa_cons pe_int (pa_cons (pe_d d__law_draw (hr.mono (by decide)) (passes_call (takes_of rfl rfl rfl rfl) (fun _ _ _ _ h => h)) (pa_cons (pv 0) (pa_cons pe_int pa_nil))) pa_nil))))))) pss_nil)
      (pss_cons (ps_if (pt_cmpR op_eq (pv 1) pe_int (nomark _)) (pss_one (ps_ret (pe_d d__law_even_table (hr.mono (by decide)) (passes_call (takes_of rfl rfl rfl rfl) (fun _ _ _ _ h => h)) (pa_cons (pv 0) (pa_cons (pv 2) (pa_cons pe_int (pa_cons pe_int pa_nil))))))) pss_nil)
      (pss_cons (ps_if (pt_cmpR op_eq (pv 1) pe_int (nomark _)) (pss_one (ps_ret (pe_d d__law_sinking_table (hr.mono (by decide)) (passes_call (takes_of rfl rfl rfl rfl) (fun _ _ _ _ h => h)) (pa_cons (pv 0) (pa_cons (pv 2) (pa_cons (pe_op op_mul pe_int (pv 2)) pa_nil)))))) pss_nil)
      (pss_one (ps_ret (pe_d d__law_any_table (hr.mono (by decide)) (passes_call (takes_of rfl rfl rfl rfl) (fun _ _ _ _ h => h)) (pa_cons (pv 0) (pa_cons (pv 2) (pa_cons pe_int (pa_cons pe_int pa_nil))))))))))), ?_⟩)
  · obtain ⟨p, k, rfl, _⟩ := h
    rfl
  · obtain ⟨p, k, rfl, hp, q⟩ := h
    walk_at "go0"
    refine ⟨p, _, rfl, by omega, by omega, hp, fun x H1 x0 x1 e1 hp1 => ?_⟩
    have q1 := (q (2 + x) (by omega) (by omega)).back e1
    walk_at "go"
    refine r_ite (fun _ => ?_) (fun _ => ?_)
    · walk_at "go"
      refine ⟨p, _, rfl, by omega, by omega, hp1, fun y H2 y0 y1 e2 hp2 => ?_⟩
      walk_at "go"
      exact ⟨p, _, 5, y, rfl, by omega, by omega, by decide, by decide, y0, by omega, hp2, q1.back e2⟩
    walk_at "go"
    refine r_ite (fun _ => ?_) (fun _ => ?_)
    · walk_at "go"
      exact ⟨p, _, 4, 0, rfl, by omega, by omega, by decide, by decide, by decide, by decide, hp1, q1⟩
    walk_at "go"
    refine r_ite (fun _ => ?_) (fun _ => ?_)
    · walk_at "go"
      exact ⟨p, _, _, rfl, by omega, by omega, by omega, by omega, hp1, q1⟩
    walk_at "go"
    exact ⟨p, _, 3, 0, rfl, by omega, by omega, by decide, by decide, by decide, by decide, hp1, q1⟩
end
end K16
namespace K16
open PySem PySem.Spec PyProof.Rows L2 Evl Lay
section
variable {P : Program} {w : World} {K : PySem.W.Frag} {mg : Str → Option Value} {base : Heap} {CRuler CTable CBlock : Addr} {tkC tkH tkL : Tok}
def spHeights : Sp := fun vs H Q _ => ∃ (p : Addr) (n : Int), vs = [.ref p, .int n, .int 1, .int 6] ∧ 0 ≤ n ∧ n ≤ 64 ∧ Pur H p ∧ ∀ l H2 (ns : List Int), H l = none → ExB p H H2 → Pur H2 p → l ≠ p → (ns.length : Int) = n → (∀ z ∈ ns, 1 ≤ z ∧ z ≤ 6) → H2 l = some (.lst (ns.map V.int)) → Q (.ref l) H2
abbrev s__law_heights : Stmt := top 38
theorem sc__law_heights : FnScope ["purse", "many", "least", "most", "place"] ["purse", "many", "least", "most"] (defScope s__law_heights) := ⟨rfl, rfl, rfl, by decide +kernel, rfl, by decide +kernel, by decide +kernel⟩
theorem ok_heights (T : Txt K mg tkC tkH tkL ) (F : At K mg "_law_heights" s__law_heights ["purse", "many", "least", "most"]) (d__law_draw : Def P w K mg base "_law_draw" 1 ["purse", "many"] spDraw) : Def P w K mg base "_law_heights" 2 ["purse", "many", "least", "most"] spHeights := by
  refine Def.mk' F sc__law_heights (fun vs H Q E h => ?_) (fun f cdv Ar outer s H vs Q E hr h => ⟨_, (pss_one (ps_ret (pe_lc (own := [("place", 4)]) (g := gName 4) (tt := tYes) rfl sc__law_heights.nd (pi_range1 rfl T.n_range (pa_cons (pv 1) pa_nil)) (blkOk_by (own := [("place", 4)]) (N := ["purse", "many", "least", "most", "place"]) (sc := defScope s__law_heights) (by decide +kernel)) (fun _ _ _ _ _ => (pg_name (i := 4) sc__law_heights.nd rfl (Or.inl rfl))) (fun _ _ _ _ _ => pts_nil) (fun _ _ _ _ _ => (pe_op op_add (pv 2) (pe_d d__law_draw (hr.mono (by decide)) passL (pa_cons (pv 0) (pa_cons (pe_op op_add (pe_op op_sub (pv 3) (pv 2)) pe_int) pa_nil)))))))), ?_⟩)
  · obtain ⟨p, n, rfl, _⟩ := h
    rfl
  · obtain ⟨p, n, rfl, h0, h1, hp, q⟩ := h
    walk_at "go0"
    refine lcR1 (by omega) (by omega) (fun l i h => ∃ zs : List Int, zs.length = i ∧ (∀ z ∈ zs, 1 ≤ z ∧ z ≤ 6) ∧ h l = some (.lst (zs.map V.int)) ∧ ExB p H h ∧ Pur h p ∧ H l = none) ?_ ?_ ?_ (fun _ => rfl)
    · exact fun l h hl e hn => ⟨[], rfl, fun z hz => (List.not_mem_nil hz).elim, hn, Lay.Ex.b e, hp.ex e, hl⟩
    · intro l i h hi ⟨zs, hz, hall, hl, e, hp3, ln⟩
      have nlp : l ≠ p := by walk_at "ne"
      walk_at "go"
      refine ⟨p, _, rfl, by omega, by omega, hp3, fun r H4 r0 r1 e4 hp4 => ?_⟩
      walk_at "go"
      refine appW (e4 _ _ nlp hl) (by rw [List.length_map]; omega) fun H5 e5 h5 => ⟨zs ++ [1 + r], by rw [List.length_append, hz]; rfl, fun z hz' => ?_, by rw [List.map_append]; exact h5, ExB.exB (e.trans e4) e5 ln, hp4.upd e5 nlp.symm, ln⟩
      rcases List.mem_append.mp hz' with q | q
      · exact hall z q
      · rw [List.mem_singleton.mp q]
        omega
    · intro l h ⟨zs, hz, hall, hl, e, hp3, ln⟩
      walk_at "go"
      exact q l h zs ln e hp3 (by walk_at "ne") (by omega) hall hl
def spWider (K : PySem.W.Frag) : Sp := fun vs H Q _ => ∃ (r : Addr) (sp : Prs) (fr k : Int), vs = [.ref r, .int k] ∧ RowAt K H r sp fr ∧ WK.Ok sp ∧ WK.HiB sp 100 ∧ sp.length ≤ 64 ∧ 1 ≤ k ∧ k ≤ 10000 ∧ ∀ r2 H2, Ex H H2 → RowAt K H2 r2 (WK.spw sp k) fr → Q (.ref r2) H2
abbrev s__law_wider : Stmt := top 40
theorem sc__law_wider : FnScope ["row", "factor", "low", "high"] ["row", "factor"] (defScope s__law_wider) := ⟨rfl, rfl, rfl, by decide +kernel, rfl, by decide +kernel, by decide +kernel⟩
theorem ok_wider (T : Txt K mg tkC tkH tkL ) (F : At K mg "_law_wider" s__law_wider ["row", "factor"]) : Def P w K mg base "_law_wider" 1 ["row", "factor"] (spWider K) := by
  refine Def.mk' F sc__law_wider (fun vs H Q E h => ?_) (fun f cdv Ar outer s H vs Q E hr h => ⟨_, (pss_one (ps_ret (pe_tup (pa_cons pe_str (pa_cons (pe_lc (own := [("low", 2), ("high", 3)]) (g := (gTup K 2 (gCons (gName 2) (gCons (gName 3) gNil)))) (tt := tYes) rfl sc__law_wider.nd (pi_list (pe_ix (r := rIxT K) ix_tup (pv 0) pe_int (fun _ _ => rfl))) (blkOk_by (own := [("low", 2), ("high", 3)]) (N := ["row", "factor", "low", "high"]) (sc := defScope s__law_wider) (by decide +kernel)) (fun _ _ _ _ _ => (pg_tup (n := 2) rfl (pgs_cons (pg_name (i := 2) sc__law_wider.nd rfl (Or.inl rfl)) (pgs_cons (pg_name (i := 3) sc__law_wider.nd rfl (Or.inl rfl)) pgs_nil)))) (fun _ _ _ _ _ => pts_nil) (fun _ _ _ _ _ => (pe_tup (pa_cons (pe_op op_mul (pv 2) (pv 1)) (pa_cons (pe_op op_mul (pv 3) (pv 1)) pa_nil))))) (pa_cons (pe_ix (r := rIxT K) ix_tup (pv 0) pe_int (fun _ _ => rfl)) pa_nil)))))), ?_⟩)
  · obtain ⟨r, sp, fr, k, rfl, _⟩ := h
    rfl
  · obtain ⟨r, sp, fr, k, rfl, ⟨a, ps, h1, hB⟩, ho, hb, h64, k1, k2, q⟩ := h
    walk_at "go0"
    refine lcP (hB.pr (K := K)) (fun p i h => ∃ qs, PB h p qs (WK.spw (sp.take i) k) ∧ Ex H h ∧ H p = none) ?_ ?_ ?_ ?_
    · exact fun p h n e hp => ⟨[], PB.nil hp, e, n⟩
    · rintro p i h _ ⟨qs, _, e, _⟩
      exact ex_l e (L2.SqL.of hB.1)
    · rintro p i h hi ⟨qs, hq, e, n⟩
      have hg := (hB.ex e).2.2 i (by omega) (by omega)
      have o := ho i (by omega) (by omega)
      have b := hb i (by omega) (by omega)
      walk_at "go"
      refine r_yesC rfl ?_
      walk_at "go"
      refine r_newT (len3 rfl) fun t H3 _ e3 ht => ?_
      refine hq.appW (by rw [hq.2.1, WK.spw_len, List.length_take]; omega) e3 ht fun H5 e5 b5 => ⟨qs ++ [t], ?_, ExB.ex (e.trans e3) e5 n, n⟩
      rw [WK.spw_take hi] at b5
      exact b5
    · rintro p h ⟨qs, hq, e, n⟩
      rw [List.take_length] at hq
      have hr := e _ _ h1
      walk_at "go"
      exact r_newT (len3 rfl) fun r2 H2 _ e2 h2 => q r2 H2 (e.trans e2) ⟨p, qs, h2, hq.ex e2⟩
def spLHeld (K : PySem.W.Frag) : Sp := fun vs H Q _ => ∃ (r : Addr) (sp : Prs) (fr : Int), vs = [.ref r] ∧ RowAt K H r sp fr ∧ sp.length ≤ 64 ∧ ∀ l H2, H l = none → Ex H H2 → H2 l = some (.lst ((WK.heldL sp).map V.int)) → Q (.ref l) H2
abbrev s__law_held : Stmt := top 41
theorem sc__law_held : FnScope ["row", "found", "place", "low", "high"] ["row"] (defScope s__law_held) := ⟨rfl, rfl, rfl, by decide +kernel, rfl, by decide +kernel, by decide +kernel⟩
theorem ok_lheld (T : Txt K mg tkC tkH tkL ) (F : At K mg "_law_held" s__law_held ["row"]) : Def P w K mg base "_law_held" 1 ["row"] (spLHeld K) := by
  refine Def.mk' F sc__law_held (fun vs H Q E h => ?_) (fun f cdv Ar outer s H vs Q E hr h => ⟨_, (pss_cons (ps_set (i := 1) sc__law_held.nd rfl (Or.inl rfl) (pe_lst pa_nil))
      (pss_cons (ps_for (passes_of rfl) rfl (pi_range1 rfl T.n_range (pa_cons (pe_callB (r := Lay.rLen K) c_len rfl T.n_len PySem.boot_len (pa_cons (pe_ix (r := rIxT K) ix_tup (pv 0) pe_int (fun _ _ => rfl)) pa_nil)) pa_nil)) (pg_name (i := 2) sc__law_held.nd rfl (Or.inl rfl)) (pss_one (ps_expr (pe_bm PySem.F.plainAttrs_list PySem.F.slot_list_append PySem.F.type_list_append mt_append (pv 1) (pa_cons (pe_callB (r := rMax K) (cr_max rfl) rfl T.n_max (by decide +kernel) (pa_cons (pe_lc (own := [("low", 3), ("high", 4)]) (g := (gTup K 2 (gCons (gName 3) (gCons (gName 4) gNil)))) (tt := tYes) rfl sc__law_held.nd (pi_list (pe_slice (r := rSlL K) sl_list (pe_ix (r := rIxT K) ix_tup (pv 0) pe_int (fun _ _ => rfl)) po_none (po_some (pe_op op_add (pv 2) pe_int)))) (blkOk_by (own := [("low", 3), ("high", 4)]) (N := ["row", "found", "place", "low", "high"]) (sc := defScope s__law_held) (by decide +kernel)) (fun _ _ _ _ _ => (pg_tup (n := 2) rfl (pgs_cons (pg_name (i := 3) sc__law_held.nd rfl (Or.inl rfl)) (pgs_cons (pg_name (i := 4) sc__law_held.nd rfl (Or.inl rfl)) pgs_nil)))) (fun _ _ _ _ _ => pts_nil) (fun _ _ _ _ _ => (pv 3))) pa_nil)) pa_nil)))))
      (pss_one (ps_ret (pv 1))))), ?_⟩)
  · obtain ⟨r, sp, fr, rfl, _⟩ := h
    rfl
  · obtain ⟨r, sp, fr, rfl, ⟨a, ps, h1, hB⟩, h64, q⟩ := h
    have hP : PrL K H a ps sp := hB.pr
    walk_at "go0"
    refine r_newI0 fun l H1 nl e1 hl => ?_
    have hP1 := hP.ex e1
    walk_at "go"
    refine forR1 (by omega) (by omega) (fun i s h => ∃ v2 v3 v4, s = [some (.ref r), some (.ref l), v2, v3, v4] ∧ Ex H h ∧ h l = some (.lst (((List.range i).map (WK.top sp)).map V.int))) ?_ ?_ ?_
    · exact ⟨_, _, _, rfl, e1, hl⟩
    · rintro i s h hi ⟨v2, v3, v4, rfl, e, hl⟩
      have hr := e _ _ h1
      have hP2 := hP.ex e
      walk_at "go"
      refine r_slPE (e := i + 1) hP2 (by omega) (by omega) fun p2 H3 n3 e3 b3 => ?_
      refine lcP (b3.pr (K := K)) (fun p j h => h p = some (.lst (((WK.lows sp).take j).map V.int)) ∧ Ex H3 h ∧ H3 p = none) ?_ ?_ ?_ ?_
      · exact fun p h n e hp => ⟨hp, e, n⟩
      · rintro p j h _ ⟨_, e, _⟩
        exact ex_l e (L2.SqL.of b3.1)
      · rintro p j h' hj ⟨hp, e', n⟩
        have hg := (b3.ex e').2.2 j (by omega) (by omega)
        rw [List.length_take] at hj
        rw [zl_take (by omega) (by omega)] at hg
        walk_at "go"
        refine r_yesC rfl ?_
        walk_at "go"
        refine appW hp (by rw [List.length_map, List.length_take]; omega) fun H5 e5 h5 => ⟨?_, ExB.ex e' e5 n, n⟩
        have hj' : j < (WK.lows sp).length := by unfold WK.lows; rw [List.length_map]; omega
        have eg : (WK.lows sp)[j] = zl sp j := by
          have a : (WK.lows sp)[j] = (sp[j]'(by omega)).1 := List.getElem_map _
          rw [a]
          unfold zl
          rw [Int.toNat_natCast, List.getD_eq_getElem?_getD, List.getElem?_eq_getElem (by omega)]
          rfl
        rw [List.take_succ_eq_append_getElem hj', eg, List.map_append]
        exact h5
      · rintro p h' ⟨hp, e', n⟩
        rw [List.length_take, Nat.min_eq_left (by omega)] at hp
        walk_at "go"
        have lp : 0 < ((WK.lows sp).take (i + 1)).length := by
          rw [List.length_take]
          unfold WK.lows
          rw [List.length_map]
          omega
        refine r_maxI (L2.SqL.of hp) lp ?_
        rw [WK.lows_take i (by omega)]
        have hl' := e' _ _ (e3 _ _ hl)
        walk_at "go"
        refine r_appI hl' (by rw [List.length_map, List.length_range]; omega) fun H6 e6 h6 _ => ?_
        refine r_next ⟨_, _, _, rfl, ExB.ex (e.trans (e3.trans e')) e6 nl, ?_⟩
        rw [List.range_succ, List.map_append]
        exact h6
    · rintro s h ⟨v2, v3, v4, rfl, e, hl⟩
      walk_at "go"
      exact q l h nl e hl
def spLEven (K : PySem.W.Frag) : Sp := fun vs H Q _ => ∃ (r : Addr) (sp : Prs) (fr : Int), vs = [.ref r] ∧ RowAt K H r sp fr ∧ sp.length ≤ 64 ∧ ∀ l H2, H l = none → Ex H H2 → H2 l = some (.lst ((WK.evL sp).map V.int)) → Q (.ref l) H2
abbrev s__law_even : Stmt := top 42
theorem sc__law_even : FnScope ["row", "place"] ["row"] (defScope s__law_even) := ⟨rfl, rfl, rfl, by decide +kernel, rfl, by decide +kernel, by decide +kernel⟩
theorem ok_leven (T : Txt K mg tkC tkH tkL ) (F : At K mg "_law_even" s__law_even ["row"]) : Def P w K mg base "_law_even" 1 ["row"] (spLEven K) := by
  refine Def.mk' F sc__law_even (fun vs H Q E h => ?_) (fun f cdv Ar outer s H vs Q E hr h => ⟨_, (pss_one (ps_ret (pe_lc (own := [("place", 1)]) (g := gName 1) (tt := tYes) rfl sc__law_even.nd (pi_range2 rfl T.n_range (pa_cons pe_int (pa_cons (pe_callB (r := Lay.rLen K) c_len rfl T.n_len PySem.boot_len (pa_cons (pe_ix (r := rIxT K) ix_tup (pv 0) pe_int (fun _ _ => rfl)) pa_nil)) pa_nil))) (blkOk_by (own := [("place", 1)]) (N := ["row", "place"]) (sc := defScope s__law_even) (by decide +kernel)) (fun _ _ _ _ _ => (pg_name (i := 1) sc__law_even.nd rfl (Or.inl rfl))) (fun _ _ _ _ _ => pts_nil) (fun _ _ _ _ _ => (pe_callB (c_max2 rfl) rfl T.n_max (by decide +kernel) (pa_cons (pe_ix (r := rIxT K) ix_tup (pe_ix (r := rIxL K) ix_list (pe_ix (r := rIxT K) ix_tup (pv 0) pe_int (fun _ _ => rfl)) (pe_op op_sub (pv 1) pe_int) (fun _ _ => rfl)) pe_int (fun _ _ => rfl)) (pa_cons (pe_ix (r := rIxT K) ix_tup (pe_ix (r := rIxL K) ix_list (pe_ix (r := rIxT K) ix_tup (pv 0) pe_int (fun _ _ => rfl)) (pv 1) (fun _ _ => rfl)) pe_int (fun _ _ => rfl)) pa_nil))))))), ?_⟩)
  · obtain ⟨r, sp, fr, rfl, _⟩ := h
    rfl
  · obtain ⟨r, sp, fr, rfl, ⟨a, ps, h1, hB⟩, h64, q⟩ := h
    have hP : PrL K H a ps sp := hB.pr
    walk_at "go0"
    refine lcF2 (f := fun i : Nat => mx (zl sp i) (zl sp ((i + 1 : Nat) : Int))) ⟨by decide, by decide⟩ ⟨by omega, by omega⟩ (by omega) ?_ ?_ (fun _ => rfl)
    · intro k h R hk e k2
      have hP1 := hP.ex e
      have hr := e _ _ h1
      have g1 := hP1.2.2 (1 + k) (by omega) (by omega)
      have g0 := hP1.2.2 (1 + k - 1) (by omega) (by omega)
      walk_at "go"
      have a := k2 h (Ex.refl h)
      rw [show (1 : Int) + k - 1 = k by omega, show (1 : Int) + k = ((k + 1 : Nat) : Int) by omega]
      exact a
    · intro p h n e hp
      rw [show ((sp.length : Int) - 1).toNat = sp.length - 1 by omega] at hp
      walk_at "go"
      exact q p h n e hp
def spLCell (K : PySem.W.Frag) : Sp := fun vs H Q _ => ∃ (a : Addr) (hs : List Int) (line : Int), vs = [.ref a, .int line] ∧ SqL K H a (hs.map V.int) ∧ Q (.int (WK.cnt hs line hs.length + 1)) H
abbrev s__law_cell : Stmt := top 30
theorem sc__law_cell : FnScope ["heights", "line", "cell", "edge", "height"] ["heights", "line"] (defScope s__law_cell) := ⟨rfl, rfl, rfl, by decide +kernel, rfl, by decide +kernel, by decide +kernel⟩
theorem ok_lcell (T : Txt K mg tkC tkH tkL ) (F : At K mg "_law_cell" s__law_cell ["heights", "line"]) : Def P w K mg base "_law_cell" 1 ["heights", "line"] (spLCell K) := by
  refine Def.mk' F sc__law_cell (fun vs H Q E h => ?_) (fun f cdv Ar outer s H vs Q E hr h => ⟨_, (pss_cons (ps_set (i := 2) sc__law_cell.nd rfl (Or.inl rfl) pe_int)
      (pss_cons (ps_set (i := 3) sc__law_cell.nd rfl (Or.inl rfl) pe_int)
      (pss_cons (ps_for (passes_of rfl) rfl (pi_list (pv 0)) (pg_name (i := 4) sc__law_cell.nd rfl (Or.inl rfl)) (pss_cons (ps_aug (i := 3) sc__law_cell.nd rfl (Or.inl rfl) (pv 4) ip_add)
      (pss_one (ps_if (pt_cmpR op_le (pv 3) (pv 1) (nomark _)) (pss_one (ps_aug (i := 2) sc__law_cell.nd rfl (Or.inl rfl) pe_int ip_add)) pss_nil))))
      (pss_one (ps_ret (pv 2)))))), ?_⟩)
  · obtain ⟨a, hs, line, rfl, _⟩ := h
    rfl
  · obtain ⟨a, hs, line, rfl, ha, q⟩ := h
    walk_at "go0"
    refine forI ha (fun i s h => (∃ v, s = [some (.ref a), some (.int line), some (.int (WK.cnt hs line i + 1)), some (.int (hs.take i).sum), v]) ∧ h = H) ⟨⟨_, rfl⟩, rfl⟩ ?_ ?_ ?_
    · rintro i s h _ ⟨_, rfl⟩
      exact ha
    · rintro i z s h hz ⟨⟨v, rfl⟩, rfl⟩
      obtain ⟨hi, ez⟩ := List.getElem?_eq_some_iff.mp hz
      have ts : (hs.take i).sum + z = (hs.take (i + 1)).sum := by rw [← ez]; exact take_sum hi
      walk_at "go"
      rw [ts]
      have ed : (hs.take (i + 1)).sum = WK.ed hs i := rfl
      refine r_ite (fun c => ?_) (fun c => ?_)
      · walk_at "go"
        refine ⟨⟨some (.int z), ?_⟩, rfl⟩
        have e : ((WK.cnt hs line (i + 1) : Nat) : Int) = WK.cnt hs line i + 1 := by rw [WK.cnt, if_pos (show WK.ed hs i ≤ line from c)]; rfl
        rw [e]
        rfl
      · walk_at "go"
        refine ⟨⟨some (.int z), ?_⟩, rfl⟩
        have e : ((WK.cnt hs line (i + 1) : Nat) : Int) = WK.cnt hs line i := by rw [WK.cnt, if_neg (show ¬ WK.ed hs i ≤ line from c)]; rfl
        rw [e]
        rfl
    · rintro s h ⟨⟨v, rfl⟩, rfl⟩
      walk_at "go"
      exact q
def spDivisor : Sp := fun vs H Q _ => ∃ (a b : Nat), vs = [.int a, .int b] ∧ b ≤ 1000000000 ∧ Q (.int (Nat.gcd a b : Nat)) H
abbrev s__law_divisor : Stmt := top 43
theorem sc__law_divisor : FnScope ["one", "other", "turn", "rest"] ["one", "other"] (defScope s__law_divisor) := ⟨rfl, rfl, rfl, by decide +kernel, rfl, by decide +kernel, by decide +kernel⟩
theorem ok_divisor (T : Txt K mg tkC tkH tkL ) (F : At K mg "_law_divisor" s__law_divisor ["one", "other"]) : Def P w K mg base "_law_divisor" 1 ["one", "other"] spDivisor := by
  refine Def.mk' F sc__law_divisor (fun vs H Q E h => ?_) (fun f cdv Ar outer s H vs Q E hr h => ⟨_, (pss_cons (ps_for (passes_of rfl) rfl (pi_range1 rfl T.n_range (pa_cons pe_int pa_nil)) (pg_name (i := 2) sc__law_divisor.nd rfl (Or.inl rfl)) (pss_cons (ps_if (pt_cmpR op_eq (pv 1) pe_int (nomark _)) (pss_one (ps_ret (pv 0))) pss_nil)
      (pss_cons (ps_set (i := 3) sc__law_divisor.nd rfl (Or.inl rfl) (pe_op op_mod (pv 0) (pv 1)))
      (pss_cons (ps_set (i := 0) sc__law_divisor.nd rfl (Or.inl rfl) (pv 1))
      (pss_one (ps_set (i := 1) sc__law_divisor.nd rfl (Or.inl rfl) (pv 3)))))))
      (pss_one (ps_ret (pv 0)))), ?_⟩)
  · obtain ⟨a, b, rfl, _⟩ := h
    rfl
  · obtain ⟨a, b, rfl, hb, q⟩ := h
    walk_at "go0"
    refine forR1 (by decide) (by decide) (fun i s h => (∃ v2 v3, s = [some (.int (WK.eit (a, b) i).1), some (.int (WK.eit (a, b) i).2), v2, v3]) ∧ h = H ∧ ∀ j, j < i → (WK.eit (a, b) j).2 ≠ 0) ?_ ?_ ?_
    · exact ⟨⟨_, _, rfl⟩, rfl, fun j z => absurd z (Nat.not_lt_zero _)⟩
    · rintro i s h hi ⟨⟨v2, v3, rfl⟩, rfl, hz⟩
      have g := WK.eit_gcd (a, b) i
      walk_at "go"
      refine r_ite (fun c => ?_) (fun c => ?_)
      · have c' : (WK.eit (a, b) i).2 = 0 := by omega
        rw [c', Nat.gcd_zero_right] at g
        walk_at "go"
        rw [g]
        exact q
      · have c' : (WK.eit (a, b) i).2 ≠ 0 := by omega
        walk_at "go"
        refine ⟨⟨some (.int i), some (.int ((WK.eit (a, b) i).1 % (WK.eit (a, b) i).2)), ?_⟩, rfl, fun j z => ?_⟩
        · have e : WK.eit (a, b) (i + 1) = ((WK.eit (a, b) i).2, (WK.eit (a, b) i).1 % (WK.eit (a, b) i).2) := by
            show WK.est (WK.eit (a, b) i) = _
            unfold WK.est
            rw [if_neg c']
          rw [e]
          simp only [Int.natCast_emod]
          rfl
        · by_cases ej : j = i
          · rw [ej]; exact c'
          · exact hz j (by omega)
    · rintro s h ⟨_, _, hz⟩
      exact absurd (WK.eit_small (a, b) 31 (by show b < 2 ^ 31; omega)) (hz 62 (by decide))
end
end K16
namespace K16
open PySem PySem.Spec PyProof.Rows L2 Evl Lay
section
variable {P : Program} {w : World} {K : PySem.W.Frag} {mg : Str → Option Value} {base : Heap} {CRuler CTable CBlock : Addr} {tkC tkH tkL : Tok}
theorem due2 {sp : Prs} {hs : List Int} {line : Int} (hh : WK.HOk hs) (hm : ∀ z ∈ hs, z ≤ 1000000000) : 1 ≤ (WK.due sp hs line).2 ∧ (WK.due sp hs line).2 ≤ 1000000000 := by
  obtain ⟨cn, _, _⟩ := WK.cnt_spec hh line
  unfold WK.due
  split
  · exact ⟨by show (1 : Int) ≤ 1; decide, by show (1 : Int) ≤ 1000000000; decide⟩
  split
  · exact ⟨by show (1 : Int) ≤ 1; decide, by show (1 : Int) ≤ 1000000000; decide⟩
  split
  · exact ⟨by show (1 : Int) ≤ 1; decide, by show (1 : Int) ≤ 1000000000; decide⟩
  have hc : WK.cnt hs line hs.length < hs.length := by omega
  have hL : gi hs (WK.cnt hs line hs.length) = hs[WK.cnt hs line hs.length] := by
    unfold gi
    rw [Int.toNat_natCast, List.getD_eq_getElem?_getD, List.getElem?_eq_getElem hc]
    rfl
  refine ⟨?_, ?_⟩
  · show 1 ≤ gi hs _
    rw [hL]; exact hh _ (List.getElem_mem hc)
  · show gi hs _ ≤ _
    rw [hL]; exact hm _ (List.getElem_mem hc)
def spDue (K : PySem.W.Frag) : Sp := fun vs H Q _ => ∃ (r a : Addr) (sp : Prs) (fr : Int) (hs : List Int) (line : Int), vs = [.ref r, .ref a, .int line] ∧ RowAt K H r sp fr ∧ SqL K H a (hs.map V.int) ∧ 2 ≤ sp.length ∧ sp.length ≤ 64 ∧ hs.length < sp.length ∧ WK.HOk hs ∧ (∀ z ∈ hs, z ≤ 1000000000) ∧
  ∀ t H2, Ex H H2 → H2 t = some (.tup [.int (WK.due sp hs line).1, .int (WK.due sp hs line).2]) → Q (.ref t) H2
abbrev s__law_even_due : Stmt := top 44
theorem sc__law_even_due : FnScope ["row", "heights", "line", "lows", "cell", "past", "height"] ["row", "heights", "line"] (defScope s__law_even_due) := ⟨rfl, rfl, rfl, by decide +kernel, rfl, by decide +kernel, by decide +kernel⟩
theorem ok_due (T : Txt K mg tkC tkH tkL ) (F : At K mg "_law_even_due" s__law_even_due ["row", "heights", "line"]) (d__law_even : Def P w K mg base "_law_even" 1 ["row"] (spLEven K)) (d__law_cell : Def P w K mg base "_law_cell" 1 ["heights", "line"] (spLCell K)) :
    Def P w K mg base "_law_even_due" 2 ["row", "heights", "line"] (spDue K) := by
  refine Def.mk' F sc__law_even_due (fun vs H Q E h => ?_) (fun f cdv Ar outer s H vs Q E hr h => ⟨_, (pss_cons (ps_set (i := 3) sc__law_even_due.nd rfl (Or.inl rfl) (pe_d d__law_even (hr.mono (by decide)) (passes_call (takes_of rfl rfl rfl rfl) (fun _ _ _ _ h => h)) (pa_cons (pv 0) pa_nil)))
      (pss_cons (ps_if (pt_cmpR (r := rEqD K) (op_eqD hr.units) (pv 1) (pe_lst pa_nil) (nomark _)) (pss_one (ps_ret (pe_tup (pa_cons (pe_ix (r := rIxT K) ix_tup (pe_ix (r := rIxL K) ix_list (pe_ix (r := rIxT K) ix_tup (pv 0) pe_int (fun _ _ => rfl)) pe_int (fun _ _ => rfl)) pe_int (fun _ _ => rfl)) (pa_cons pe_int pa_nil))))) pss_nil)
      (pss_cons (ps_set (i := 4) sc__law_even_due.nd rfl (Or.inl rfl) (pe_d d__law_cell (hr.mono (by decide)) (passes_call (takes_of rfl rfl rfl rfl) (fun _ _ _ _ h => h)) (pa_cons (pv 1) (pa_cons (pv 2) pa_nil))))
      (pss_cons (ps_if (pt_cmpR op_eq (pv 4) pe_int (nomark _)) (pss_one (ps_ret (pe_tup (pa_cons (pe_ix (r := rIxL K) ix_list (pv 3) pe_int (fun _ _ => rfl)) (pa_cons pe_int pa_nil))))) pss_nil)
      (pss_cons (ps_if (pt_cmpR op_eq (pv 4) (pe_op op_add (pe_callB (r := Lay.rLen K) c_len rfl T.n_len PySem.boot_len (pa_cons (pv 1) pa_nil)) pe_int) (nomark _)) (pss_one (ps_ret (pe_tup (pa_cons (pe_ix (r := rIxL K) ix_list (pv 3) (pe_op op_sub (pe_callB (r := Lay.rLen K) c_len rfl T.n_len PySem.boot_len (pa_cons (pv 1) pa_nil)) pe_int) (fun _ _ => rfl)) (pa_cons pe_int pa_nil))))) pss_nil)
      (pss_cons (ps_set (i := 5) sc__law_even_due.nd rfl (Or.inl rfl) (pe_op op_sub (pv 2) (pe_callB (r := rSum K) (cr_sum rfl) rfl T.n_sum (by decide +kernel) (pa_cons (pe_slice (r := rSlL K) sl_list (pv 1) po_none (po_some (pe_op op_sub (pv 4) pe_int))) pa_nil))))
      (pss_cons (ps_set (i := 6) sc__law_even_due.nd rfl (Or.inl rfl) (pe_ix (r := rIxL K) ix_list (pv 1) (pe_op op_sub (pv 4) pe_int) (fun _ _ => rfl)))
      (pss_one (ps_ret (pe_tup (pa_cons (pe_op op_add (pe_op op_mul (pe_ix (r := rIxL K) ix_list (pv 3) (pe_op op_sub (pv 4) pe_int) (fun _ _ => rfl)) (pe_op op_sub (pv 6) (pv 5))) (pe_op op_mul (pe_ix (r := rIxL K) ix_list (pv 3) (pe_op op_sub (pv 4) pe_int) (fun _ _ => rfl)) (pv 5))) (pa_cons (pv 6) pa_nil)))))))))))), ?_⟩)
  · obtain ⟨r, a, sp, fr, hs, line, rfl, _⟩ := h
    rfl
  · obtain ⟨r, a, sp, fr, hs, line, rfl, hR, ha, h2, h64, hlt, hh, hm, q⟩ := h
    have el := WK.evL_len sp
    obtain ⟨cn, clo, chi⟩ := WK.cnt_spec hh line
    walk_at "go0"
    refine ⟨r, sp, fr, rfl, hR, h64, fun l H1 nl e1 hl => ?_⟩
    have ha1 := ex_l e1 ha
    obtain ⟨b, ps, h1, hB⟩ := hR.ex e1
    walk_at "go"
    refine r_newI0 fun n H2 nn e2 hn => ?_
    have ha2 := ex_l e2 ha1
    have hl2 := e2 _ _ hl
    have h1' := e2 _ _ h1
    have hP := (hB.ex e2).pr (K := K)
    refine r_eqL (ms := []) ha2 (L2.SqL.of hn) ?_
    walk_at "go"
    refine r_ite (fun c => ?_) (fun c => ?_)
    · walk_at "go"
      refine r_newT (len3 rfl) fun t H3 _ e3 ht => ?_
      refine q t H3 (e1.trans (e2.trans e3)) ?_
      unfold WK.due
      rw [if_pos (by rw [c]; rfl)]
      exact ht
    have hz : hs.length ≠ 0 := fun z => c (List.length_eq_zero_iff.mp z)
    walk_at "go"
    refine ⟨a, hs, line, rfl, ha2, ?_⟩
    generalize hcc : WK.cnt hs line hs.length = c0 at *
    walk_at "go"
    refine r_ite (fun c1 => ?_) (fun c1 => ?_)
    · walk_at "go"
      rw [WK.evL_at (by decide) (by omega)]
      refine r_newT (len3 rfl) fun t H3 _ e3 ht => ?_
      refine q t H3 (e1.trans (e2.trans e3)) ?_
      unfold WK.due
      rw [if_neg hz, hcc, if_pos (by omega)]
      exact ht
    walk_at "go"
    refine r_ite (fun c2 => ?_) (fun c2 => ?_)
    · walk_at "go"
      rw [WK.evL_at (by omega) (by omega)]
      refine r_newT (len3 rfl) fun t H3 _ e3 ht => ?_
      refine q t H3 (e1.trans (e2.trans e3)) ?_
      unfold WK.due
      rw [if_neg hz, hcc, if_neg (by omega), if_pos (by omega)]
      exact ht
    have hc : c0 < hs.length := by omega
    have hL : gi hs c0 = hs[c0] := by
      unfold gi
      rw [Int.toNat_natCast, List.getD_eq_getElem?_getD, List.getElem?_eq_getElem hc]
      rfl
    have l1 : 1 ≤ gi hs c0 := by rw [hL]; exact hh _ (List.getElem_mem hc)
    have l2 : gi hs c0 ≤ 1000000000 := by rw [hL]; exact hm _ (List.getElem_mem hc)
    have ts : (hs.take (c0 + 1)).sum = (hs.take c0).sum + gi hs c0 := by rw [hL]; exact (take_sum hc).symm
    have p0 : (hs.take c0).sum ≤ line := by
      have a := clo (c0 - 1) (by omega)
      unfold WK.ed at a
      rw [show c0 - 1 + 1 = c0 by omega] at a
      exact a
    have p1 : line < (hs.take c0).sum + gi hs c0 := by
      have a := chi c0 (Nat.le_refl _) hc
      unfold WK.ed at a
      rw [ts] at a
      exact a
    walk_at "go"
    refine r_slE (e := c0) ha2 (by omega) (by omega) fun p2 H3 n3 e3 h3 => ?_
    have ha3 := ex_l e3 ha2
    have hl3 := e3 _ _ hl2
    walk_at "go"
    refine r_sum (L2.SqL.of h3) ?_
    walk_at "go"
    rw [show (c0 : Int) + 1 - 1 = c0 by omega, show (c0 : Int) + 1 - 2 = c0 - 1 by omega, WK.evL_at (i := (c0 : Int) - 1) (by omega) (by omega)]
    walk_at "go"
    rw [show (c0 : Int) + 1 - 1 = c0 by omega, WK.evL_at (i := (c0 : Int)) (by omega) (by omega)]
    walk_at "go"
    refine r_newT (len3 rfl) fun t H4 _ e4 ht => ?_
    refine q t H4 (e1.trans (e2.trans (e3.trans e4))) ?_
    unfold WK.due
    rw [if_neg hz, hcc, if_neg (by omega), if_neg (by omega)]
    exact ht
def spValue (K : PySem.W.Frag) : Sp := fun vs H Q _ => ∃ (r a t : Addr) (sp : Prs) (fr : Int) (hs : List Int) (line u v : Int), vs = [.ref r, .ref a, .int line, .ref t] ∧ RowAt K H r sp fr ∧ SqL K H a (hs.map V.int) ∧ 2 ≤ sp.length ∧ sp.length ≤ 64 ∧ hs.length < sp.length ∧ WK.HOk hs ∧ (∀ z ∈ hs, z ≤ 1000000000) ∧
  H t = some (.tup [.int u, .int v]) ∧ WK.ValOk sp hs line u v ∧ ∀ H2, Ex H H2 → Q (.bl true) H2
abbrev s__law_value_right : Stmt := top 45
theorem sc__law_value_right : FnScope ["row", "heights", "line", "told", "above", "below", "due", "low", "high"] ["row", "heights", "line", "told"] (defScope s__law_value_right) := ⟨rfl, rfl, rfl, by decide +kernel, rfl, by decide +kernel, by decide +kernel⟩
theorem ok_value (T : Txt K mg tkC tkH tkL ) (F : At K mg "_law_value_right" s__law_value_right ["row", "heights", "line", "told"]) (d__law_even_due : Def P w K mg base "_law_even_due" 2 ["row", "heights", "line"] (spDue K)) (d__law_divisor : Def P w K mg base "_law_divisor" 1 ["one", "other"] spDivisor)
    (d__law_cell : Def P w K mg base "_law_cell" 1 ["heights", "line"] (spLCell K)) : Def P w K mg base "_law_value_right" 3 ["row", "heights", "line", "told"] (spValue K) := by
  refine Def.mk' F sc__law_value_right (fun vs H Q E h => ?_) (fun f cdv Ar outer s H vs Q E hr h => ⟨_, (pss_cons (ps_if (PW.pt (pw_or (pt_not (pt_val (pe_callB (r := rIsi K) call_isi rfl T.n_isinstance (by decide +kernel) (pa_cons (pv 3) (pa_cons (pe_bltn (v := .ty "tuple") (u := .type "tuple") rfl T.n_tuple (by decide +kernel) rfl) pa_nil))))) (pw_or1 (pt_cmpR op_ne (pe_callB (r := Lay.rLen K) c_len rfl T.n_len PySem.boot_len (pa_cons (pv 3) pa_nil)) pe_int (nomark _))))) (pss_one (ps_ret pe_bl)) pss_nil)
      (pss_cons (ps_asg (pv 3) (pg_tup (n := 2) rfl (pgs_cons (pg_name (i := 4) sc__law_value_right.nd rfl (Or.inl rfl)) (pgs_cons (pg_name (i := 5) sc__law_value_right.nd rfl (Or.inl rfl)) pgs_nil))))
      (pss_cons (ps_set (i := 6) sc__law_value_right.nd rfl (Or.inl rfl) (pe_d d__law_even_due (hr.mono (by decide)) (passes_call (takes_of rfl rfl rfl rfl) (fun _ _ _ _ h => h)) (pa_cons (pv 0) (pa_cons (pv 1) (pa_cons (pv 2) pa_nil)))))
      (pss_cons (ps_if (PW.pt (pw_or (pt_cmpR op_lt (pv 5) pe_int (nomark _)) (pw_or (pt_cmpR op_ne (pe_op op_mul (pv 4) (pe_ix (r := rIxT K) ix_tup (pv 6) pe_int (fun _ _ => rfl))) (pe_op op_mul (pe_ix (r := rIxT K) ix_tup (pv 6) pe_int (fun _ _ => rfl)) (pv 5)) (nomark _)) (pw_or1 (pt_cmpR op_ne (pe_d d__law_divisor (hr.mono (by decide)) (passes_call (takes_of rfl rfl rfl rfl) (fun _ _ _ _ h => h)) (pa_cons (pv 4) (pa_cons (pv 5) pa_nil))) pe_int (nomark _)))))) (pss_one (ps_ret pe_bl)) pss_nil)
      (pss_cons (ps_asg (pe_ix (r := rIxL K) ix_list (pe_ix (r := rIxT K) ix_tup (pv 0) pe_int (fun _ _ => rfl)) (pe_op op_sub (pe_d d__law_cell (hr.mono (by decide)) (passes_call (takes_of rfl rfl rfl rfl) (fun _ _ _ _ h => h)) (pa_cons (pv 1) (pa_cons (pv 2) pa_nil))) pe_int) (fun _ _ => rfl)) (pg_tup (n := 2) rfl (pgs_cons (pg_name (i := 7) sc__law_value_right.nd rfl (Or.inl rfl)) (pgs_cons (pg_name (i := 8) sc__law_value_right.nd rfl (Or.inl rfl)) pgs_nil))))
      (pss_one (ps_ret (pe_chain op_le op_le (pe_op op_mul (pv 7) (pv 5)) (pv 4) (pe_op op_mul (pv 8) (pv 5)))))))))), ?_⟩)
  · obtain ⟨r, a, t, sp, fr, hs, line, u, v, rfl, _⟩ := h
    rfl
  · obtain ⟨r, a, t, sp, fr, hs, line, u, v, rfl, hR, ha, h2, h64, hlt, hh, hm, ht, ⟨b1, a0, b2, hg, hq, hlo, hhi⟩, q⟩ := h
    obtain ⟨d1, d2⟩ := due2 (sp := sp) (line := line) hh hm
    obtain ⟨cn, clo, chi⟩ := WK.cnt_spec hh line
    walk_at "go0"
    refine r_lenT (L2.SqT.of ht) ?_
    walk_at "go"
    refine r_noN rfl ?_
    walk_at "go"
    refine ⟨r, a, sp, fr, hs, line, rfl, hR, ha, h2, h64, hlt, hh, hm, fun t2 H2 e2 ht2 => ?_⟩
    have ha2 := ex_l e2 ha
    walk_at "go"
    refine r_no (by omega) ?_
    walk_at "go"
    refine r_noN hq ?_
    walk_at "go"
    obtain ⟨n, rfl⟩ : ∃ n : Nat, u = n := ⟨u.toNat, by omega⟩
    obtain ⟨m, rfl⟩ : ∃ m : Nat, v = m := ⟨v.toNat, by omega⟩
    rw [Int.toNat_natCast, Int.toNat_natCast] at hg
    refine ⟨n, m, rfl, by omega, ?_⟩
    rw [hg]
    walk_at "go"
    refine r_noN rfl ?_
    obtain ⟨b, ps, h1, hB⟩ := hR.ex e2
    have hP := hB.pr (K := K)
    walk_at "go"
    refine ⟨a, hs, line, rfl, ha2, ?_⟩
    walk_at "go"
    rw [show (WK.cnt hs line hs.length : Int) + 1 - 1 = WK.cnt hs line hs.length by omega]
    walk_at "go"
    refine r_yes hlo ?_
    walk_at "go"
    rw [decide_eq_true hhi]
    exact q H2 e2
theorem ed_nn {hs : List Int} (hh : WK.HOk hs) : ∀ n, 0 ≤ (hs.take n).sum := by
  intro n
  induction n with
  | zero => exact Int.le_refl _
  | succ n ih =>
    by_cases h : n < hs.length
    · have := take_sum h
      have := hh _ (List.getElem_mem h)
      omega
    · rw [List.take_of_length_le (by omega)] at ih ⊢
      exact ih
theorem ed_le {hs : List Int} (hm : ∀ z ∈ hs, z ≤ 1000000000) : ∀ n, (hs.take n).sum ≤ 1000000000 * (n : Int) := by
  intro n
  induction n with
  | zero => exact Int.le_refl _
  | succ n ih =>
    by_cases h : n < hs.length
    · have := take_sum h
      have := hm _ (List.getElem_mem h)
      omega
    · rw [List.take_of_length_le (by omega)] at ih ⊢
      omega
def spAsked (K : PySem.W.Frag) : Sp := fun vs H Q _ => ∃ (p a : Addr) (hs : List Int), vs = [.ref p, .ref a] ∧ SqL K H a (hs.map V.int) ∧ a ≠ p ∧ hs.length ≤ 63 ∧ WK.HOk hs ∧ (∀ z ∈ hs, z ≤ 1000000000) ∧ Pur H p ∧
  ∀ l H2 (ns : List Int), ExB p H H2 → Pur H2 p → H2 l = some (.lst (ns.map V.int)) → (∀ z ∈ ns, 0 ≤ z) → Q (.ref l) H2
abbrev s__law_asked_lines : Stmt := top 46
theorem sc__law_asked_lines : FnScope ["purse", "heights", "edges", "top", "found", "edge", "place"] ["purse", "heights"] (defScope s__law_asked_lines) := ⟨rfl, rfl, rfl, by decide +kernel, rfl, by decide +kernel, by decide +kernel⟩
theorem ok_asked (T : Txt K mg tkC tkH tkL ) (F : At K mg "_law_asked_lines" s__law_asked_lines ["purse", "heights"]) (d__law_draw : Def P w K mg base "_law_draw" 1 ["purse", "many"] spDraw) : Def P w K mg base "_law_asked_lines" 2 ["purse", "heights"] (spAsked K) := by
  refine Def.mk' F sc__law_asked_lines (fun vs H Q E h => ?_) (fun f cdv Ar outer s H vs Q E hr h => ⟨_, (pss_cons (ps_setLc (i := 2) (own := [("place", 6)]) (g := gName 6) (tt := tYes) rfl sc__law_asked_lines.nd rfl rfl (sw_true rfl rfl rfl (by decide +kernel)) (pi_range1 rfl T.n_range (pa_cons (pe_callB (r := Lay.rLen K) c_len rfl T.n_len PySem.boot_len (pa_cons (pv 1) pa_nil)) pa_nil)) (blkOk_by (own := [("place", 6)]) (N := ["purse", "heights", "edges", "top", "found", "edge", "place"]) (sc := defScope s__law_asked_lines) (by decide +kernel)) (fun _ _ _ _ _ => (pg_name (i := 6) sc__law_asked_lines.nd rfl (Or.inl rfl))) (fun _ _ _ _ _ => pts_nil) (fun _ _ _ _ _ => (pe_callB (r := rSum K) (cr_sum rfl) rfl T.n_sum (by decide +kernel) (pa_cons (pe_slice (r := rSlL K) sl_list (pv 1) po_none (po_some (pe_op op_add (pv 6) pe_int))) pa_nil))))
      (pss_cons (ps_set (i := 3) sc__law_asked_lines.nd rfl (Or.inl rfl) (pe_ifExp (pt_cmpR (r := rNeD K) (op_neD hr.units) (pv 2) (pe_lst pa_nil) (nomark _)) (pe_op op_add (pe_ix (r := rIxL K) ix_list (pv 2) (pe_op op_sub (pe_callB (r := Lay.rLen K) c_len rfl T.n_len PySem.boot_len (pa_cons (pv 2) pa_nil)) pe_int) (fun _ _ => rfl)) pe_int) pe_int))
      (pss_cons (ps_if (pt_cmpR op_lt (pv 3) pe_int (nomark _)) (pss_one (ps_ret (pe_listRg rfl rfl T.n_list (prg_1 rfl T.n_range (pe_op op_add (pv 3) pe_int))))) pss_nil)
      (pss_cons (ps_set (i := 4) sc__law_asked_lines.nd rfl (Or.inl rfl) (pe_lst (pa_cons pe_int (pa_cons (pv 3) pa_nil))))
      (pss_cons (ps_for (passes_of rfl) rfl (pi_list (pv 2)) (pg_name (i := 5) sc__law_asked_lines.nd rfl (Or.inl rfl)) (pss_one (ps_set (i := 4) sc__law_asked_lines.nd rfl (Or.inl rfl) (pe_op op_cat (pv 4) (pe_lst (pa_cons (pe_op op_sub (pv 5) pe_int) (pa_cons (pv 5) (pa_cons (pe_op op_add (pv 5) pe_int) (pa_cons (pe_callB (c_max2 rfl) rfl T.n_max (by decide +kernel) (pa_cons pe_int (pa_cons (pe_op op_sub (pe_op op_sub (pv 5) pe_int) (pe_d d__law_draw (hr.mono (by decide)) (passes_call (takes_of rfl rfl rfl rfl) (fun _ _ _ _ h => h)) (pa_cons (pv 0) (pa_cons (pe_op op_pow pe_int pe_int) pa_nil)))) pa_nil))) pa_nil)))))))))
      (pss_one (ps_ret (pv 4)))))))), ?_⟩)
  · obtain ⟨p, a, hs, rfl, _⟩ := h
    rfl
  · obtain ⟨p, a, hs, rfl, ha, nap, h63, hh, hm, hp, q⟩ := h
    walk_at "go0"
    refine lcF1 (f := WK.ed hs) (by omega) (by omega) ?_ ?_ (fun _ => rfl)
    · intro k h R hk e kk
      have ha1 := ex_l e ha
      walk_at "go"
      refine r_slE (e := k + 1) ha1 (by omega) (by omega) fun p2 H3 n3 e3 h3 => ?_
      walk_at "go"
      refine r_sum (L2.SqL.of h3) ?_
      exact kk H3 e3
    intro l H1 nl e1 hl
    rw [show ((hs.length : Int)).toNat = hs.length by omega] at hl
    have nlp : l ≠ p := by walk_at "ne"
    have hp1 := hp.ex e1
    walk_at "go"
    have l0 : l ≠ a → True := fun _ => trivial
    clear l0
    have ex0 : Ex H H1 := e1
    -- the last line asked
    refine r_KP (fun top => 3 ≤ top ∧ top ≤ 63000000003) (fun Q' k => ?_) (fun top H2 ⟨t0, t1⟩ e2 => ?_)
    · refine r_tIf ?_
      walk_at "go"
      refine r_newI0 fun n H2 nn e2 hn => ?_
      have hl2 := e2 _ _ hl
      refine r_neL (ms := []) (L2.SqL.of hl2) (L2.SqL.of hn) ?_
      have lel : ((List.range hs.length).map (WK.ed hs)).length = hs.length := by rw [List.length_map, List.length_range]
      walk_at "go"
      refine r_iteN (fun c => ?_) (fun c => ?_)
      · have hz : hs.length ≠ 0 := fun z => c (List.length_eq_zero_iff.mp (by rw [lel]; exact z))
        walk_at "go"
        rw [lel, gi_range (by omega) (by omega)]
        have a := ed_nn hh (((hs.length : Int) - 1).toNat + 1)
        have b := ed_le hm (((hs.length : Int) - 1).toNat + 1)
        refine k _ H2 ⟨?_, ?_⟩ e2
        · show 3 ≤ (hs.take _).sum + 3
          omega
        · show (hs.take _).sum + 3 ≤ _
          omega
      · walk_at "go"
        exact k _ H2 ⟨by decide, by decide⟩ e2
    have hp2 := hp1.ex e2
    have hl2 := e2 _ _ hl
    walk_at "go"
    refine r_ite (fun c => ?_) (fun c => ?_)
    · walk_at "go"
      refine r_lRg1 ?_
      walk_at "go"
      refine r_rRg1 (by omega) (by omega) fun q2 H3 n3 e3 h3 => ?_
      refine q q2 H3 _ (Ex.b (e1.trans (e2.trans e3))) (hp2.ex e3) h3 fun z hz => ?_
      obtain ⟨i, _, rfl⟩ := List.mem_map.mp hz
      omega
    walk_at "go"
    refine r_newI2 fun f0 H3 nf e3 hf0 => ?_
    have nf0p : f0 ≠ p := by walk_at "ne"
    walk_at "go"
    refine forI (L2.SqL.of (e3 _ _ hl2)) (fun i s h => ∃ f v6, ∃ zs : List Int, s = [some (.ref p), some (.ref a), some (.ref l), some (.int top), some (.ref f), v6, none] ∧ ExB p H h ∧ Pur h p ∧ h l = some (.lst (((List.range hs.length).map (WK.ed hs)).map V.int)) ∧ h f = some (.lst (zs.map V.int)) ∧ f ≠ p ∧ zs.length = 2 + 4 * i ∧ ∀ z ∈ zs, 0 ≤ z) ?_ ?_ ?_ ?_
    · refine ⟨f0, _, [0, top], rfl, Ex.b (e1.trans (e2.trans e3)), hp2.ex e3, e3 _ _ hl2, hf0, nf0p, rfl, fun z hz => ?_⟩
      rcases List.mem_cons.mp hz with r | hz
      · omega
      · rw [List.mem_singleton.mp hz]; omega
    · rintro i s h _ ⟨f, v6, zs, _, _, _, hl, _⟩
      exact L2.SqL.of hl
    · rintro i z s h hz ⟨f, v6, zs, rfl, e, hp, hl, hf, nf, hn, hz0⟩
      have hi : i < hs.length := by
        have := (List.getElem?_eq_some_iff.mp hz).1
        rw [List.length_map, List.length_range] at this
        exact this
      have ez : z = WK.ed hs i := by
        rw [List.getElem?_map, List.getElem?_range hi] at hz
        exact (Option.some.inj hz).symm
      have z1 : 1 ≤ z := by
        have a := ed_nn hh i
        have b := take_sum hi
        have c := hh _ (List.getElem_mem hi)
        have d : WK.ed hs i = (hs.take (i + 1)).sum := rfl
        omega
      walk_at "go"
      refine ⟨p, _, rfl, by decide, by decide, hp, fun x H4 x0 x1 e4 hp4 => ?_⟩
      have hf4 := e4 _ _ nf hf
      have hl4 := e4 _ _ (by walk_at "ne") hl
      walk_at "go"
      refine r_newI4 fun g H5 ng e5 hg => ?_
      have hf5 := e5 _ _ hf4
      walk_at "go"
      refine r_catI hf5 hg (by rw [hn]; show 2 + 4 * i + 4 ≤ _; omega) fun p2 H6 n6 e6 h6 => ?_
      refine r_next ⟨p2, _, _, rfl, (e.trans e4).trans (Ex.b (e5.trans e6)), (hp4.ex e5).ex e6, e6 _ _ (e5 _ _ hl4), h6, ?_, ?_, fun y hy => ?_⟩
      · have hp5 := hp4.ex e5
        walk_at "ne"
      · rw [List.length_append, hn]
        show 2 + 4 * i + 4 = _
        omega
      · rcases List.mem_append.mp hy with hy | hy
        · exact hz0 y hy
        · rcases List.mem_cons.mp hy with r | hy
          · omega
          · rcases List.mem_cons.mp hy with r | hy
            · omega
            · rcases List.mem_cons.mp hy with r | hy
              · omega
              · rw [List.mem_singleton.mp hy]
                split <;> omega
    · rintro s h ⟨f, v6, zs, rfl, e, hp, hl, hf, nf, hn, hz0⟩
      walk_at "go"
      exact q f h zs e hp hf hz0
end
end K16
namespace K16
open PySem PySem.Spec PyProof.Rows L2 Evl Lay
section
variable {P : Program} {w : World} {K : PySem.W.Frag} {mg : Str → Option Value} {base : Heap} {CRuler CTable CBlock : Addr} {tkC tkH tkL : Tok}
theorem TabAt.pur {K : PySem.W.Frag} {CTable : Addr} {H H2 : Hp} {x p : Addr} {sp : Prs} (h : TabAt K CTable H x sp) (hp : Pur H p) (e : ExB p H H2) (n : 0 < sp.length) : TabAt K CTable H2 x sp := by
  obtain ⟨dx, sl, ps, fr, h1, h2, h3⟩ := h
  have np : sl ≠ p := fun z => by
    obtain ⟨u, v, w, hp⟩ := hp
    rw [z, hp] at h3
    cases ps with
    | nil => exact absurd h2.2.1 (by show ¬ 0 = sp.length; omega)
    | cons b ps => cases h3
  have nx : x ≠ p := fun z => by
    obtain ⟨u, v, w, hp⟩ := hp
    rw [z, hp] at h1
    cases h1
  exact ⟨dx, sl, ps, fr, e _ _ nx h1, h2.exb e np hp.nt, e _ _ np h3⟩
/-- what is known of a row and its heights -/
structure Rw (sp : Prs) (hs : List Int) (fr : Int) : Prop where
  ok : WK.Ok sp
  n2 : 2 ≤ sp.length
  n8 : sp.length ≤ 8
  hb : ∀ i : Int, 0 ≤ i → i < sp.length → zl sp i ≤ 1000000 ∧ zh sp i ≤ 1000000
  f0 : 0 ≤ fr
  f1 : fr ≤ 1
  lt : hs.length < sp.length
  hh : WK.HOk hs
  hm : ∀ z ∈ hs, z ≤ 1000000000
theorem Rw.mk1 {sp : Prs} {hs : List Int} {fr : Int} (ok : WK.Ok sp) (n2 : 2 ≤ sp.length) (n8 : sp.length ≤ 8) (hb : WK.HiB sp 100) (f0 : 0 ≤ fr) (f1 : fr ≤ 1) (lt : hs.length < sp.length) (a : ∀ z ∈ hs, 1 ≤ z ∧ z ≤ 6) : Rw sp hs fr :=
  ⟨ok, n2, n8, fun i h0 h1 => by have := ok i h0 h1; have := hb i h0 h1; omega, f0, f1, lt, fun z m => (a z m).1, fun z m => by have := (a z m).2; omega⟩
theorem Rw.mk2 {sp : Prs} {hs : List Int} {fr k : Int} (ok : WK.Ok sp) (n2 : 2 ≤ sp.length) (n8 : sp.length ≤ 8) (hb : WK.HiB sp 100) (f0 : 0 ≤ fr) (f1 : fr ≤ 1) (lt : hs.length < sp.length) (hh : WK.HOk hs) (hm : ∀ z ∈ hs, z ≤ 1000000000) (k0 : 1 ≤ k) (k1 : k ≤ 10000) : Rw (WK.spw sp k) hs fr := by
  have key : ∀ i : Int, 0 ≤ i → i < sp.length → 0 ≤ zl sp i * k ∧ zl sp i * k ≤ zh sp i * k ∧ zh sp i * k ≤ 1000000 := fun i h0 h1 => by
    have o := ok i h0 h1
    have b := hb i h0 h1
    have a1 : 0 ≤ zl sp i * k := Int.mul_nonneg o.1 (by omega)
    have a2 : zl sp i * k ≤ zh sp i * k := Int.mul_le_mul_of_nonneg_right o.2 (by omega)
    have a3 : zh sp i * k ≤ 100 * 10000 := Int.mul_le_mul b k1 (by omega) (by decide)
    omega
  refine ⟨fun i h0 h1 => ?_, by rw [WK.spw_len]; exact n2, by rw [WK.spw_len]; exact n8, fun i h0 h1 => ?_, f0, f1, by rw [WK.spw_len]; exact lt, hh, hm⟩
  · rw [WK.spw_len] at h1
    rw [WK.spw_l h0 h1, WK.spw_h h0 h1]
    have := key i h0 h1
    exact ⟨by omega, by omega⟩
  · rw [WK.spw_len] at h1
    rw [WK.spw_l h0 h1, WK.spw_h h0 h1]
    have := key i h0 h1
    exact ⟨by omega, by omega⟩
def spTabR (K : PySem.W.Frag) : Sp := fun vs H Q _ => ∃ (p r : Addr) (sp : Prs) (fr : Int), vs = [.ref p, .ref r] ∧ Pur H p ∧ RowAt K H r sp fr ∧ WK.Ok sp ∧ 2 ≤ sp.length ∧ sp.length ≤ 8 ∧ WK.HiB sp 100 ∧ 0 ≤ fr ∧ fr ≤ 1 ∧ ∀ H2, ExB p H H2 → Pur H2 p → Q (.bl true) H2
abbrev s__law_table_right : Stmt := top 47
theorem sc__law_table_right : FnScope ["purse", "row", "heights", "table", "held", "even", "ruler", "line", "told", "height"] ["purse", "row"] (defScope s__law_table_right) := ⟨rfl, rfl, rfl, by decide +kernel, rfl, by decide +kernel, by decide +kernel⟩
theorem ok_tabr (T : Txt K mg tkC tkH tkL ) (F : At K mg "_law_table_right" s__law_table_right ["purse", "row"]) (d__law_draw : Def P w K mg base "_law_draw" 1 ["purse", "many"] spDraw) (d__law_heights : Def P w K mg base "_law_heights" 2 ["purse", "many", "least", "most"] spHeights)
    (d__law_wider : Def P w K mg base "_law_wider" 1 ["row", "factor"] (spWider K)) (d_Table : DI P w K mg base "Table" CTable 4 ["self", "spans", "free"] (spTable K CTable)) (d_held_lows : Def P w K mg base "held_lows" 3 ["table"] (spHeld K CTable))
    (d__law_falls : Def P w K mg base "_law_falls" 2 ["row"] (spLFalls K)) (d__law_held : Def P w K mg base "_law_held" 1 ["row"] (spLHeld K)) (d_even_lows : Def P w K mg base "even_lows" 3 ["table"] (spEven K CTable))
    (d__law_leaps : Def P w K mg base "_law_leaps" 1 ["row"] (spLLeaps K)) (d__law_even : Def P w K mg base "_law_even" 1 ["row"] (spLEven K)) (d_Ruler : DI P w K mg base "Ruler" CRuler 4 ["self", "heights"] (spRuler K CRuler))
    (d__law_asked_lines : Def P w K mg base "_law_asked_lines" 2 ["purse", "heights"] (spAsked K)) (d_even_at : Def P w K mg base "even_at" 4 ["table", "ruler", "line"] (spEvenAt K CTable CRuler)) (d__law_value_right : Def P w K mg base "_law_value_right" 3 ["row", "heights", "line", "told"] (spValue K)) :
    Def P w K mg base "_law_table_right" 6 ["purse", "row"] (spTabR K) := by
  refine Def.mk' F sc__law_table_right (fun vs H Q E h => ?_) (fun f cdv Ar outer s H vs Q E hr h => ⟨_, (pss_cons (ps_set (i := 2) sc__law_table_right.nd rfl (Or.inl rfl) (pe_d d__law_heights (hr.mono (by decide)) (passes_call (takes_of rfl rfl rfl rfl) (fun _ _ _ _ h => h)) (pa_cons (pv 0) (pa_cons (pe_d d__law_draw (hr.mono (by decide)) (passes_call (takes_of rfl rfl rfl rfl) (fun _ _ _ _ h => h)) (pa_cons (pv 0) (pa_cons (pe_callB (r := Lay.rLen K) c_len rfl T.n_len PySem.boot_len (pa_cons (pe_ix (r := rIxT K) ix_tup (pv 1) pe_int (fun _ _ => rfl)) pa_nil)) pa_nil))) (pa_cons pe_int (pa_cons pe_int pa_nil))))))
      (pss_cons (ps_if (pt_cmpR op_eq (pe_d d__law_draw (hr.mono (by decide)) (passes_call (takes_of rfl rfl rfl rfl) (fun _ _ _ _ h => h)) (pa_cons (pv 0) (pa_cons pe_int pa_nil))) pe_int (nomark _)) (pss_cons (ps_set (i := 1) sc__law_table_right.nd rfl (Or.inl rfl) (pe_d d__law_wider (hr.mono (by decide)) (passes_call (takes_of rfl rfl rfl rfl) (fun _ _ _ _ h => h)) (pa_cons (pv 1) (pa_cons (pe_op op_add pe_int (pe_d d__law_draw (hr.mono (by decide)) (passes_call (takes_of rfl rfl rfl rfl) (fun _ _ _ _ h => h)) (pa_cons (pv 0) (pa_cons (pe_op op_pow pe_int pe_int) pa_nil)))) pa_nil))))
      (pss_one (ps_setLc (i := 2) (own := [("height", 9)]) (g := gName 9) (tt := tYes) rfl sc__law_table_right.nd rfl rfl (sw_true rfl rfl rfl (by decide +kernel)) (pi_list (pv 2)) (blkOk_by (own := [("height", 9)]) (N := ["purse", "row", "heights", "table", "held", "even", "ruler", "line", "told", "height"]) (sc := defScope s__law_table_right) (by decide +kernel)) (fun _ _ _ _ _ => (pg_name (i := 9) sc__law_table_right.nd rfl (Or.inl rfl))) (fun _ _ _ _ _ => pts_nil) (fun _ _ _ _ _ => (pe_op op_add (pv 9) (pe_d d__law_draw (hr.mono (by decide)) passL (pa_cons (pv 0) (pa_cons (pe_op op_sub (pe_op op_pow pe_int pe_int) pe_int) pa_nil)))))))) pss_nil)
      (pss_cons (ps_set (i := 3) sc__law_table_right.nd rfl (Or.inl rfl) (pe_mkD d_Table (hr.mono (by decide)) (passes_call (takes_of rfl rfl rfl rfl) (fun _ _ _ _ h => h)) (pa_cons (pe_ix (r := rIxT K) ix_tup (pv 1) pe_int (fun _ _ => rfl)) (pa_cons (pe_ix (r := rIxT K) ix_tup (pv 1) pe_int (fun _ _ => rfl)) pa_nil))))
      (pss_cons (ps_set (i := 4) sc__law_table_right.nd rfl (Or.inl rfl) (pe_d d_held_lows (hr.mono (by decide)) (passes_call (takes_of rfl rfl rfl rfl) (fun _ _ _ _ h => h)) (pa_cons (pv 3) pa_nil)))
      (pss_cons (ps_if (pt_cmpR (r := rNeD K) (op_neD hr.units) (pv 4) (pe_ifExp (pt_cmpR (r := rNeD K) (op_neD hr.units) (pe_d d__law_falls (hr.mono (by decide)) (passes_call (takes_of rfl rfl rfl rfl) (fun _ _ _ _ h => h)) (pa_cons (pv 1) pa_nil)) (pe_lst pa_nil) (nomark _)) pe_non (pe_d d__law_held (hr.mono (by decide)) (passes_call (takes_of rfl rfl rfl rfl) (fun _ _ _ _ h => h)) (pa_cons (pv 1) pa_nil))) (nomark _)) (pss_one (ps_ret pe_bl)) pss_nil)
      (pss_cons (ps_set (i := 5) sc__law_table_right.nd rfl (Or.inl rfl) (pe_d d_even_lows (hr.mono (by decide)) (passes_call (takes_of rfl rfl rfl rfl) (fun _ _ _ _ h => h)) (pa_cons (pv 3) pa_nil)))
      (pss_cons (ps_if (pt_cmpR (r := rNeD K) (op_neD hr.units) (pv 5) (pe_ifExp (pt_cmpR (r := rNeD K) (op_neD hr.units) (pe_d d__law_leaps (hr.mono (by decide)) (passes_call (takes_of rfl rfl rfl rfl) (fun _ _ _ _ h => h)) (pa_cons (pv 1) pa_nil)) (pe_lst pa_nil) (nomark _)) pe_non (pe_d d__law_even (hr.mono (by decide)) (passes_call (takes_of rfl rfl rfl rfl) (fun _ _ _ _ h => h)) (pa_cons (pv 1) pa_nil))) (nomark _)) (pss_one (ps_ret pe_bl)) pss_nil)
      (pss_cons (ps_if (pt_cmpR op_notN1 (pv 4) pe_non (nomark _)) (pss_cons (ps_expr (pe_bm PySem.F.plainAttrs_list PySem.F.slot_list_append PySem.F.type_list_append mt_append (pv 4) (pa_cons pe_int pa_nil)))
      (pss_one (ps_if (pt_cmpR (r := rNeD K) (op_neD hr.units) (pe_d d_held_lows (hr.mono (by decide)) (passes_call (takes_of rfl rfl rfl rfl) (fun _ _ _ _ h => h)) (pa_cons (pv 3) pa_nil)) (pe_d d__law_held (hr.mono (by decide)) (passes_call (takes_of rfl rfl rfl rfl) (fun _ _ _ _ h => h)) (pa_cons (pv 1) pa_nil)) (nomark _)) (pss_one (ps_ret pe_bl)) pss_nil))) pss_nil)
      (pss_cons (ps_if (pt_cmpR op_notN1 (pv 5) pe_non (nomark _)) (pss_cons (ps_expr (pe_bm PySem.F.plainAttrs_list PySem.F.slot_list_append PySem.F.type_list_append mt_append (pv 5) (pa_cons pe_int pa_nil)))
      (pss_one (ps_if (pt_cmpR (r := rNeD K) (op_neD hr.units) (pe_d d_even_lows (hr.mono (by decide)) (passes_call (takes_of rfl rfl rfl rfl) (fun _ _ _ _ h => h)) (pa_cons (pv 3) pa_nil)) (pe_d d__law_even (hr.mono (by decide)) (passes_call (takes_of rfl rfl rfl rfl) (fun _ _ _ _ h => h)) (pa_cons (pv 1) pa_nil)) (nomark _)) (pss_one (ps_ret pe_bl)) pss_nil))) pss_nil)
      (pss_cons (ps_set (i := 6) sc__law_table_right.nd rfl (Or.inl rfl) (pe_mkD d_Ruler (hr.mono (by decide)) (passes_call (takes_of rfl rfl rfl rfl) (fun _ _ _ _ h => h)) (pa_cons (pv 2) pa_nil)))
      (pss_cons (ps_for (passes_of rfl) rfl (pi_list (pe_d d__law_asked_lines (hr.mono (by decide)) (passes_call (takes_of rfl rfl rfl rfl) (fun _ _ _ _ h => h)) (pa_cons (pv 0) (pa_cons (pv 2) pa_nil)))) (pg_name (i := 7) sc__law_table_right.nd rfl (Or.inl rfl)) (pss_cons (ps_set (i := 8) sc__law_table_right.nd rfl (Or.inl rfl) (pe_d d_even_at (hr.mono (by decide)) (passes_call (takes_of rfl rfl rfl rfl) (fun _ _ _ _ h => h)) (pa_cons (pv 3) (pa_cons (pv 6) (pa_cons (pv 7) pa_nil)))))
      (pss_one (ps_if (pt_cmpR op_isN1 (pv 5) pe_non (nomark _)) (pss_one (ps_if (pt_cmpR op_notN1 (pv 8) pe_non (nomark _)) (pss_one (ps_ret pe_bl)) pss_nil)) (pss_one (ps_if (pt_not (pt_val (pe_d d__law_value_right (hr.mono (by decide)) (passes_call (takes_of rfl rfl rfl rfl) (fun _ _ _ _ h => h)) (pa_cons (pv 1) (pa_cons (pv 2) (pa_cons (pv 7) (pa_cons (pv 8) pa_nil))))))) (pss_one (ps_ret pe_bl)) pss_nil))))))
      (pss_one (ps_ret pe_bl))))))))))))), ?_⟩)
  · obtain ⟨p, r, sp, fr, rfl, _⟩ := h
    rfl
  · obtain ⟨p, r0, sp0, fr, rfl, hp, hR, ok, n2, n8, hb, f0, f1, q⟩ := h
    obtain ⟨a0, ps0, h1, hB⟩ := id hR
    have hP0 := hB.pr (K := K)
    walk_at "go0"
    refine ⟨p, _, rfl, by omega, by omega, hp, fun x H1 x0 x1 e1 hp1 => ?_⟩
    walk_at "go"
    refine ⟨p, _, rfl, by omega, by omega, hp1, fun l0 H2 hs0 nl0 e2 hp2 nlp0 hn0 ha0 hl0 => ?_⟩
    have hR2 := (hR.pur hp e1 (by omega)).pur hp1 e2 (by omega)
    try dsimp only []
    refine r_seq (t := tIfS _ _ _) ?_
    refine r_cut (t := tIfS _ _ _) (fun s h => ∃ r sp hl hs, s = [some (.ref p), some (.ref r), some (.ref hl), none, none, none, none, none, none, none] ∧ ExB p H h ∧ Pur h p ∧ RowAt K h r sp fr ∧ h hl = some (.lst (hs.map V.int)) ∧ hl ≠ p ∧ Rw sp hs fr) (fun N hN => ?_) ?_
    · walk_at "go"
      refine ⟨p, _, rfl, by omega, by omega, hp2, fun y H3 y0 y1 e3 hp3 => ?_⟩
      have hR3 := hR2.pur hp2 e3 (by omega)
      have hl3 := e3 _ _ nlp0 hl0
      walk_at "go"
      refine r_ite (fun c => ?_) (fun c => ?_)
      · walk_at "go"
        refine ⟨p, _, rfl, by decide, by decide, hp3, fun k H4 k0 k1 e4 hp4 => ?_⟩
        have k1' : k < 10000 := k1
        have hR4 := hR3.pur hp3 e4 (by omega)
        have hl4 := e4 _ _ nlp0 hl3
        walk_at "go"
        refine ⟨r0, sp0, fr, _, rfl, hR4, ok, hb, by omega, by omega, by omega, fun r2 H5 e5 hR5 => ?_⟩
        have hp5 := hp4.ex e5
        have hl5 := e5 _ _ hl4
        walk_at "go"
        refine lcI (L2.SqL.of hl5) (fun l i h => ∃ zs : List Int, zs.length = i ∧ (∀ z ∈ zs, 1 ≤ z ∧ z ≤ 1000000000) ∧ h l = some (.lst (zs.map V.int)) ∧ ExB p H5 h ∧ Pur h p ∧ H5 l = none) ?_ ?_ ?_ ?_ (fun _ => rfl)
        · exact fun l h hl e hn => ⟨[], rfl, fun z hz => (List.not_mem_nil hz).elim, hn, Lay.Ex.b e, hp5.ex e, hl⟩
        · rintro l i h _ ⟨zs, _, _, _, e, _⟩
          exact exb_l e nlp0 (L2.SqL.of hl5)
        · intro l i z h hz ⟨zs, hzn, hall, hl, e, hp6, ln⟩
          have nlp : l ≠ p := by walk_at "ne"
          have az := ha0 z (List.mem_of_getElem? hz)
          have hi := (List.getElem?_eq_some_iff.mp hz).1
          walk_at "go"
          refine ⟨p, _, rfl, by decide, by decide, hp6, fun u H7 u0 u1 e7 hp7 => ?_⟩
          have u1' : u < 999999995 := u1
          walk_at "go"
          refine appW (e7 _ _ nlp hl) (by rw [List.length_map]; omega) fun H8 e8 h8 => ⟨zs ++ [z + u], by rw [List.length_append, hzn]; rfl, fun y hy => ?_, by rw [List.map_append]; exact h8, ExB.exB (e.trans e7) e8 ln, hp7.upd e8 nlp.symm, ln⟩
          rcases List.mem_append.mp hy with q | q
          · exact hall y q
          · rw [List.mem_singleton.mp q]
            omega
        · intro l h ⟨zs, hzn, hall, hl, e, hp6, ln⟩
          have nlp : l ≠ p := by walk_at "ne"
          refine hN _ _ ⟨r2, WK.spw sp0 (1 + k), l, zs, rfl, (((e1.trans e2).trans e3).trans e4).trans ((Ex.b e5).trans e), hp6, hR5.pur hp5 e (by rw [WK.spw_len]; omega), hl, nlp, ?_⟩
          exact Rw.mk2 ok n2 n8 hb f0 f1 (by omega) (fun z m => (hall z m).1) (fun z m => (hall z m).2) (by omega) (by omega)
      · refine r_next (hN _ _ ⟨r0, sp0, l0, hs0, rfl, (e1.trans e2).trans e3, hp3, hR3, hl3, nlp0, Rw.mk1 ok n2 n8 hb f0 f1 (by omega) ha0⟩)
    clear hR2 hR hP0 hB h1 e1 e2
    rintro s h ⟨r, sp, hl, hs, rfl, eh, hp3, hR, hhl, nlp, W⟩
    obtain ⟨ok, n2, n8, hb, f0, f1, lt, hh, hm⟩ := id W
    obtain ⟨a, ps, h1, hB⟩ := id hR
    walk_at "go"
    refine r_rmk fun x dx H2 nx nd ne e2 hx => ?_
    refine ⟨x, a, dx, fr, ps, sp, rfl, hx, (hB.ex e2).pr, ok, hb, n2, by omega, f0, by omega, fun H3 e3 hT => ⟨rfl, ?_⟩⟩
    have e4 : Ex h H3 := ExB.ex e2 e3 nx
    try dsimp only []
    refine r_seq (t := tAsg _ _) ?_
    refine r_cut (t := tAsg _ _) (fun s h' => ∃ v, s = [some (.ref p), some (.ref r), some (.ref hl), some (.ref x), some v, none, none, none, none, none] ∧ Ex H3 h' ∧ NonL H3 h' v (WK.fallP sp) (WK.heldL sp)) (fun N hN => ?_) ?_
    · walk_at "go"
      refine ⟨x, sp, rfl, hT, by omega, ok, fun H4 e5 hf => ?_, fun l H4 nl e5 hl nf => ?_⟩
      · exact hN _ _ ⟨_, rfl, e5, .inl ⟨rfl, hf⟩⟩
      · exact hN _ _ ⟨_, rfl, e5, .inr ⟨l, rfl, nl, hl, nf⟩⟩
    rintro s h4 ⟨v4, rfl, e5, hv4⟩
    try dsimp only []
    refine r_seq (t := tIfS _ _ _) ?_
    refine r_cut (t := tIfS _ _ _) (fun s h' => s = [some (.ref p), some (.ref r), some (.ref hl), some (.ref x), some v4, none, none, none, none, none] ∧ Ex h4 h') (fun N hN => ?_) ?_
    · rcases hv4 with ⟨rfl, hf⟩ | ⟨l, rfl, nl, hl, nf⟩
      · walk_at "go"
        refine r_tIf ?_
        walk_at "go"
        refine ⟨r, sp, fr, rfl, hR.ex (e4.trans e5), by omega, fun l ts H5 e6 hT3 hts => ?_⟩
        walk_at "go"
        refine r_newI0 fun n H6 nn e7 hn => ?_
        refine r_neT3 (hT3.ex e7) (L2.SqL.of hn) ?_
        walk_at "go"
        refine r_iteN (fun c => ?_) (fun c => absurd hf (hts.mp c))
        walk_at "go"
        refine r_neSame .non .non rfl ?_
        walk_at "go"
        exact hN _ _ ⟨rfl, e6.trans e7⟩
      · walk_at "go"
        refine r_tIf ?_
        walk_at "go"
        refine ⟨r, sp, fr, rfl, hR.ex (e4.trans e5), by omega, fun l1 ts H5 e6 hT3 hts => ?_⟩
        walk_at "go"
        refine r_newI0 fun n H6 nn e7 hn => ?_
        refine r_neT3 (hT3.ex e7) (L2.SqL.of hn) ?_
        walk_at "go"
        refine r_iteN (fun c => absurd (hts.mpr nf) c) (fun c => ?_)
        walk_at "go"
        refine ⟨r, sp, fr, rfl, hR.ex (e4.trans (e5.trans (e6.trans e7))), by omega, fun l2 H7 nl2 e8 hl2 => ?_⟩
        refine r_neL (L2.SqL.of (e8 _ _ (e7 _ _ (e6 _ _ hl)))) (L2.SqL.of hl2) ?_
        walk_at "go"
        refine r_noN rfl ?_
        exact hN _ _ ⟨rfl, e6.trans (e7.trans e8)⟩
    rintro s h5 ⟨rfl, e6⟩
    have E5 := e4.trans (e5.trans e6)
    try dsimp only []
    refine r_seq (t := tAsg _ _) ?_
    refine r_cut (t := tAsg _ _) (fun s h' => ∃ v, s = [some (.ref p), some (.ref r), some (.ref hl), some (.ref x), some v4, some v, none, none, none, none] ∧ Ex h5 h' ∧ NonL h5 h' v (WK.leapP sp) (WK.evL sp)) (fun N hN => ?_) ?_
    · walk_at "go"
      refine ⟨x, sp, rfl, hT.ex (e5.trans e6), n2, by omega, fun H4 e5 hf => ?_, fun l H4 nl e5 hl nf => ?_⟩
      · exact hN _ _ ⟨_, rfl, e5, .inl ⟨rfl, hf⟩⟩
      · exact hN _ _ ⟨_, rfl, e5, .inr ⟨l, rfl, nl, hl, nf⟩⟩
    rintro s h6 ⟨v5, rfl, e7, hv5⟩
    try dsimp only []
    refine r_seq (t := tIfS _ _ _) ?_
    refine r_cut (t := tIfS _ _ _) (fun s h' => s = [some (.ref p), some (.ref r), some (.ref hl), some (.ref x), some v4, some v5, none, none, none, none] ∧ Ex h6 h') (fun N hN => ?_) ?_
    · rcases hv5 with ⟨rfl, hf⟩ | ⟨l, rfl, nl, hl, nf⟩
      · walk_at "go"
        refine r_tIf ?_
        walk_at "go"
        refine ⟨r, sp, fr, rfl, hR.ex (E5.trans e7), by omega, fun l ts H5 e6 hT3 hts => ?_⟩
        walk_at "go"
        refine r_newI0 fun n H6 nn e7 hn => ?_
        refine r_neT3 (hT3.ex e7) (L2.SqL.of hn) ?_
        walk_at "go"
        refine r_iteN (fun c => ?_) (fun c => absurd hf (hts.mp c))
        walk_at "go"
        refine r_neSame .non .non rfl ?_
        walk_at "go"
        exact hN _ _ ⟨rfl, e6.trans e7⟩
      · walk_at "go"
        refine r_tIf ?_
        walk_at "go"
        refine ⟨r, sp, fr, rfl, hR.ex (E5.trans e7), by omega, fun l1 ts H5 e6 hT3 hts => ?_⟩
        walk_at "go"
        refine r_newI0 fun n H6 nn e7 hn => ?_
        refine r_neT3 (hT3.ex e7) (L2.SqL.of hn) ?_
        walk_at "go"
        refine r_iteN (fun c => absurd (hts.mpr nf) c) (fun c => ?_)
        walk_at "go"
        refine ⟨r, sp, fr, rfl, hR.ex ((E5.trans ‹Ex h5 h6›).trans (e6.trans e7)), by omega, fun l2 H7 nl2 e8 hl2 => ?_⟩
        refine r_neL (L2.SqL.of (e8 _ _ (e7 _ _ (e6 _ _ hl)))) (L2.SqL.of hl2) ?_
        walk_at "go"
        refine r_noN rfl ?_
        exact hN _ _ ⟨rfl, e6.trans (e7.trans e8)⟩
    rintro s h7 ⟨rfl, e8⟩
    have E7 : Ex H3 h7 := (e5.trans e6).trans (e7.trans e8)
    -- asked again after the lists were spoilt
    try dsimp only []
    refine r_seq (t := tIfS _ _ _) ?_
    refine r_cut (t := tIfS _ _ _) (fun s h' => s = [some (.ref p), some (.ref r), some (.ref hl), some (.ref x), some v4, some v5, none, none, none, none] ∧ Ex H3 h' ∧ NonL H3 h' v5 (WK.leapP sp) (WK.evL sp)) (fun N hN => ?_) ?_
    · have hv5' : NonL H3 h7 v5 (WK.leapP sp) (WK.evL sp) := by
        rcases hv5 with ⟨rfl, hf⟩ | ⟨l5, rfl, nl5, hl5, nf5⟩
        · exact .inl ⟨rfl, hf⟩
        · exact .inr ⟨l5, rfl, fresh_back (e5.trans e6) nl5, e8 _ _ hl5, nf5⟩
      rcases hv4 with ⟨rfl, hf⟩ | ⟨l, rfl, nl, hl4, nf⟩
      · walk_at "go"
        refine r_noN rfl ?_
        exact hN _ _ ⟨rfl, E7, hv5'⟩
      · walk_at "go"
        refine r_yesN (fun z => by cases z) ?_
        have hl7 := e8 _ _ (e7 _ _ (e6 _ _ hl4))
        walk_at "go"
        refine r_appI hl7 (by unfold WK.heldL; rw [List.length_map, List.length_range]; omega) fun H8 e9 h8 f8 => ?_
        have E8 : Ex H3 H8 := ExB.ex E7 e9 nl
        have hv8 : NonL H3 H8 v5 (WK.leapP sp) (WK.evL sp) := by
          rcases hv5 with ⟨rfl, hf⟩ | ⟨l5, rfl, nl5, hl5, nf5⟩
          · exact .inl ⟨rfl, hf⟩
          · exact .inr ⟨l5, rfl, fresh_back (e5.trans e6) nl5, e9 _ _ (ne_of_none (e6 _ _ hl4) nl5).symm (e8 _ _ hl5), nf5⟩
        walk_at "go"
        refine ⟨x, sp, rfl, hT.ex E8, by omega, ok, fun H9 e10 hf => absurd hf nf, fun l2 H9 nl2 e10 hl2 _ => ?_⟩
        walk_at "go"
        refine ⟨r, sp, fr, rfl, hR.ex (e4.trans (E8.trans e10)), by omega, fun l3 H10 nl3 e11 hl3 => ?_⟩
        refine r_neL (L2.SqL.of (e11 _ _ hl2)) (L2.SqL.of hl3) ?_
        walk_at "go"
        refine r_noN rfl ?_
        refine hN _ _ ⟨rfl, E8.trans (e10.trans e11), ?_⟩
        rcases hv8 with ⟨a, b⟩ | ⟨l5, a, b, c, d⟩
        · exact .inl ⟨a, b⟩
        · exact .inr ⟨l5, a, b, e11 _ _ (e10 _ _ c), d⟩
    rintro s h8 ⟨rfl, E8, hv8⟩
    try dsimp only []
    refine r_seq (t := tIfS _ _ _) ?_
    refine r_cut (t := tIfS _ _ _) (fun s h' => s = [some (.ref p), some (.ref r), some (.ref hl), some (.ref x), some v4, some v5, none, none, none, none] ∧ Ex H3 h') (fun N hN => ?_) ?_
    · rcases hv8 with ⟨rfl, hf⟩ | ⟨l, rfl, nl, hl8, nf⟩
      · walk_at "go"
        refine r_noN rfl ?_
        exact hN _ _ ⟨rfl, E8⟩
      · walk_at "go"
        refine r_yesN (fun z => by cases z) ?_
        walk_at "go"
        refine r_appI hl8 (by rw [WK.evL_len]; omega) fun H9 e9 h9 f9 => ?_
        have E9 : Ex H3 H9 := ExB.ex E8 e9 nl
        walk_at "go"
        refine ⟨x, sp, rfl, hT.ex E9, n2, by omega, fun H10 e10 hf => absurd hf nf, fun l2 H10 nl2 e10 hl2 _ => ?_⟩
        walk_at "go"
        refine ⟨r, sp, fr, rfl, hR.ex (e4.trans (E9.trans e10)), by omega, fun l3 H11 nl3 e11 hl3 => ?_⟩
        refine r_neL (L2.SqL.of (e11 _ _ hl2)) (L2.SqL.of hl3) ?_
        walk_at "go"
        refine r_noN rfl ?_
        exact hN _ _ ⟨rfl, E9.trans (e10.trans e11)⟩
    rintro s h9 ⟨rfl, E9⟩
    have hv9 : (v5 = .non ∧ WK.leapP sp) ∨ ∃ l, v5 = .ref l ∧ ¬ WK.leapP sp := by
      rcases hv8 with ⟨a, b⟩ | ⟨l, a, _, _, d⟩
      · exact .inl ⟨a, b⟩
      · exact .inr ⟨l, a, d⟩
    clear hv4 hv5 hv8 e5 e6 e7 e8 E5 E7 E8
    have hp9 := (hp3.ex e4).ex E9
    have hl9 := E9 _ _ (e4 _ _ hhl)
    have hR9 := hR.ex (e4.trans E9)
    have hT9 := hT.ex E9
    walk_at "go"
    refine r_rmk fun y dy H10 ny nd' ne' e10 hy => ?_
    refine ⟨y, hl, dy, hs, rfl, hy, L2.SqL.of (e10 _ _ hl9), by omega, hh, hm, fun H11 g1 g2 e11 m1 m2 y1 y2 y3 => ⟨rfl, ?_⟩⟩
    have E11 : Ex h9 H11 := ExB.ex e10 e11 ny
    have hp11 := hp9.ex E11
    have ng1 : g1 ≠ p := by
      have hp10 := hp9.ex e10
      walk_at "ne"
    have ng2 : g2 ≠ p := by
      have hp10 := hp9.ex e10
      walk_at "ne"
    have nyp : y ≠ p := fun z => by
      obtain ⟨u, v, w, hp⟩ := hp11
      rw [z, hp] at y1
      cases y1
    walk_at "go"
    refine ⟨p, hl, hs, rfl, L2.SqL.of (E11 _ _ hl9), nlp, by omega, hh, hm, hp11, fun ll H12 ns e12 hp12 hll hz => ?_⟩
    have hT12 := (hT9.ex E11).pur hp11 e12 (by omega)
    have hR12 := (hR9.ex E11).pur hp11 e12 (by omega)
    have hl12 := e12 _ _ nlp (E11 _ _ hl9)
    have hY12 : RulerAt CRuler H12 y hs := ⟨dy, g1, g2, e12 _ _ nyp y1, e12 _ _ ng1 y2, e12 _ _ ng2 y3⟩
    have eh12 : ExB p H H12 := (eh.trans (Ex.b ((e4.trans E9).trans E11))).trans e12
    refine forI (L2.SqL.of hll) (fun i s h => (∃ v7 v8, s = [some (.ref p), some (.ref r), some (.ref hl), some (.ref x), some v4, some v5, some (.ref y), v7, v8, none]) ∧ Ex H12 h) ⟨⟨_, _, rfl⟩, Ex.refl _⟩ ?_ ?_ ?_
    · rintro i s h _ ⟨_, e⟩
      exact ex_l e (L2.SqL.of hll)
    · rintro i z s h hzi ⟨⟨v7, v8, rfl⟩, e⟩
      have z0 := hz z (List.mem_of_getElem? hzi)
      walk_at "go"
      refine ⟨x, y, sp, hs, z, rfl, hT12.ex e, hY12.ex e, ok, n2, by omega, hh, hm, lt, z0, fun H13 e13 lp => ?_, fun t H13 u v e13 ht nl vo => ?_⟩
      · rcases hv9 with ⟨rfl, hf⟩ | ⟨l, rfl, nf⟩
        · walk_at "go"
          refine r_yes rfl ?_
          walk_at "go"
          refine r_noN rfl ?_
          exact r_next ⟨⟨_, _, rfl⟩, e.trans e13⟩
        · exact absurd lp nf
      · rcases hv9 with ⟨rfl, hf⟩ | ⟨l, rfl, nf⟩
        · exact absurd hf nl
        · walk_at "go"
          refine r_no (fun z => by cases z) ?_
          walk_at "go"
          refine ⟨r, hl, t, sp, fr, hs, z, u, v, rfl, hR12.ex (e.trans e13), L2.SqL.of (e13 _ _ (e _ _ hl12)), n2, by omega, lt, hh, hm, ht, vo, fun H14 e14 => ?_⟩
          walk_at "go"
          exact ⟨⟨_, _, rfl⟩, e.trans (e13.trans e14)⟩
    · rintro s h ⟨⟨v7, v8, rfl⟩, e⟩
      walk_at "go"
      exact q h (eh12.trans (Ex.b e)) (hp12.ex e)
def spLaw (K : PySem.W.Frag) : Sp := fun vs H Q _ => ∃ (a : Addr) (ns : List Int), vs = [.ref a] ∧ SqL K H a (ns.map V.int) ∧ ns.length ≤ 63 ∧ ∀ H2, Q (.bl true) H2
abbrev s_law : Stmt := top 48
theorem sc_law : FnScope ["script", "purse", "sort"] ["script"] (defScope s_law) := ⟨rfl, rfl, rfl, by decide +kernel, rfl, by decide +kernel, by decide +kernel⟩
theorem ok_law (T : Txt K mg tkC tkH tkL ) {f : Addr} {fd : FuncData} (F : Fun K "law" "law" s_law f fd) (d__law_purse : Def P w K mg base "_law_purse" 1 ["script", "at"] (spPurse K)) (d__law_draw : Def P w K mg base "_law_draw" 1 ["purse", "many"] spDraw)
    (d__law_drawn_table : Def P w K mg base "_law_drawn_table" 3 ["purse", "sort"] (spDrawn K)) (d__law_table_right : Def P w K mg base "_law_table_right" 6 ["purse", "row"] (spTabR K)) :
    FnOk P w K mg base (L2.CX P w) 7 f fd ["script"] (spLaw K) := by
  refine fnK F sc_law (fun vs H Q E h => ?_) (fun f cdv Ar outer s H vs Q E hr h => ⟨_, (pss_cons (ps_set (i := 1) sc_law.nd rfl (Or.inl rfl) (pe_d d__law_purse (hr.mono (by decide)) (passes_call (takes_of rfl rfl rfl rfl) (fun _ _ _ _ h => h)) (pa_cons (pv 0) (pa_cons pe_int pa_nil))))
      (pss_cons (ps_for (passes_of rfl) rfl (pi_list (pe_lst (pa_cons (pe_d d__law_draw (hr.mono (by decide)) (passes_call (takes_of rfl rfl rfl rfl) (fun _ _ _ _ h => h)) (pa_cons (pv 1) (pa_cons pe_int pa_nil))) (pa_cons (pe_op op_add pe_int (pe_d d__law_draw (hr.mono (by decide)) (passes_call (takes_of rfl rfl rfl rfl) (fun _ _ _ _ h => h)) (pa_cons (pv 1) (pa_cons pe_int pa_nil)))) pa_nil)))) (pg_name (i := 2) sc_law.nd rfl (Or.inl rfl)) (pss_one (ps_if (pt_not (pt_val (pe_d d__law_table_right (hr.mono (by decide)) (passes_call (takes_of rfl rfl rfl rfl) (fun _ _ _ _ h => h)) (pa_cons (pv 1) (pa_cons (pe_d d__law_drawn_table (hr.mono (by decide)) (passes_call (takes_of rfl rfl rfl rfl) (fun _ _ _ _ h => h)) (pa_cons (pv 1) (pa_cons (pv 2) pa_nil))) pa_nil))))) (pss_one (ps_ret pe_bl)) pss_nil)))
      (pss_one (ps_ret pe_bl)))), ?_⟩)
  · obtain ⟨a, ns, rfl, _⟩ := h
    rfl
  · obtain ⟨a, ns, rfl, ha, hn, q⟩ := h
    walk_at "go0"
    refine ⟨a, ns, 0, rfl, ha, by decide, hn, fun p H1 np e1 hp1 => ?_⟩
    walk_at "go"
    refine ⟨p, 2, rfl, by decide, by decide, hp1, fun x H2 x0 x1 e2 hp2 => ?_⟩
    walk_at "go"
    refine ⟨p, 2, rfl, by decide, by decide, hp2, fun y H3 y0 y1 e3 hp3 => ?_⟩
    walk_at "go"
    refine r_newI2 fun l H4 nl e4 hl => ?_
    have nlp : l ≠ p := by walk_at "ne"
    have hp4 := hp3.ex e4
    refine forI (ns := [x, 2 + y]) (L2.SqL.of hl) (fun i s h => (∃ v2, s = [some (.ref a), some (.ref p), v2]) ∧ Pur h p ∧ h l = some (.lst ([x, 2 + y].map V.int))) ⟨⟨_, rfl⟩, hp4, hl⟩ ?_ ?_ ?_
    · rintro i s h _ ⟨_, _, hl⟩
      exact L2.SqL.of hl
    · rintro i z s h hz ⟨⟨v2, rfl⟩, hp, hl⟩
      walk_at "go"
      refine ⟨p, z, rfl, hp, fun n n2 n8 r H5 sp fr e5 hp5 hR ok hn hb f0 f1 => ?_⟩
      walk_at "go"
      refine ⟨p, r, sp, fr, rfl, hp5, hR, ok, by omega, by omega, hb, f0, f1, fun H6 e6 hp6 => ?_⟩
      walk_at "go"
      exact ⟨⟨_, rfl⟩, hp6, e6 _ _ nlp (e5 _ _ nlp hl)⟩
    · rintro s h ⟨⟨v2, rfl⟩, hp, hl⟩
      walk_at "go"
      exact q h
end
end K16
namespace K16
open PySem PySem.Spec PyProof.Rows L2 Evl Lay
theorem all_mk {l : PySem.W.OpenLaw} {w : World} {K : PySem.W.Frag} {h : Heap} {mg : Str → Option Value} {fa : Addr} (X : K.In h) (G : h.Ns mainGlobals mg) (hfa : mg "law" = some (.ref fa))
    {tkC : Tok}
    {tkH : Tok}
    {tkL : Tok}
    {p1 : Addr} {e1 n1 : Option Addr} {v1 : Array (Option Value)} {o1 k1 d1 m1 c1 t1 : Value}
    {p2 : Addr} {e2 n2 : Option Addr} {v2 : Array (Option Value)} {o2 k2 d2 m2 c2 t2 : Value}
    {p3 : Addr} {e3 n3 : Option Addr} {v3 : Array (Option Value)} {o3 k3 d3 m3 c3 t3 : Value}
    {p4 : Addr} {e4 n4 : Option Addr} {v4 : Array (Option Value)} {o4 k4 d4 m4 c4 t4 : Value}
    {p5 : Addr} {e5 n5 : Option Addr} {v5 : Array (Option Value)} {o5 k5 d5 m5 c5 t5 : Value}
    {p6 : Addr} {e6 n6 : Option Addr} {v6 : Array (Option Value)} {o6 k6 d6 m6 c6 t6 : Value}
    {p7 : Addr} {e7 n7 : Option Addr} {v7 : Array (Option Value)} {o7 k7 d7 m7 c7 t7 : Value}
    {p8 : Addr} {e8 n8 : Option Addr} {v8 : Array (Option Value)} {o8 k8 d8 m8 c8 t8 : Value}
    {p9 : Addr} {e9 n9 : Option Addr} {v9 : Array (Option Value)} {o9 k9 d9 m9 c9 t9 : Value}
    {p10 : Addr} {e10 n10 : Option Addr} {v10 : Array (Option Value)} {o10 k10 d10 m10 c10 t10 : Value}
    {p11 : Addr} {e11 n11 : Option Addr} {v11 : Array (Option Value)} {o11 k11 d11 m11 c11 t11 : Value}
    {p12 : Addr} {e12 n12 : Option Addr} {v12 : Array (Option Value)} {o12 k12 d12 m12 c12 t12 : Value}
    {p13 : Addr} {e13 n13 : Option Addr} {v13 : Array (Option Value)} {o13 k13 d13 m13 c13 t13 : Value}
    {p14 : Addr} {e14 n14 : Option Addr} {v14 : Array (Option Value)} {o14 k14 d14 m14 c14 t14 : Value}
    {p15 : Addr} {e15 n15 : Option Addr} {v15 : Array (Option Value)} {o15 k15 d15 m15 c15 t15 : Value}
    {p16 : Addr} {e16 n16 : Option Addr} {v16 : Array (Option Value)} {o16 k16 d16 m16 c16 t16 : Value}
    {p17 : Addr} {e17 n17 : Option Addr} {v17 : Array (Option Value)} {o17 k17 d17 m17 c17 t17 : Value}
    {p18 : Addr} {e18 n18 : Option Addr} {v18 : Array (Option Value)} {o18 k18 d18 m18 c18 t18 : Value}
    {p19 : Addr} {e19 n19 : Option Addr} {v19 : Array (Option Value)} {o19 k19 d19 m19 c19 t19 : Value}
    {p20 : Addr} {e20 n20 : Option Addr} {v20 : Array (Option Value)} {o20 k20 d20 m20 c20 t20 : Value}
    {p21 : Addr} {e21 n21 : Option Addr} {v21 : Array (Option Value)} {o21 k21 d21 m21 c21 t21 : Value}
    {p22 : Addr} {e22 n22 : Option Addr} {v22 : Array (Option Value)} {o22 k22 d22 m22 c22 t22 : Value}
    {p23 : Addr} {e23 n23 : Option Addr} {v23 : Array (Option Value)} {o23 k23 d23 m23 c23 t23 : Value}
    {p24 : Addr} {e24 n24 : Option Addr} {v24 : Array (Option Value)} {o24 k24 d24 m24 c24 t24 : Value}
    {p25 : Addr} {e25 n25 : Option Addr} {v25 : Array (Option Value)} {o25 k25 d25 m25 c25 t25 : Value}
    {p26 : Addr} {e26 n26 : Option Addr} {v26 : Array (Option Value)} {o26 k26 d26 m26 c26 t26 : Value}
    {p27 : Addr} {e27 n27 : Option Addr} {v27 : Array (Option Value)} {o27 k27 d27 m27 c27 t27 : Value}
    {p28 : Addr} {e28 n28 : Option Addr} {v28 : Array (Option Value)} {o28 k28 d28 m28 c28 t28 : Value}
    {p29 : Addr} {e29 n29 : Option Addr} {v29 : Array (Option Value)} {o29 k29 d29 m29 c29 t29 : Value}
    {CRuler : Addr}
    {CTable : Addr}
    {CBlock : Addr}
    {pM0 : Addr} {eM0 nM0 : Option Addr} {vM0 : Array (Option Value)} {oM0 kM0 dcM0 mM0 cM0 tM0 : Value}
    {pM1 : Addr} {eM1 nM1 : Option Addr} {vM1 : Array (Option Value)} {oM1 kM1 dcM1 mM1 cM1 tM1 : Value}
    {pM2 : Addr} {eM2 nM2 : Option Addr} {vM2 : Array (Option Value)} {oM2 kM2 dcM2 mM2 cM2 tM2 : Value}
    {pM3 : Addr} {eM3 nM3 : Option Addr} {vM3 : Array (Option Value)} {oM3 kM3 dcM3 mM3 cM3 tM3 : Value}
    {pM4 : Addr} {eM4 nM4 : Option Addr} {vM4 : Array (Option Value)} {oM4 kM4 dcM4 mM4 cM4 tM4 : Value}
    {dM5 : Addr} {tD5_0 : Tok} {eD5 : Option Addr} {nD5 : Nat} {vD5 : Array (Option Value)}
    {pM5 : Addr} {eM5 nM5 : Option Addr} {vM5 : Array (Option Value)} {oM5 kM5 dcM5 mM5 cM5 tM5 : Value}
    {pM6 : Addr} {eM6 nM6 : Option Addr} {vM6 : Array (Option Value)} {oM6 kM6 dcM6 mM6 cM6 tM6 : Value}
    {pM7 : Addr} {eM7 nM7 : Option Addr} {vM7 : Array (Option Value)} {oM7 kM7 dcM7 mM7 cM7 tM7 : Value}
    {pM8 : Addr} {eM8 nM8 : Option Addr} {vM8 : Array (Option Value)} {oM8 kM8 dcM8 mM8 cM8 tM8 : Value}
    {pM9 : Addr} {eM9 nM9 : Option Addr} {vM9 : Array (Option Value)} {oM9 kM9 dcM9 mM9 cM9 tM9 : Value}
    {pL : Addr} {eL nL : Option Addr} {vL : Array (Option Value)} {oL kL dL mL cL tL : Value}
    (z_abs : PySem.W.nsIn K mainGlobals "abs" = some none)
    (z_bool : PySem.W.nsIn K mainGlobals "bool" = some none)
    (z_enumerate : PySem.W.nsIn K mainGlobals "enumerate" = some none)
    (z_int : PySem.W.nsIn K mainGlobals "int" = some none)
    (z_isinstance : PySem.W.nsIn K mainGlobals "isinstance" = some none)
    (z_len : PySem.W.nsIn K mainGlobals "len" = some none)
    (z_list : PySem.W.nsIn K mainGlobals "list" = some none)
    (z_max : PySem.W.nsIn K mainGlobals "max" = some none)
    (z_range : PySem.W.nsIn K mainGlobals "range" = some none)
    (z_sum : PySem.W.nsIn K mainGlobals "sum" = some none)
    (z_tuple : PySem.W.nsIn K mainGlobals "tuple" = some none)
    (g_CELLS : PySem.W.nsIn K mainGlobals "CELLS" = some (some (.int 64 tkC)))
    (g_HEIGHTS : PySem.W.nsIn K mainGlobals "HEIGHTS" = some (some (.int 1000000000 tkH)))
    (g_LINES : PySem.W.nsIn K mainGlobals "LINES" = some (some (.int 1000000 tkL)))
    (a1 : PySem.W.nsIn K mainGlobals "is_whole" = some (some (.ref p1)))
    (l1 : K.lookup p1 = some ⟨o1, e1, .func (PySem.W.fnOf "is_whole" "is_whole" (defArgs s_is_whole) (defBody s_is_whole) (defScope s_is_whole) .none k1 d1 m1 n1 c1 t1), v1⟩)
    (c1x : PySem.W.codeIn K c1 "is_whole" = true)
    (k1x : PySem.W.keepIn K (.ref p1) = true)
    (a2 : PySem.W.nsIn K mainGlobals "check_most" = some (some (.ref p2)))
    (l2 : K.lookup p2 = some ⟨o2, e2, .func (PySem.W.fnOf "check_most" "check_most" (defArgs s_check_most) (defBody s_check_most) (defScope s_check_most) .none k2 d2 m2 n2 c2 t2), v2⟩)
    (c2x : PySem.W.codeIn K c2 "check_most" = true)
    (k2x : PySem.W.keepIn K (.ref p2) = true)
    (a3 : PySem.W.nsIn K mainGlobals "check_numbers" = some (some (.ref p3)))
    (l3 : K.lookup p3 = some ⟨o3, e3, .func (PySem.W.fnOf "check_numbers" "check_numbers" (defArgs s_check_numbers) (defBody s_check_numbers) (defScope s_check_numbers) .none k3 d3 m3 n3 c3 t3), v3⟩)
    (c3x : PySem.W.codeIn K c3 "check_numbers" = true)
    (k3x : PySem.W.keepIn K (.ref p3) = true)
    (a4 : PySem.W.nsIn K mainGlobals "fall_of" = some (some (.ref p4)))
    (l4 : K.lookup p4 = some ⟨o4, e4, .func (PySem.W.fnOf "fall_of" "fall_of" (defArgs s_fall_of) (defBody s_fall_of) (defScope s_fall_of) .none k4 d4 m4 n4 c4 t4), v4⟩)
    (c4x : PySem.W.codeIn K c4 "fall_of" = true)
    (k4x : PySem.W.keepIn K (.ref p4) = true)
    (a5 : PySem.W.nsIn K mainGlobals "leap_of" = some (some (.ref p5)))
    (l5 : K.lookup p5 = some ⟨o5, e5, .func (PySem.W.fnOf "leap_of" "leap_of" (defArgs s_leap_of) (defBody s_leap_of) (defScope s_leap_of) .none k5 d5 m5 n5 c5 t5), v5⟩)
    (c5x : PySem.W.codeIn K c5 "leap_of" = true)
    (k5x : PySem.W.keepIn K (.ref p5) = true)
    (a6 : PySem.W.nsIn K mainGlobals "held_lows" = some (some (.ref p6)))
    (l6 : K.lookup p6 = some ⟨o6, e6, .func (PySem.W.fnOf "held_lows" "held_lows" (defArgs s_held_lows) (defBody s_held_lows) (defScope s_held_lows) .none k6 d6 m6 n6 c6 t6), v6⟩)
    (c6x : PySem.W.codeIn K c6 "held_lows" = true)
    (k6x : PySem.W.keepIn K (.ref p6) = true)
    (a7 : PySem.W.nsIn K mainGlobals "even_lows" = some (some (.ref p7)))
    (l7 : K.lookup p7 = some ⟨o7, e7, .func (PySem.W.fnOf "even_lows" "even_lows" (defArgs s_even_lows) (defBody s_even_lows) (defScope s_even_lows) .none k7 d7 m7 n7 c7 t7), v7⟩)
    (c7x : PySem.W.codeIn K c7 "even_lows" = true)
    (k7x : PySem.W.keepIn K (.ref p7) = true)
    (a8 : PySem.W.nsIn K mainGlobals "in_lowest_terms" = some (some (.ref p8)))
    (l8 : K.lookup p8 = some ⟨o8, e8, .func (PySem.W.fnOf "in_lowest_terms" "in_lowest_terms" (defArgs s_in_lowest_terms) (defBody s_in_lowest_terms) (defScope s_in_lowest_terms) .none k8 d8 m8 n8 c8 t8), v8⟩)
    (c8x : PySem.W.codeIn K c8 "in_lowest_terms" = true)
    (k8x : PySem.W.keepIn K (.ref p8) = true)
    (a9 : PySem.W.nsIn K mainGlobals "even_at" = some (some (.ref p9)))
    (l9 : K.lookup p9 = some ⟨o9, e9, .func (PySem.W.fnOf "even_at" "even_at" (defArgs s_even_at) (defBody s_even_at) (defScope s_even_at) .none k9 d9 m9 n9 c9 t9), v9⟩)
    (c9x : PySem.W.codeIn K c9 "even_at" = true)
    (k9x : PySem.W.keepIn K (.ref p9) = true)
    (a10 : PySem.W.nsIn K mainGlobals "_law_purse" = some (some (.ref p10)))
    (l10 : K.lookup p10 = some ⟨o10, e10, .func (PySem.W.fnOf "_law_purse" "_law_purse" (defArgs s__law_purse) (defBody s__law_purse) (defScope s__law_purse) .none k10 d10 m10 n10 c10 t10), v10⟩)
    (c10x : PySem.W.codeIn K c10 "_law_purse" = true)
    (k10x : PySem.W.keepIn K (.ref p10) = true)
    (a11 : PySem.W.nsIn K mainGlobals "_law_draw" = some (some (.ref p11)))
    (l11 : K.lookup p11 = some ⟨o11, e11, .func (PySem.W.fnOf "_law_draw" "_law_draw" (defArgs s__law_draw) (defBody s__law_draw) (defScope s__law_draw) .none k11 d11 m11 n11 c11 t11), v11⟩)
    (c11x : PySem.W.codeIn K c11 "_law_draw" = true)
    (k11x : PySem.W.keepIn K (.ref p11) = true)
    (a12 : PySem.W.nsIn K mainGlobals "_law_couples" = some (some (.ref p12)))
    (l12 : K.lookup p12 = some ⟨o12, e12, .func (PySem.W.fnOf "_law_couples" "_law_couples" (defArgs s__law_couples) (defBody s__law_couples) (defScope s__law_couples) .none k12 d12 m12 n12 c12 t12), v12⟩)
    (c12x : PySem.W.codeIn K c12 "_law_couples" = true)
    (k12x : PySem.W.keepIn K (.ref p12) = true)
    (a13 : PySem.W.nsIn K mainGlobals "_law_falls" = some (some (.ref p13)))
    (l13 : K.lookup p13 = some ⟨o13, e13, .func (PySem.W.fnOf "_law_falls" "_law_falls" (defArgs s__law_falls) (defBody s__law_falls) (defScope s__law_falls) .none k13 d13 m13 n13 c13 t13), v13⟩)
    (c13x : PySem.W.codeIn K c13 "_law_falls" = true)
    (k13x : PySem.W.keepIn K (.ref p13) = true)
    (a14 : PySem.W.nsIn K mainGlobals "_law_leaps" = some (some (.ref p14)))
    (l14 : K.lookup p14 = some ⟨o14, e14, .func (PySem.W.fnOf "_law_leaps" "_law_leaps" (defArgs s__law_leaps) (defBody s__law_leaps) (defScope s__law_leaps) .none k14 d14 m14 n14 c14 t14), v14⟩)
    (c14x : PySem.W.codeIn K c14 "_law_leaps" = true)
    (k14x : PySem.W.keepIn K (.ref p14) = true)
    (a15 : PySem.W.nsIn K mainGlobals "_law_calm_table" = some (some (.ref p15)))
    (l15 : K.lookup p15 = some ⟨o15, e15, .func (PySem.W.fnOf "_law_calm_table" "_law_calm_table" (defArgs s__law_calm_table) (defBody s__law_calm_table) (defScope s__law_calm_table) .none k15 d15 m15 n15 c15 t15), v15⟩)
    (c15x : PySem.W.codeIn K c15 "_law_calm_table" = true)
    (k15x : PySem.W.keepIn K (.ref p15) = true)
    (a16 : PySem.W.nsIn K mainGlobals "_law_any_table" = some (some (.ref p16)))
    (l16 : K.lookup p16 = some ⟨o16, e16, .func (PySem.W.fnOf "_law_any_table" "_law_any_table" (defArgs s__law_any_table) (defBody s__law_any_table) (defScope s__law_any_table) .none k16 d16 m16 n16 c16 t16), v16⟩)
    (c16x : PySem.W.codeIn K c16 "_law_any_table" = true)
    (k16x : PySem.W.keepIn K (.ref p16) = true)
    (a17 : PySem.W.nsIn K mainGlobals "_law_even_table" = some (some (.ref p17)))
    (l17 : K.lookup p17 = some ⟨o17, e17, .func (PySem.W.fnOf "_law_even_table" "_law_even_table" (defArgs s__law_even_table) (defBody s__law_even_table) (defScope s__law_even_table) .none k17 d17 m17 n17 c17 t17), v17⟩)
    (c17x : PySem.W.codeIn K c17 "_law_even_table" = true)
    (k17x : PySem.W.keepIn K (.ref p17) = true)
    (a18 : PySem.W.nsIn K mainGlobals "_law_sinking_table" = some (some (.ref p18)))
    (l18 : K.lookup p18 = some ⟨o18, e18, .func (PySem.W.fnOf "_law_sinking_table" "_law_sinking_table" (defArgs s__law_sinking_table) (defBody s__law_sinking_table) (defScope s__law_sinking_table) .none k18 d18 m18 n18 c18 t18), v18⟩)
    (c18x : PySem.W.codeIn K c18 "_law_sinking_table" = true)
    (k18x : PySem.W.keepIn K (.ref p18) = true)
    (a19 : PySem.W.nsIn K mainGlobals "_law_drawn_table" = some (some (.ref p19)))
    (l19 : K.lookup p19 = some ⟨o19, e19, .func (PySem.W.fnOf "_law_drawn_table" "_law_drawn_table" (defArgs s__law_drawn_table) (defBody s__law_drawn_table) (defScope s__law_drawn_table) .none k19 d19 m19 n19 c19 t19), v19⟩)
    (c19x : PySem.W.codeIn K c19 "_law_drawn_table" = true)
    (k19x : PySem.W.keepIn K (.ref p19) = true)
    (a20 : PySem.W.nsIn K mainGlobals "_law_heights" = some (some (.ref p20)))
    (l20 : K.lookup p20 = some ⟨o20, e20, .func (PySem.W.fnOf "_law_heights" "_law_heights" (defArgs s__law_heights) (defBody s__law_heights) (defScope s__law_heights) .none k20 d20 m20 n20 c20 t20), v20⟩)
    (c20x : PySem.W.codeIn K c20 "_law_heights" = true)
    (k20x : PySem.W.keepIn K (.ref p20) = true)
    (a21 : PySem.W.nsIn K mainGlobals "_law_wider" = some (some (.ref p21)))
    (l21 : K.lookup p21 = some ⟨o21, e21, .func (PySem.W.fnOf "_law_wider" "_law_wider" (defArgs s__law_wider) (defBody s__law_wider) (defScope s__law_wider) .none k21 d21 m21 n21 c21 t21), v21⟩)
    (c21x : PySem.W.codeIn K c21 "_law_wider" = true)
    (k21x : PySem.W.keepIn K (.ref p21) = true)
    (a22 : PySem.W.nsIn K mainGlobals "_law_held" = some (some (.ref p22)))
    (l22 : K.lookup p22 = some ⟨o22, e22, .func (PySem.W.fnOf "_law_held" "_law_held" (defArgs s__law_held) (defBody s__law_held) (defScope s__law_held) .none k22 d22 m22 n22 c22 t22), v22⟩)
    (c22x : PySem.W.codeIn K c22 "_law_held" = true)
    (k22x : PySem.W.keepIn K (.ref p22) = true)
    (a23 : PySem.W.nsIn K mainGlobals "_law_even" = some (some (.ref p23)))
    (l23 : K.lookup p23 = some ⟨o23, e23, .func (PySem.W.fnOf "_law_even" "_law_even" (defArgs s__law_even) (defBody s__law_even) (defScope s__law_even) .none k23 d23 m23 n23 c23 t23), v23⟩)
    (c23x : PySem.W.codeIn K c23 "_law_even" = true)
    (k23x : PySem.W.keepIn K (.ref p23) = true)
    (a24 : PySem.W.nsIn K mainGlobals "_law_cell" = some (some (.ref p24)))
    (l24 : K.lookup p24 = some ⟨o24, e24, .func (PySem.W.fnOf "_law_cell" "_law_cell" (defArgs s__law_cell) (defBody s__law_cell) (defScope s__law_cell) .none k24 d24 m24 n24 c24 t24), v24⟩)
    (c24x : PySem.W.codeIn K c24 "_law_cell" = true)
    (k24x : PySem.W.keepIn K (.ref p24) = true)
    (a25 : PySem.W.nsIn K mainGlobals "_law_divisor" = some (some (.ref p25)))
    (l25 : K.lookup p25 = some ⟨o25, e25, .func (PySem.W.fnOf "_law_divisor" "_law_divisor" (defArgs s__law_divisor) (defBody s__law_divisor) (defScope s__law_divisor) .none k25 d25 m25 n25 c25 t25), v25⟩)
    (c25x : PySem.W.codeIn K c25 "_law_divisor" = true)
    (k25x : PySem.W.keepIn K (.ref p25) = true)
    (a26 : PySem.W.nsIn K mainGlobals "_law_even_due" = some (some (.ref p26)))
    (l26 : K.lookup p26 = some ⟨o26, e26, .func (PySem.W.fnOf "_law_even_due" "_law_even_due" (defArgs s__law_even_due) (defBody s__law_even_due) (defScope s__law_even_due) .none k26 d26 m26 n26 c26 t26), v26⟩)
    (c26x : PySem.W.codeIn K c26 "_law_even_due" = true)
    (k26x : PySem.W.keepIn K (.ref p26) = true)
    (a27 : PySem.W.nsIn K mainGlobals "_law_value_right" = some (some (.ref p27)))
    (l27 : K.lookup p27 = some ⟨o27, e27, .func (PySem.W.fnOf "_law_value_right" "_law_value_right" (defArgs s__law_value_right) (defBody s__law_value_right) (defScope s__law_value_right) .none k27 d27 m27 n27 c27 t27), v27⟩)
    (c27x : PySem.W.codeIn K c27 "_law_value_right" = true)
    (k27x : PySem.W.keepIn K (.ref p27) = true)
    (a28 : PySem.W.nsIn K mainGlobals "_law_asked_lines" = some (some (.ref p28)))
    (l28 : K.lookup p28 = some ⟨o28, e28, .func (PySem.W.fnOf "_law_asked_lines" "_law_asked_lines" (defArgs s__law_asked_lines) (defBody s__law_asked_lines) (defScope s__law_asked_lines) .none k28 d28 m28 n28 c28 t28), v28⟩)
    (c28x : PySem.W.codeIn K c28 "_law_asked_lines" = true)
    (k28x : PySem.W.keepIn K (.ref p28) = true)
    (a29 : PySem.W.nsIn K mainGlobals "_law_table_right" = some (some (.ref p29)))
    (l29 : K.lookup p29 = some ⟨o29, e29, .func (PySem.W.fnOf "_law_table_right" "_law_table_right" (defArgs s__law_table_right) (defBody s__law_table_right) (defScope s__law_table_right) .none k29 d29 m29 n29 c29 t29), v29⟩)
    (c29x : PySem.W.codeIn K c29 "_law_table_right" = true)
    (k29x : PySem.W.keepIn K (.ref p29) = true)
    (aK_Ruler : PySem.W.nsIn K mainGlobals "Ruler" = some (some (.ref CRuler)))
    (pg_Ruler : PySem.W.plainGet K CRuler Str.empty = true)
    (hd_Ruler : PySem.W.hasDictIn K CRuler = true)
    (po_Ruler : PySem.W.plainOver K CRuler = true)
    (sa_Ruler : PySem.W.findIn K (.ref CRuler) "__setattr__" = some (some (.builtin "object.__setattr__")))
    (kc_Ruler : PySem.W.keepIn K (.ref CRuler) = true)
    (mk_Ruler : PySem.W.makesIn K CRuler = true)
    (nf_Ruler_height_list : PySem.W.findIn K (.ref CRuler) "height_list" = some none)
    (nf_Ruler_edge_list : PySem.W.findIn K (.ref CRuler) "edge_list" = some none)
    (aK_Table : PySem.W.nsIn K mainGlobals "Table" = some (some (.ref CTable)))
    (pg_Table : PySem.W.plainGet K CTable Str.empty = true)
    (hd_Table : PySem.W.hasDictIn K CTable = true)
    (po_Table : PySem.W.plainOver K CTable = true)
    (sa_Table : PySem.W.findIn K (.ref CTable) "__setattr__" = some (some (.builtin "object.__setattr__")))
    (kc_Table : PySem.W.keepIn K (.ref CTable) = true)
    (mk_Table : PySem.W.makesIn K CTable = true)
    (nf_Table_span_rows : PySem.W.findIn K (.ref CTable) "span_rows" = some none)
    (nf_Table_free_lines : PySem.W.findIn K (.ref CTable) "free_lines" = some none)
    (aK_Block : PySem.W.nsIn K mainGlobals "Block" = some (some (.ref CBlock)))
    (pg_Block : PySem.W.plainGet K CBlock Str.empty = true)
    (hd_Block : PySem.W.hasDictIn K CBlock = true)
    (po_Block : PySem.W.plainOver K CBlock = true)
    (sa_Block : PySem.W.findIn K (.ref CBlock) "__setattr__" = some (some (.builtin "object.__setattr__")))
    (kc_Block : PySem.W.keepIn K (.ref CBlock) = true)
    (aM0 : PySem.W.findIn K (.ref CRuler) "__init__" = some (some (.ref pM0)))
    (iM0 : PySem.W.isFn K (.ref pM0) = true)
    (lM0 : K.lookup pM0 = some ⟨oM0, eM0, .func (PySem.W.fnOf "__init__" "Ruler.__init__" (defArgs s_Ruler___init__) (defBody s_Ruler___init__) (defScope s_Ruler___init__) .none kM0 dcM0 mM0 nM0 cM0 tM0), vM0⟩)
    (cM0x : PySem.W.codeIn K cM0 "Ruler.__init__" = true)
    (kM0x : PySem.W.keepIn K (.ref pM0) = true)
    (aM1 : PySem.W.findIn K (.ref CRuler) "many" = some (some (.ref pM1)))
    (iM1 : PySem.W.isFn K (.ref pM1) = true)
    (lM1 : K.lookup pM1 = some ⟨oM1, eM1, .func (PySem.W.fnOf "many" "Ruler.many" (defArgs s_Ruler_many) (defBody s_Ruler_many) (defScope s_Ruler_many) .none kM1 dcM1 mM1 nM1 cM1 tM1), vM1⟩)
    (cM1x : PySem.W.codeIn K cM1 "Ruler.many" = true)
    (kM1x : PySem.W.keepIn K (.ref pM1) = true)
    (aM2 : PySem.W.findIn K (.ref CRuler) "cell" = some (some (.ref pM2)))
    (iM2 : PySem.W.isFn K (.ref pM2) = true)
    (lM2 : K.lookup pM2 = some ⟨oM2, eM2, .func (PySem.W.fnOf "cell" "Ruler.cell" (defArgs s_Ruler_cell) (defBody s_Ruler_cell) (defScope s_Ruler_cell) .none kM2 dcM2 mM2 nM2 cM2 tM2), vM2⟩)
    (cM2x : PySem.W.codeIn K cM2 "Ruler.cell" = true)
    (kM2x : PySem.W.keepIn K (.ref pM2) = true)
    (aM3 : PySem.W.findIn K (.ref CRuler) "check_cell" = some (some (.ref pM3)))
    (iM3 : PySem.W.isFn K (.ref pM3) = true)
    (lM3 : K.lookup pM3 = some ⟨oM3, eM3, .func (PySem.W.fnOf "check_cell" "Ruler.check_cell" (defArgs s_Ruler_check_cell) (defBody s_Ruler_check_cell) (defScope s_Ruler_check_cell) .none kM3 dcM3 mM3 nM3 cM3 tM3), vM3⟩)
    (cM3x : PySem.W.codeIn K cM3 "Ruler.check_cell" = true)
    (kM3x : PySem.W.keepIn K (.ref pM3) = true)
    (aM4 : PySem.W.findIn K (.ref CRuler) "first" = some (some (.ref pM4)))
    (iM4 : PySem.W.isFn K (.ref pM4) = true)
    (lM4 : K.lookup pM4 = some ⟨oM4, eM4, .func (PySem.W.fnOf "first" "Ruler.first" (defArgs s_Ruler_first) (defBody s_Ruler_first) (defScope s_Ruler_first) .none kM4 dcM4 mM4 nM4 cM4 tM4), vM4⟩)
    (cM4x : PySem.W.codeIn K cM4 "Ruler.first" = true)
    (kM4x : PySem.W.keepIn K (.ref pM4) = true)
    (aM5 : PySem.W.findIn K (.ref CTable) "__init__" = some (some (.ref pM5)))
    (iM5 : PySem.W.isFn K (.ref pM5) = true)
    (lM5 : K.lookup pM5 = some ⟨oM5, eM5, .func (PySem.W.fnOf "__init__" "Table.__init__" (defArgs s_Table___init__) (defBody s_Table___init__) (defScope s_Table___init__) (.ref dM5) kM5 dcM5 mM5 nM5 cM5 tM5), vM5⟩)
    (lD5 : K.lookup dM5 = some ⟨.type "tuple", eD5, .seq #[.int 0 tD5_0] nD5, vD5⟩)
    (cM5x : PySem.W.codeIn K cM5 "Table.__init__" = true)
    (kM5x : PySem.W.keepIn K (.ref pM5) = true)
    (aM6 : PySem.W.findIn K (.ref CTable) "spans" = some (some (.ref pM6)))
    (iM6 : PySem.W.isFn K (.ref pM6) = true)
    (lM6 : K.lookup pM6 = some ⟨oM6, eM6, .func (PySem.W.fnOf "spans" "Table.spans" (defArgs s_Table_spans) (defBody s_Table_spans) (defScope s_Table_spans) .none kM6 dcM6 mM6 nM6 cM6 tM6), vM6⟩)
    (cM6x : PySem.W.codeIn K cM6 "Table.spans" = true)
    (kM6x : PySem.W.keepIn K (.ref pM6) = true)
    (aM7 : PySem.W.findIn K (.ref CTable) "cells" = some (some (.ref pM7)))
    (iM7 : PySem.W.isFn K (.ref pM7) = true)
    (lM7 : K.lookup pM7 = some ⟨oM7, eM7, .func (PySem.W.fnOf "cells" "Table.cells" (defArgs s_Table_cells) (defBody s_Table_cells) (defScope s_Table_cells) .none kM7 dcM7 mM7 nM7 cM7 tM7), vM7⟩)
    (cM7x : PySem.W.codeIn K cM7 "Table.cells" = true)
    (kM7x : PySem.W.keepIn K (.ref pM7) = true)
    (aM8 : PySem.W.findIn K (.ref CTable) "check_cell" = some (some (.ref pM8)))
    (iM8 : PySem.W.isFn K (.ref pM8) = true)
    (lM8 : K.lookup pM8 = some ⟨oM8, eM8, .func (PySem.W.fnOf "check_cell" "Table.check_cell" (defArgs s_Table_check_cell) (defBody s_Table_check_cell) (defScope s_Table_check_cell) .none kM8 dcM8 mM8 nM8 cM8 tM8), vM8⟩)
    (cM8x : PySem.W.codeIn K cM8 "Table.check_cell" = true)
    (kM8x : PySem.W.keepIn K (.ref pM8) = true)
    (aM9 : PySem.W.findIn K (.ref CTable) "low" = some (some (.ref pM9)))
    (iM9 : PySem.W.isFn K (.ref pM9) = true)
    (lM9 : K.lookup pM9 = some ⟨oM9, eM9, .func (PySem.W.fnOf "low" "Table.low" (defArgs s_Table_low) (defBody s_Table_low) (defScope s_Table_low) .none kM9 dcM9 mM9 nM9 cM9 tM9), vM9⟩)
    (cM9x : PySem.W.codeIn K cM9 "Table.low" = true)
    (kM9x : PySem.W.keepIn K (.ref pM9) = true)
    (ia_Table : PySem.W.findIn K (.ref CTable) "__class__" = some (some (.builtin "object.__class__")))
    (im_Table : PySem.W.mroIn K CTable (.type "object") = some true)
    (i_n : PySem.W.specialIn K (.builtin "object.__class__") "__get__" = some (some (.builtin "getset_descriptor.__get__")))
    (i_t : PySem.W.takesIn K (.builtin "object.__class__") = some true)
    (kit_Table_Block : PySem.W.kitOne K (.ref CTable) (.ref CBlock) = some false)
    (kit_Table_Table : PySem.W.kitOne K (.ref CTable) (.ref CTable) = some true)
    (aL : PySem.W.nsIn K mainGlobals "law" = some (some (.ref pL)))
    (lL : K.lookup pL = some ⟨oL, eL, .func (PySem.W.fnOf "law" "law" (defArgs s_law) (defBody s_law) (defScope s_law) .none kL dL mL nL cL tL), vL⟩)
    (cLx : PySem.W.codeIn K cL "law" = true)
    (kLx : PySem.W.keepIn K (.ref pL) = true)
    : ∃ fd : FuncData, (∀ (s : Shared) (v : Value), BindsTo s fd ⟨[v], []⟩ [("script", v)]) ∧ ∀ base : Heap, K.In base → base.Ns mainGlobals mg → FnOk l.prog w K mg base (L2.CX l.prog w) 7 fa fd ["script"] (spLaw K) := by
  have ef := hfa.symm.trans (PySem.W.mg_of X G aL)
  cases ef
  have T : Txt K mg tkC tkH tkL  := { n_abs := PySem.W.mg_none_of X G z_abs, n_bool := PySem.W.mg_none_of X G z_bool, n_enumerate := PySem.W.mg_none_of X G z_enumerate, n_int := PySem.W.mg_none_of X G z_int, n_isinstance := PySem.W.mg_none_of X G z_isinstance, n_len := PySem.W.mg_none_of X G z_len, n_list := PySem.W.mg_none_of X G z_list, n_max := PySem.W.mg_none_of X G z_max, n_range := PySem.W.mg_none_of X G z_range, n_sum := PySem.W.mg_none_of X G z_sum, n_tuple := PySem.W.mg_none_of X G z_tuple, g_CELLS := PySem.W.mg_of X G g_CELLS, g_HEIGHTS := PySem.W.mg_of X G g_HEIGHTS, g_LINES := PySem.W.mg_of X G g_LINES }
  have A_is_whole : At K mg "is_whole" s_is_whole ["value"] := at_mk X G a1 l1 c1x k1x (fun _ _ _ _ _ _ us hl => match us, hl with | [_], _ => rfl)
  have A_check_most : At K mg "check_most" s_check_most ["what", "many", "most"] := at_mk X G a2 l2 c2x k2x (fun _ _ _ _ _ _ us hl => match us, hl with | [_, _, _], _ => rfl)
  have A_check_numbers : At K mg "check_numbers" s_check_numbers ["what", "numbers", "most"] := at_mk X G a3 l3 c3x k3x (fun _ _ _ _ _ _ us hl => match us, hl with | [_, _, _], _ => rfl)
  have A_fall_of : At K mg "fall_of" s_fall_of ["table"] := at_mk X G a4 l4 c4x k4x (fun _ _ _ _ _ _ us hl => match us, hl with | [_], _ => rfl)
  have A_leap_of : At K mg "leap_of" s_leap_of ["kind"] := at_mk X G a5 l5 c5x k5x (fun _ _ _ _ _ _ us hl => match us, hl with | [_], _ => rfl)
  have A_held_lows : At K mg "held_lows" s_held_lows ["table"] := at_mk X G a6 l6 c6x k6x (fun _ _ _ _ _ _ us hl => match us, hl with | [_], _ => rfl)
  have A_even_lows : At K mg "even_lows" s_even_lows ["table"] := at_mk X G a7 l7 c7x k7x (fun _ _ _ _ _ _ us hl => match us, hl with | [_], _ => rfl)
  have A_in_lowest_terms : At K mg "in_lowest_terms" s_in_lowest_terms ["above", "below"] := at_mk X G a8 l8 c8x k8x (fun _ _ _ _ _ _ us hl => match us, hl with | [_, _], _ => rfl)
  have A_even_at : At K mg "even_at" s_even_at ["table", "ruler", "line"] := at_mk X G a9 l9 c9x k9x (fun _ _ _ _ _ _ us hl => match us, hl with | [_, _, _], _ => rfl)
  have A__law_purse : At K mg "_law_purse" s__law_purse ["script", "at"] := at_mk X G a10 l10 c10x k10x (fun _ _ _ _ _ _ us hl => match us, hl with | [_, _], _ => rfl)
  have A__law_draw : At K mg "_law_draw" s__law_draw ["purse", "many"] := at_mk X G a11 l11 c11x k11x (fun _ _ _ _ _ _ us hl => match us, hl with | [_, _], _ => rfl)
  have A__law_couples : At K mg "_law_couples" s__law_couples ["many"] := at_mk X G a12 l12 c12x k12x (fun _ _ _ _ _ _ us hl => match us, hl with | [_], _ => rfl)
  have A__law_falls : At K mg "_law_falls" s__law_falls ["row"] := at_mk X G a13 l13 c13x k13x (fun _ _ _ _ _ _ us hl => match us, hl with | [_], _ => rfl)
  have A__law_leaps : At K mg "_law_leaps" s__law_leaps ["row"] := at_mk X G a14 l14 c14x k14x (fun _ _ _ _ _ _ us hl => match us, hl with | [_], _ => rfl)
  have A__law_calm_table : At K mg "_law_calm_table" s__law_calm_table ["purse", "cells", "wide", "free"] := at_mk X G a15 l15 c15x k15x (fun _ _ _ _ _ _ us hl => match us, hl with | [_, _, _, _], _ => rfl)
  have A__law_any_table : At K mg "_law_any_table" s__law_any_table ["purse", "cells", "wide", "free"] := at_mk X G a16 l16 c16x k16x (fun _ _ _ _ _ _ us hl => match us, hl with | [_, _, _, _], _ => rfl)
  have A__law_even_table : At K mg "_law_even_table" s__law_even_table ["purse", "cells", "wide", "free"] := at_mk X G a17 l17 c17x k17x (fun _ _ _ _ _ _ us hl => match us, hl with | [_, _, _, _], _ => rfl)
  have A__law_sinking_table : At K mg "_law_sinking_table" s__law_sinking_table ["purse", "cells", "wide"] := at_mk X G a18 l18 c18x k18x (fun _ _ _ _ _ _ us hl => match us, hl with | [_, _, _], _ => rfl)
  have A__law_drawn_table : At K mg "_law_drawn_table" s__law_drawn_table ["purse", "sort"] := at_mk X G a19 l19 c19x k19x (fun _ _ _ _ _ _ us hl => match us, hl with | [_, _], _ => rfl)
  have A__law_heights : At K mg "_law_heights" s__law_heights ["purse", "many", "least", "most"] := at_mk X G a20 l20 c20x k20x (fun _ _ _ _ _ _ us hl => match us, hl with | [_, _, _, _], _ => rfl)
  have A__law_wider : At K mg "_law_wider" s__law_wider ["row", "factor"] := at_mk X G a21 l21 c21x k21x (fun _ _ _ _ _ _ us hl => match us, hl with | [_, _], _ => rfl)
  have A__law_held : At K mg "_law_held" s__law_held ["row"] := at_mk X G a22 l22 c22x k22x (fun _ _ _ _ _ _ us hl => match us, hl with | [_], _ => rfl)
  have A__law_even : At K mg "_law_even" s__law_even ["row"] := at_mk X G a23 l23 c23x k23x (fun _ _ _ _ _ _ us hl => match us, hl with | [_], _ => rfl)
  have A__law_cell : At K mg "_law_cell" s__law_cell ["heights", "line"] := at_mk X G a24 l24 c24x k24x (fun _ _ _ _ _ _ us hl => match us, hl with | [_, _], _ => rfl)
  have A__law_divisor : At K mg "_law_divisor" s__law_divisor ["one", "other"] := at_mk X G a25 l25 c25x k25x (fun _ _ _ _ _ _ us hl => match us, hl with | [_, _], _ => rfl)
  have A__law_even_due : At K mg "_law_even_due" s__law_even_due ["row", "heights", "line"] := at_mk X G a26 l26 c26x k26x (fun _ _ _ _ _ _ us hl => match us, hl with | [_, _, _], _ => rfl)
  have A__law_value_right : At K mg "_law_value_right" s__law_value_right ["row", "heights", "line", "told"] := at_mk X G a27 l27 c27x k27x (fun _ _ _ _ _ _ us hl => match us, hl with | [_, _, _, _], _ => rfl)
  have A__law_asked_lines : At K mg "_law_asked_lines" s__law_asked_lines ["purse", "heights"] := at_mk X G a28 l28 c28x k28x (fun _ _ _ _ _ _ us hl => match us, hl with | [_, _], _ => rfl)
  have A__law_table_right : At K mg "_law_table_right" s__law_table_right ["purse", "row"] := at_mk X G a29 l29 c29x k29x (fun _ _ _ _ _ _ us hl => match us, hl with | [_, _], _ => rfl)
  have o_Ruler : OC K mg "Ruler" CRuler ["height_list", "edge_list"] := ⟨⟨pg_Ruler, hd_Ruler, po_Ruler, sa_Ruler⟩, PySem.W.mg_of X G aK_Ruler, kc_Ruler, (List.forall_mem_cons.mpr ⟨nf_Ruler_height_list, (List.forall_mem_cons.mpr ⟨nf_Ruler_edge_list, List.forall_mem_nil _⟩)⟩)⟩
  have o_Table : OC K mg "Table" CTable ["span_rows", "free_lines"] := ⟨⟨pg_Table, hd_Table, po_Table, sa_Table⟩, PySem.W.mg_of X G aK_Table, kc_Table, (List.forall_mem_cons.mpr ⟨nf_Table_span_rows, (List.forall_mem_cons.mpr ⟨nf_Table_free_lines, List.forall_mem_nil _⟩)⟩)⟩
  have o_Block : OC K mg "Block" CBlock [] := ⟨⟨pg_Block, hd_Block, po_Block, sa_Block⟩, PySem.W.mg_of X G aK_Block, kc_Block,  List.forall_mem_nil _⟩
  have i_Table : OI K CTable := ⟨ia_Table, i_n, i_t, im_Table⟩
  have FM0 := funD_mk (st := s_Ruler___init__) lM0 cM0x
  have bM0 : Binds K (PySem.W.fnOf "__init__" "Ruler.__init__" (defArgs s_Ruler___init__) (defBody s_Ruler___init__) (defScope s_Ruler___init__) .none kM0 dcM0 mM0 nM0 cM0 tM0) ["self", "heights"] [] := .all (fun us hl => match us, hl with | [_, _], _ => rfl)
  have A_Ruler : AtI K mg "Ruler" CRuler "Ruler.__init__" s_Ruler___init__ ["self", "heights"] := ⟨_, _, FM0, ⟨mk_Ruler, aM0, iM0, kc_Ruler⟩, PySem.W.mg_of X G aK_Ruler, bM0⟩
  have FM1 := funD_mk (st := s_Ruler_many) lM1 cM1x
  have bM1 : Binds K (PySem.W.fnOf "many" "Ruler.many" (defArgs s_Ruler_many) (defBody s_Ruler_many) (defScope s_Ruler_many) .none kM1 dcM1 mM1 nM1 cM1 tM1) ["self"] [] := .all (fun us hl => match us, hl with | [_], _ => rfl)
  have A_Ruler_many : AtM K CRuler "many" "Ruler.many" s_Ruler_many ["self"] := ⟨_, _, FM1, ⟨aM1, iM1, kM1x⟩, bM1⟩
  have FM2 := funD_mk (st := s_Ruler_cell) lM2 cM2x
  have bM2 : Binds K (PySem.W.fnOf "cell" "Ruler.cell" (defArgs s_Ruler_cell) (defBody s_Ruler_cell) (defScope s_Ruler_cell) .none kM2 dcM2 mM2 nM2 cM2 tM2) ["self", "line"] [] := .all (fun us hl => match us, hl with | [_, _], _ => rfl)
  have A_Ruler_cell : AtM K CRuler "cell" "Ruler.cell" s_Ruler_cell ["self", "line"] := ⟨_, _, FM2, ⟨aM2, iM2, kM2x⟩, bM2⟩
  have FM3 := funD_mk (st := s_Ruler_check_cell) lM3 cM3x
  have bM3 : Binds K (PySem.W.fnOf "check_cell" "Ruler.check_cell" (defArgs s_Ruler_check_cell) (defBody s_Ruler_check_cell) (defScope s_Ruler_check_cell) .none kM3 dcM3 mM3 nM3 cM3 tM3) ["self", "cell"] [] := .all (fun us hl => match us, hl with | [_, _], _ => rfl)
  have A_Ruler_check_cell : AtM K CRuler "check_cell" "Ruler.check_cell" s_Ruler_check_cell ["self", "cell"] := ⟨_, _, FM3, ⟨aM3, iM3, kM3x⟩, bM3⟩
  have FM4 := funD_mk (st := s_Ruler_first) lM4 cM4x
  have bM4 : Binds K (PySem.W.fnOf "first" "Ruler.first" (defArgs s_Ruler_first) (defBody s_Ruler_first) (defScope s_Ruler_first) .none kM4 dcM4 mM4 nM4 cM4 tM4) ["self", "cell"] [] := .all (fun us hl => match us, hl with | [_, _], _ => rfl)
  have A_Ruler_first : AtM K CRuler "first" "Ruler.first" s_Ruler_first ["self", "cell"] := ⟨_, _, FM4, ⟨aM4, iM4, kM4x⟩, bM4⟩
  have FM5 := funD_mk (st := s_Table___init__) lM5 cM5x
  have bM5 : Binds K (PySem.W.fnOf "__init__" "Table.__init__" (defArgs s_Table___init__) (defBody s_Table___init__) (defScope s_Table___init__) (.ref dM5) kM5 dcM5 mM5 nM5 cM5 tM5) ["self", "spans", "free"] [] := binds_d (its := [.int 0 tD5_0]) lD5 rfl (fun us hl => match us, hl with | [_, _, _], _ => ⟨_, rfl, rfl⟩)
  have A_Table : AtI K mg "Table" CTable "Table.__init__" s_Table___init__ ["self", "spans", "free"] := ⟨_, _, FM5, ⟨mk_Table, aM5, iM5, kc_Table⟩, PySem.W.mg_of X G aK_Table, bM5⟩
  have FM6 := funD_mk (st := s_Table_spans) lM6 cM6x
  have bM6 : Binds K (PySem.W.fnOf "spans" "Table.spans" (defArgs s_Table_spans) (defBody s_Table_spans) (defScope s_Table_spans) .none kM6 dcM6 mM6 nM6 cM6 tM6) ["self"] [] := .all (fun us hl => match us, hl with | [_], _ => rfl)
  have A_Table_spans : AtM K CTable "spans" "Table.spans" s_Table_spans ["self"] := ⟨_, _, FM6, ⟨aM6, iM6, kM6x⟩, bM6⟩
  have FM7 := funD_mk (st := s_Table_cells) lM7 cM7x
  have bM7 : Binds K (PySem.W.fnOf "cells" "Table.cells" (defArgs s_Table_cells) (defBody s_Table_cells) (defScope s_Table_cells) .none kM7 dcM7 mM7 nM7 cM7 tM7) ["self"] [] := .all (fun us hl => match us, hl with | [_], _ => rfl)
  have A_Table_cells : AtM K CTable "cells" "Table.cells" s_Table_cells ["self"] := ⟨_, _, FM7, ⟨aM7, iM7, kM7x⟩, bM7⟩
  have FM8 := funD_mk (st := s_Table_check_cell) lM8 cM8x
  have bM8 : Binds K (PySem.W.fnOf "check_cell" "Table.check_cell" (defArgs s_Table_check_cell) (defBody s_Table_check_cell) (defScope s_Table_check_cell) .none kM8 dcM8 mM8 nM8 cM8 tM8) ["self", "cell"] [] := .all (fun us hl => match us, hl with | [_, _], _ => rfl)
  have A_Table_check_cell : AtM K CTable "check_cell" "Table.check_cell" s_Table_check_cell ["self", "cell"] := ⟨_, _, FM8, ⟨aM8, iM8, kM8x⟩, bM8⟩
  have FM9 := funD_mk (st := s_Table_low) lM9 cM9x
  have bM9 : Binds K (PySem.W.fnOf "low" "Table.low" (defArgs s_Table_low) (defBody s_Table_low) (defScope s_Table_low) .none kM9 dcM9 mM9 nM9 cM9 tM9) ["self", "cell"] [] := .all (fun us hl => match us, hl with | [_, _], _ => rfl)
  have A_Table_low : AtM K CTable "low" "Table.low" s_Table_low ["self", "cell"] := ⟨_, _, FM9, ⟨aM9, iM9, kM9x⟩, bM9⟩
  have FL := fun_mk (st := s_law) lL cLx kLx
  refine ⟨PySem.W.fnOf "law" "law" (defArgs s_law) (defBody s_law) (defScope s_law) .none kL dL mL nL cL tL, fun s v => .of_eq rfl, fun base _ _ => ?_⟩
  have d_is_whole : Def l.prog w K mg base "is_whole" 1 ["value"] spIsWhole := ok_is_whole T A_is_whole
  have d_check_most : Def l.prog w K mg base "check_most" 2 ["what", "many", "most"] spMost0 := ok_check_most T A_check_most d_is_whole
  have d_check_numbers : Def l.prog w K mg base "check_numbers" 3 ["what", "numbers", "most"] (spNums0 K) := ok_check_numbers T A_check_numbers d_check_most
  have d_check_numbersT : Def l.prog w K mg base "check_numbers" 3 ["what", "numbers", "most"] (spNumsT K) := ok_check_numbersT T A_check_numbers d_check_most
  have d_Ruler : DI l.prog w K mg base "Ruler" CRuler 4 ["self", "heights"] (spRuler K CRuler) := ok_Ruler_init T A_Ruler o_Ruler d_check_most d_check_numbers
  have d_Ruler_many : DM l.prog w K mg base CRuler "many" 1 ["self"] (spMany CRuler) := ok_Ruler_many T A_Ruler_many o_Ruler
  have d_Ruler_cell : DM l.prog w K mg base CRuler "cell" 1 ["self", "line"] (spCellOf CRuler) := ok_Ruler_cell T A_Ruler_cell o_Ruler
  have d_Ruler_check_cell : DM l.prog w K mg base CRuler "check_cell" 2 ["self", "cell"] (spRCheck CRuler) := ok_Ruler_check T A_Ruler_check_cell o_Ruler d_Ruler_many
  have d_Ruler_first : DM l.prog w K mg base CRuler "first" 3 ["self", "cell"] (spFirst CRuler) := ok_Ruler_first T A_Ruler_first o_Ruler d_Ruler_check_cell
  have d_Table : DI l.prog w K mg base "Table" CTable 4 ["self", "spans", "free"] (spTable K CTable) := ok_Table_init T A_Table o_Table d_check_most d_check_numbersT
  have d_Table_spans : DM l.prog w K mg base CTable "spans" 1 ["self"] (spSpans K CTable) := ok_Table_spans T A_Table_spans o_Table
  have d_Table_cells : DM l.prog w K mg base CTable "cells" 1 ["self"] (spCells K CTable) := ok_Table_cells T A_Table_cells o_Table
  have d_Table_check_cell : DM l.prog w K mg base CTable "check_cell" 1 ["self", "cell"] (spTCheck K CTable) := ok_Table_check T A_Table_check_cell o_Table
  have d_Table_low : DM l.prog w K mg base CTable "low" 2 ["self", "cell"] (spLow K CTable) := ok_Table_low T A_Table_low o_Table d_Table_check_cell
  have d_fall_of : Def l.prog w K mg base "fall_of" 2 ["table"] (spFall K CTable) := ok_fall_of T A_fall_of o_Table d_Table_spans
  have d_leap_of : Def l.prog w K mg base "leap_of" 2 ["kind"] (spLeap K CTable) := ok_leap_of T A_leap_of o_Table o_Block i_Table kit_Table_Block kit_Table_Table d_Table_spans
  have d_held_lows : Def l.prog w K mg base "held_lows" 3 ["table"] (spHeld K CTable) := ok_held_lows T A_held_lows o_Table d_Table_spans d_fall_of
  have d_even_lows : Def l.prog w K mg base "even_lows" 3 ["table"] (spEven K CTable) := ok_even_lows T A_even_lows o_Table d_Table_cells d_Table_low d_leap_of
  have d_in_lowest_terms : Def l.prog w K mg base "in_lowest_terms" 1 ["above", "below"] spLowT := ok_lowest T A_in_lowest_terms
  have d_even_at : Def l.prog w K mg base "even_at" 4 ["table", "ruler", "line"] (spEvenAt K CTable CRuler) := ok_even_at T A_even_at o_Table o_Ruler d_Table_low d_even_lows d_Ruler_many d_Ruler_cell d_Ruler_first d_in_lowest_terms
  have d__law_purse : Def l.prog w K mg base "_law_purse" 1 ["script", "at"] (spPurse K) := ok_purse T A__law_purse
  have d__law_draw : Def l.prog w K mg base "_law_draw" 1 ["purse", "many"] spDraw := ok_draw T A__law_draw
  have d__law_couples : Def l.prog w K mg base "_law_couples" 1 ["many"] spCouples := ok_couples T A__law_couples
  have d__law_falls : Def l.prog w K mg base "_law_falls" 2 ["row"] (spLFalls K) := ok_falls T A__law_falls d__law_couples
  have d__law_leaps : Def l.prog w K mg base "_law_leaps" 1 ["row"] (spLLeaps K) := ok_leaps T A__law_leaps
  have d__law_calm_table : Def l.prog w K mg base "_law_calm_table" 2 ["purse", "cells", "wide", "free"] (spTab4 K) := ok_calm T A__law_calm_table d__law_draw
  have d__law_any_table : Def l.prog w K mg base "_law_any_table" 2 ["purse", "cells", "wide", "free"] (spTab4 K) := ok_any T A__law_any_table d__law_draw
  have d__law_even_table : Def l.prog w K mg base "_law_even_table" 2 ["purse", "cells", "wide", "free"] (spTab4 K) := ok_event T A__law_even_table d__law_draw
  have d__law_sinking_table : Def l.prog w K mg base "_law_sinking_table" 2 ["purse", "cells", "wide"] (spTab3 K) := ok_sinking T A__law_sinking_table d__law_draw
  have d__law_drawn_table : Def l.prog w K mg base "_law_drawn_table" 3 ["purse", "sort"] (spDrawn K) := ok_drawn T A__law_drawn_table d__law_draw d__law_calm_table d__law_any_table d__law_even_table d__law_sinking_table
  have d__law_heights : Def l.prog w K mg base "_law_heights" 2 ["purse", "many", "least", "most"] spHeights := ok_heights T A__law_heights d__law_draw
  have d__law_wider : Def l.prog w K mg base "_law_wider" 1 ["row", "factor"] (spWider K) := ok_wider T A__law_wider
  have d__law_held : Def l.prog w K mg base "_law_held" 1 ["row"] (spLHeld K) := ok_lheld T A__law_held
  have d__law_even : Def l.prog w K mg base "_law_even" 1 ["row"] (spLEven K) := ok_leven T A__law_even
  have d__law_cell : Def l.prog w K mg base "_law_cell" 1 ["heights", "line"] (spLCell K) := ok_lcell T A__law_cell
  have d__law_divisor : Def l.prog w K mg base "_law_divisor" 1 ["one", "other"] spDivisor := ok_divisor T A__law_divisor
  have d__law_even_due : Def l.prog w K mg base "_law_even_due" 2 ["row", "heights", "line"] (spDue K) := ok_due T A__law_even_due d__law_even d__law_cell
  have d__law_value_right : Def l.prog w K mg base "_law_value_right" 3 ["row", "heights", "line", "told"] (spValue K) := ok_value T A__law_value_right d__law_even_due d__law_divisor d__law_cell
  have d__law_asked_lines : Def l.prog w K mg base "_law_asked_lines" 2 ["purse", "heights"] (spAsked K) := ok_asked T A__law_asked_lines d__law_draw
  have d__law_table_right : Def l.prog w K mg base "_law_table_right" 6 ["purse", "row"] (spTabR K) := ok_tabr T A__law_table_right d__law_draw d__law_heights d__law_wider d_Table d_held_lows d__law_falls d__law_held d_even_lows d__law_leaps d__law_even d_Ruler d__law_asked_lines d_even_at d__law_value_right
  exact ok_law T FL d__law_purse d__law_draw d__law_drawn_table d__law_table_right
end K16

open PySem PySem.W PyProof.Rows in
set_option maxRecDepth 100000 in
set_option maxHeartbeats 0 in
theorem PySem.Challenge.cw_comestrue_k16_lines_that_hold_and_even_l_holds : PySem.Challenge.rw_comestrue_k16_lines_that_hold_and_even_l.Holds := by
  w_on; o_law; k_head; (case hw => w_witness2)
  k_fill
  refine Lay.end_of (l := PySem.Challenge.rw_comestrue_k16_lines_that_hold_and_even_l) (k := 7) (sp := K16.spLaw) rfl rfl ⟨rfl, by decide, by decide⟩ (fun w h Y => PySem.W.kIn_of Y) (fun K H a ns hl hS => ⟨a, ns, rfl, hS, hl, fun _ => rfl⟩) ?F
  case F =>
    intro w mg fa h KX G hmg
    refine' K16.all_mk KX G hmg ?h_z_abs ?h_z_bool ?h_z_enumerate ?h_z_int ?h_z_isinstance ?h_z_len ?h_z_list ?h_z_max ?h_z_range ?h_z_sum ?h_z_tuple ?h_g_CELLS ?h_g_HEIGHTS ?h_g_LINES ?h_a1 ?h_l1 ?h_c1x ?h_k1x ?h_a2 ?h_l2 ?h_c2x ?h_k2x ?h_a3 ?h_l3 ?h_c3x ?h_k3x ?h_a4 ?h_l4 ?h_c4x ?h_k4x ?h_a5 ?h_l5 ?h_c5x ?h_k5x ?h_a6 ?h_l6 ?h_c6x ?h_k6x ?h_a7 ?h_l7 ?h_c7x ?h_k7x ?h_a8 ?h_l8 ?h_c8x ?h_k8x ?h_a9 ?h_l9 ?h_c9x ?h_k9x ?h_a10 ?h_l10 ?h_c10x ?h_k10x ?h_a11 ?h_l11 ?h_c11x ?h_k11x ?h_a12 ?h_l12 ?h_c12x ?h_k12x ?h_a13 ?h_l13 ?h_c13x ?h_k13x ?h_a14 ?h_l14 ?h_c14x ?h_k14x ?h_a15 ?h_l15 ?h_c15x ?h_k15x ?h_a16 ?h_l16 ?h_c16x ?h_k16x ?h_a17 ?h_l17 ?h_c17x ?h_k17x ?h_a18 ?h_l18 ?h_c18x ?h_k18x ?h_a19 ?h_l19 ?h_c19x ?h_k19x ?h_a20 ?h_l20 ?h_c20x ?h_k20x ?h_a21 ?h_l21 ?h_c21x ?h_k21x ?h_a22 ?h_l22 ?h_c22x ?h_k22x ?h_a23 ?h_l23 ?h_c23x ?h_k23x ?h_a24 ?h_l24 ?h_c24x ?h_k24x ?h_a25 ?h_l25 ?h_c25x ?h_k25x ?h_a26 ?h_l26 ?h_c26x ?h_k26x ?h_a27 ?h_l27 ?h_c27x ?h_k27x ?h_a28 ?h_l28 ?h_c28x ?h_k28x ?h_a29 ?h_l29 ?h_c29x ?h_k29x ?h_aK_Ruler ?h_pg_Ruler ?h_hd_Ruler ?h_po_Ruler ?h_sa_Ruler ?h_kc_Ruler ?h_mk_Ruler ?h_nf_Ruler_height_list ?h_nf_Ruler_edge_list ?h_aK_Table ?h_pg_Table ?h_hd_Table ?h_po_Table ?h_sa_Table ?h_kc_Table ?h_mk_Table ?h_nf_Table_span_rows ?h_nf_Table_free_lines ?h_aK_Block ?h_pg_Block ?h_hd_Block ?h_po_Block ?h_sa_Block ?h_kc_Block ?h_aM0 ?h_iM0 ?h_lM0 ?h_cM0x ?h_kM0x ?h_aM1 ?h_iM1 ?h_lM1 ?h_cM1x ?h_kM1x ?h_aM2 ?h_iM2 ?h_lM2 ?h_cM2x ?h_kM2x ?h_aM3 ?h_iM3 ?h_lM3 ?h_cM3x ?h_kM3x ?h_aM4 ?h_iM4 ?h_lM4 ?h_cM4x ?h_kM4x ?h_aM5 ?h_iM5 ?h_lM5 ?h_lD5 ?h_cM5x ?h_kM5x ?h_aM6 ?h_iM6 ?h_lM6 ?h_cM6x ?h_kM6x ?h_aM7 ?h_iM7 ?h_lM7 ?h_cM7x ?h_kM7x ?h_aM8 ?h_iM8 ?h_lM8 ?h_cM8x ?h_kM8x ?h_aM9 ?h_iM9 ?h_lM9 ?h_cM9x ?h_kM9x ?h_ia_Table ?h_im_Table ?h_i_n ?h_i_t ?h_kit_Table_Block ?h_kit_Table_Table ?h_aL ?h_lL ?h_cLx ?h_kLx
    (case h_z_abs => k_is)
    (case h_z_bool => k_is)
    (case h_z_enumerate => k_is)
    (case h_z_int => k_is)
    (case h_z_isinstance => k_is)
    (case h_z_len => k_is)
    (case h_z_list => k_is)
    (case h_z_max => k_is)
    (case h_z_range => k_is)
    (case h_z_sum => k_is)
    (case h_z_tuple => k_is)
    (case h_g_CELLS => k_is)
    (case h_g_HEIGHTS => k_is)
    (case h_g_LINES => k_is)
    (case h_a1 => k_is)
    (case h_l1 => k_is)
    (case h_c1x => k_is)
    (case h_k1x => k_is)
    (case h_a2 => k_is)
    (case h_l2 => k_is)
    (case h_c2x => k_is)
    (case h_k2x => k_is)
    (case h_a3 => k_is)
    (case h_l3 => k_is)
    (case h_c3x => k_is)
    (case h_k3x => k_is)
    (case h_a4 => k_is)
    (case h_l4 => k_is)
    (case h_c4x => k_is)
    (case h_k4x => k_is)
    (case h_a5 => k_is)
    (case h_l5 => k_is)
    (case h_c5x => k_is)
    (case h_k5x => k_is)
    (case h_a6 => k_is)
    (case h_l6 => k_is)
    (case h_c6x => k_is)
    (case h_k6x => k_is)
    (case h_a7 => k_is)
    (case h_l7 => k_is)
    (case h_c7x => k_is)
    (case h_k7x => k_is)
    (case h_a8 => k_is)
    (case h_l8 => k_is)
    (case h_c8x => k_is)
    (case h_k8x => k_is)
    (case h_a9 => k_is)
    (case h_l9 => k_is)
    (case h_c9x => k_is)
    (case h_k9x => k_is)
    (case h_a10 => k_is)
    (case h_l10 => k_is)
    (case h_c10x => k_is)
    (case h_k10x => k_is)
    (case h_a11 => k_is)
    (case h_l11 => k_is)
    (case h_c11x => k_is)
    (case h_k11x => k_is)
    (case h_a12 => k_is)
    (case h_l12 => k_is)
    (case h_c12x => k_is)
    (case h_k12x => k_is)
    (case h_a13 => k_is)
    (case h_l13 => k_is)
    (case h_c13x => k_is)
    (case h_k13x => k_is)
    (case h_a14 => k_is)
    (case h_l14 => k_is)
    (case h_c14x => k_is)
    (case h_k14x => k_is)
    (case h_a15 => k_is)
    (case h_l15 => k_is)
    (case h_c15x => k_is)
    (case h_k15x => k_is)
    (case h_a16 => k_is)
    (case h_l16 => k_is)
    (case h_c16x => k_is)
    (case h_k16x => k_is)
    (case h_a17 => k_is)
    (case h_l17 => k_is)
    (case h_c17x => k_is)
    (case h_k17x => k_is)
    (case h_a18 => k_is)
    (case h_l18 => k_is)
    (case h_c18x => k_is)
    (case h_k18x => k_is)
    (case h_a19 => k_is)
    (case h_l19 => k_is)
    (case h_c19x => k_is)
    (case h_k19x => k_is)
    (case h_a20 => k_is)
    (case h_l20 => k_is)
    (case h_c20x => k_is)
    (case h_k20x => k_is)
    (case h_a21 => k_is)
    (case h_l21 => k_is)
    (case h_c21x => k_is)
    (case h_k21x => k_is)
    (case h_a22 => k_is)
    (case h_l22 => k_is)
    (case h_c22x => k_is)
    (case h_k22x => k_is)
    (case h_a23 => k_is)
    (case h_l23 => k_is)
    (case h_c23x => k_is)
    (case h_k23x => k_is)
    (case h_a24 => k_is)
    (case h_l24 => k_is)
    (case h_c24x => k_is)
    (case h_k24x => k_is)
    (case h_a25 => k_is)
    (case h_l25 => k_is)
    (case h_c25x => k_is)
    (case h_k25x => k_is)
    (case h_a26 => k_is)
    (case h_l26 => k_is)
    (case h_c26x => k_is)
    (case h_k26x => k_is)
    (case h_a27 => k_is)
    (case h_l27 => k_is)
    (case h_c27x => k_is)
    (case h_k27x => k_is)
    (case h_a28 => k_is)
    (case h_l28 => k_is)
    (case h_c28x => k_is)
    (case h_k28x => k_is)
    (case h_a29 => k_is)
    (case h_l29 => k_is)
    (case h_c29x => k_is)
    (case h_k29x => k_is)
    (case h_aK_Ruler => k_is)
    (case h_pg_Ruler => k_is)
    (case h_hd_Ruler => k_is)
    (case h_po_Ruler => k_is)
    (case h_sa_Ruler => k_is)
    (case h_kc_Ruler => k_is)
    (case h_mk_Ruler => k_is)
    (case h_nf_Ruler_height_list => k_is)
    (case h_nf_Ruler_edge_list => k_is)
    (case h_aK_Table => k_is)
    (case h_pg_Table => k_is)
    (case h_hd_Table => k_is)
    (case h_po_Table => k_is)
    (case h_sa_Table => k_is)
    (case h_kc_Table => k_is)
    (case h_mk_Table => k_is)
    (case h_nf_Table_span_rows => k_is)
    (case h_nf_Table_free_lines => k_is)
    (case h_aK_Block => k_is)
    (case h_pg_Block => k_is)
    (case h_hd_Block => k_is)
    (case h_po_Block => k_is)
    (case h_sa_Block => k_is)
    (case h_kc_Block => k_is)
    (case h_aM0 => k_is)
    (case h_iM0 => k_is)
    (case h_lM0 => k_is)
    (case h_cM0x => k_is)
    (case h_kM0x => k_is)
    (case h_aM1 => k_is)
    (case h_iM1 => k_is)
    (case h_lM1 => k_is)
    (case h_cM1x => k_is)
    (case h_kM1x => k_is)
    (case h_aM2 => k_is)
    (case h_iM2 => k_is)
    (case h_lM2 => k_is)
    (case h_cM2x => k_is)
    (case h_kM2x => k_is)
    (case h_aM3 => k_is)
    (case h_iM3 => k_is)
    (case h_lM3 => k_is)
    (case h_cM3x => k_is)
    (case h_kM3x => k_is)
    (case h_aM4 => k_is)
    (case h_iM4 => k_is)
    (case h_lM4 => k_is)
    (case h_cM4x => k_is)
    (case h_kM4x => k_is)
    (case h_aM5 => k_is)
    (case h_iM5 => k_is)
    (case h_lM5 => k_is)
    (case h_lD5 => k_is)
    (case h_cM5x => k_is)
    (case h_kM5x => k_is)
    (case h_aM6 => k_is)
    (case h_iM6 => k_is)
    (case h_lM6 => k_is)
    (case h_cM6x => k_is)
    (case h_kM6x => k_is)
    (case h_aM7 => k_is)
    (case h_iM7 => k_is)
    (case h_lM7 => k_is)
    (case h_cM7x => k_is)
    (case h_kM7x => k_is)
    (case h_aM8 => k_is)
    (case h_iM8 => k_is)
    (case h_lM8 => k_is)
    (case h_cM8x => k_is)
    (case h_kM8x => k_is)
    (case h_aM9 => k_is)
    (case h_iM9 => k_is)
    (case h_lM9 => k_is)
    (case h_cM9x => k_is)
    (case h_kM9x => k_is)
    (case h_ia_Table => k_is)
    (case h_im_Table => k_is)
    (case h_i_n => k_is)
    (case h_i_t => k_is)
    (case h_kit_Table_Block => first | rfl | k_is)
    (case h_kit_Table_Table => first | rfl | k_is)
    (case h_aL => k_is)
    (case h_lL => k_is)
    (case h_cLx => k_is)
    (case h_kLx => k_is)
