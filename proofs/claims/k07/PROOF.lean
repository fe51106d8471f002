import PyProof.Rows.All
import Wide.All
import OpenK.AllK
import Wide.FinOn
import PyProof.EqAt
import PyProof.EqKinds
import PyProof.TupleCall
import HandS.Base
import HandS.Call
import HandS.List
import HandS.Comp
import HandS.Ends
import HandS.Iter
import HandS.Exc
import HandS.ExcOwn
import HandS.ExcInit
import HandS.ClsMeth
import HandS.Words
import HandS.WordsList
import HandS.WordsExc
import HandS.ExcField
import HandS.TryMany
import HandS.IsInst
import HandS.FStr
import HandS.Conv
import HandS.Steps
import HandS.Evl
import HandS.RevTup
import HandS.Rev
import PyProof.ListRange
import HandS.NoneIn
import PySem.Challenge.RW_comestrue_k07_numerals_and_stretches_of
set_option Elab.async false
set_option linter.all false
set_option maxRecDepth 100000
set_option maxHeartbeats 4000000
namespace Lay
open PySem PySem.Spec PyProof.Rows L2 Evl

section
variable {X : Cx} {e : Expr} {es : List Expr} {ta : TA} {x : Str} {C0 : Addr} {mc : Value} {p1 p2 pos : Pos}
/-- Base.__init__(self, ..), Base an own class over ValueError without one of its own -/
theorem pe_binit {pl : Sem Bool} (hg : Gl X x) (hm : X.mg x = some (.ref C0)) (hr : ClX.CRead X.K C0 mc) (vV : PySem.W.findCls X.K (.ref C0) mc "__init__" = some (.val (.builtin "ValueError.__init__"))) (ha : PA X (e :: es) ta)
    (hdb : (x == ("__debug__" : Str)) = false := by decide)
    (hc : eval (.Call (.Attribute (.Name x p1) "__init__" p2) (e :: es) [] pos) X.env = (do
      let ov ← eval (.Name x p1) X.env
      standAt p2.atName
      let (f, first) ← holding [ov] (getMethod ov "__init__" pl)
      callWith pos f first (backTo pos (starEach (e :: es) X.env)) (backToKw pos (keywordEach [] X.env))) := by rfl)
    (he : starEach (e :: es) X.env = (false, eval e X.env) :: starEach es X.env := by rfl) (hpl : (backTo pos (starEach es X.env)).any (·.1) = false := by rfl) :
    PE X (.Call (.Attribute (.Name x p1) "__init__" p2) (e :: es) [] pos) (tVeI X.K ta) := by
  refine ⟨fun pins s σ H Q I h => ?_⟩
  refine PySem.W.methodCall_KW (ld_glob I hg hm ?_ hdb) hc
  refine PySem.W.method_cls I.kIn hr.ga (PySem.W.cls_value I.kIn hr.rd vV (by decide +kernel) ?_)
  show wpAny _ _ (callWith pos (Value.builtin "ValueError.__init__") [] (backTo pos (starEach (e :: es) X.env)) []) _ _ _
  refine PyProof.Rows.callWith_method1 (thn (ha.run pos pins _ σ H _ (I.tok _) h) fun us s1 ⟨vs, H1, I1, r1, a, C, ws, ev, hl, T, ea, q⟩ => ?_) he hpl
  subst ev
  cases r1 with
  | @cons _ u0 _ ur ra rw' =>
    obtain rfl : u0 = Value.ref a := ra
    have hlen : ur.length ≤ sizeLine := by
      rw [← Paired.length rw', sizeLine_eq]
      omega
    exact oinit_ok T I1 ea hlen fun s' J => ⟨.non, H1, J, rfl, q⟩
end

/-! ### a def as callers know it -/
structure Def (P : Program) (w : World) (K : PySem.W.Frag) (mg : Str → Option Value) (base : Heap) (x : Str) (k : Nat) (ps : List Str) (sp : Sp) : Prop where
  ex : ∃ (f : Addr) (fd : FuncData), FnOk P w K mg base (L2.CX P w) k f fd ps sp ∧ mg x = some (.ref f) ∧ PySem.W.keepIn K (.ref f) = true ∧ Binds K fd ps []
/-- the text of a def as it stands behind the top -/
structure At (K : PySem.W.Frag) (mg : Str → Option Value) (x : Str) (st : Stmt) (ps : List Str) : Prop where
  ex : ∃ (f : Addr) (fd : FuncData), Fun K x x st f fd ∧ mg x = some (.ref f) ∧ Binds K fd ps []
section
variable {P : Program} {w : World} {K : PySem.W.Frag} {mg : Str → Option Value} {base : Heap}
theorem Def.mk' {x : Str} {st : Stmt} {N ps : List Str} {k : Nat} {sp : Sp} (F : At K mg x st ps) (S : FnScope N ps (defScope st)) (len : ∀ vs H Q E, sp vs H Q E → vs.length = ps.length)
    (hbody : ∀ (f : Addr) (cdv : Value) (A : Around) (outer : List Env) (s : Shared) (H : Hp) (vs : List V) (Q : VK) (E : XK), Room k (A.deeper (envOfC x (defScope st) s.heap.objs.size f cdv)) → sp vs H Q E →
      ∃ t, PSs (cxOf (L2.CX P w) P w K mg base N x (defScope st) f cdv A outer s H E) (defBody st) t ∧ t { nx := fun _ H' => Q .non H', rt := Q } (start N vs) H) : Def P w K mg base x (k + 1) ps sp := by
  obtain ⟨f, fd, Ff, g, b⟩ := F.ex
  exact ⟨f, fd, Ff.okX S len (hbody f), g, Ff.kp, b⟩
theorem Def.imp {x : Str} {k : Nat} {ps : List Str} {sp sp' : Sp} (d : Def P w K mg base x k ps sp) (h : ∀ vs H Q E, sp' vs H Q E → sp vs H Q E) : Def P w K mg base x k ps sp' := by
  obtain ⟨f, fd, F, r⟩ := d.ex
  exact ⟨f, fd, F.imp h, r⟩
end
section
variable {X : Cx} {k : Nat} {ps : List Str} {sp : Sp} {E : XK} {x : Str} {p pos : Pos} {e : Expr} {es : List Expr} {t : TA}
theorem pe_d (d : Def X.prog X.w X.K X.mg X.base x k ps sp) (hr : Room k X.A) (hx : Passes (L2.CX X.prog X.w) X E) (ha : PA X (e :: es) t) (hg : Gl X x := by rfl)
    (hdb : (x == ("__debug__" : Str)) = false := by decide) (he : starEach (e :: es) X.env = (false, eval e X.env) :: starEach es X.env := by rfl) (hpl : (backTo pos (starEach es X.env)).any (·.1) = false := by rfl) :
    PE X (.Call (.Name x p) (e :: es) [] pos) (tCallS sp (fun _ => E) t) := by
  obtain ⟨f, fd, F, g, kp, b⟩ := d.ex
  exact pe_callS F hr hg g kp b (fun σ pins H s e s' I c => hx pins σ H s e s' I c) ha hdb he hpl
/-- in a try's body -/
theorem pe_dT {W : WX} (d : Def X.prog X.w X.K X.mg X.base x k ps sp) (hr : Room k X.A) (tk : Takes X W) (ha : PA X (e :: es) t) (hg : Gl X x := by rfl)
    (hdb : (x == ("__debug__" : Str)) = false := by decide) (he : starEach (e :: es) X.env = (false, eval e X.env) :: starEach es X.env := by rfl) (hpl : (backTo pos (starEach es X.env)).any (·.1) = false := by rfl) :
    PE X (.Call (.Name x p) (e :: es) [] pos) (tCallS sp (WE W) t) := by
  obtain ⟨f, fd, F, g, kp, b⟩ := d.ex
  exact pe_callS F hr hg g kp b (fun σ => passAt tk σ) ha hdb he hpl
end

/-! ### heaps -/
/-- all but what stands at l is as it was -/
def ExB (l : Addr) (H H' : Hp) : Prop := ∀ a o, a ≠ l → H a = some o → H' a = some o
theorem Ex.b {l : Addr} {H H' : Hp} (e : Ex H H') : ExB l H H' := fun a o _ h => e a o h
theorem ExB.refl (l : Addr) (H : Hp) : ExB l H H := fun _ _ _ h => h
theorem ExB.trans {l : Addr} {H H1 H2 : Hp} (a : ExB l H H1) (b : ExB l H1 H2) : ExB l H H2 := fun x o n h => b x o n (a x o n h)
theorem ExB.upd {l : Addr} {o : HO} {H H' : Hp} (e : ExB l H H') : ExB l H (upd H' l o) := fun a u n h => by
  rw [upd_ne n]
  exact e a u n h
/-- l is new since H -/
theorem ExB.ex {l : Addr} {H H1 H2 : Hp} (e : Ex H H1) (b : ExB l H1 H2) (n : H l = none) : Ex H H2 := fun a o h => b a o (ne_of_none h n) (e a o h)
theorem ExB.exB {l m : Addr} {H H1 H2 : Hp} (e : ExB m H H1) (b : ExB l H1 H2) (n : H l = none) : ExB m H H2 := fun a o h' h => b a o (ne_of_none h n) (e a o h' h)
theorem ex_at {H H' : Hp} {a : Addr} {o : HO} (e : Ex H H') (h : H a = some o) : H' a = some o := e a o h
theorem exb_at {l : Addr} {H H' : Hp} {a : Addr} {o : HO} (e : ExB l H H') (n : a ≠ l) (h : H a = some o) : H' a = some o := e a o n h
theorem exb_l {K : PySem.W.Frag} {l : Addr} {H H' : Hp} {a : Addr} {xs : List V} (e : ExB l H H') (n : a ≠ l) (h : SqL K H a xs) : SqL K H' a xs := by
  rcases h with (h | ⟨o, h⟩) | h
  · exact .inl (.inl (e _ _ n h))
  · exact .inl (.inr ⟨o, e _ _ n h⟩)
  · exact .inr h
theorem fresh_b {l : Addr} {H H' : Hp} {p : Addr} (e : Ex H H') (h : H' p = none) : H p = none := fresh_back e h
theorem exn {H : Hp} {p : Addr} {o : HO} (h : H p = none) : Ex H (upd H p o) := Ex.new h

/-! ### ints of a list -/
def gi (ns : List Int) (i : Int) : Int := ns.getD i.toNat 0
theorem atI_gi {ns : List Int} {i : Int} (h0 : 0 ≤ i) (h1 : i < ns.length) : atI (ns.map V.int) i = some (.int (gi ns i)) := by
  obtain ⟨j, rfl⟩ : ∃ j : Nat, i = (j : Int) := ⟨i.toNat, by omega⟩
  have hj : j < ns.length := by omega
  refine atI_nat ?_
  rw [List.getElem?_map]
  unfold gi
  rw [Int.toNat_natCast, List.getD_eq_getElem?_getD, List.getElem?_eq_getElem hj]
  rfl
theorem atI_V {xs : List V} {i : Int} {v : V} {j : Nat} (e : i = (j : Int)) (h : xs[j]? = some v) : atI xs i = some v := by
  rw [e]
  exact atI_nat h

/-! ### named readings -/
def rList (K : PySem.W.Frag) : List V → Hp → VK → Prop := fun xs H Q => ∃ p ys, xs = [.ref p] ∧ (SqL K H p ys ∨ SqT K H p ys) ∧ ∀ l, H l = none → Q (.ref l) (upd H l (.lst ys))
def rLen (K : PySem.W.Frag) : List V → Hp → VK → Prop := fun xs H Q => ∃ p ys, xs = [.ref p] ∧ (SqL K H p ys ∨ SqT K H p ys) ∧ Q (.int ys.length) H
def rInt1 : List V → Hp → VK → Prop := fun xs H Q => (∃ i, xs = [.int i] ∧ Q (.int i) H) ∨ ∃ k, xs = [.bl k] ∧ Q (.int (if k then 1 else 0)) H
def rAbs : List V → Hp → VK → Prop := fun xs H Q => ∃ i, xs = [.int i] ∧ Q (.int (if i < 0 then -i else i)) H
def rMx2 : List V → Hp → VK → Prop := fun xs H Q => ∃ i j, xs = [.int i, .int j] ∧ Q (.int (if j > i then j else i)) H
def rMn2 : List V → Hp → VK → Prop := fun xs H Q => ∃ i j, xs = [.int i, .int j] ∧ Q (.int (if j < i then j else i)) H
section
variable {X : Cx}
theorem c_list : CallR X (.type "list") (rList X.K) := call_list_of
theorem c_len : CallR X (.builtin "len") (rLen X.K) := call_len_seq
theorem c_int : CallR X (.type "int") rInt1 := call_int1
theorem c_abs : CallR X (.builtin "abs") rAbs := call_abs
theorem c_max2 (hc : X.calm = true) : CallR X (.builtin "max") rMx2 := call_max2 hc
theorem c_min2 (hc : X.calm = true) : CallR X (.builtin "min") rMn2 := call_min2 hc
end
/-- a new list, a new tuple: what follows is wished of it -/
def NewL (xs : List V) (H : Hp) (Q : VK) : Prop := xs.length ≤ sizeLine ∧ ∀ p, H p = none → Q (.ref p) (upd H p (.lst xs))
def NewT (xs : List V) (H : Hp) (Q : VK) : Prop := xs.length ≤ sizeLine ∧ ∀ p, H p = none → Q (.ref p) (upd H p (.tup xs))
/-! ### readings, step by step -/
section
variable {K : PySem.W.Frag} {σ : L2.St} {H : Hp} {D : Ends} {t u : TS} {te ta tb tc : TE} {c d : TT} {tr : TA} {Q : VK} {R : Bool → Hp → Prop} {S : List V → Hp → Prop} {v x y : V} {i j : Int} {n : Nat} {r : R2} {sp : Sp} {E : L2.St → XK}
theorem r_seq (h : t ⟨u D, D.rt, D.bk, D.ct⟩ σ H) : tSeq t u D σ H := h
theorem r_set (h : te σ H fun x H1 => D.nx (σ.set n (some x)) H1) : tAsg te (gName n) D σ H := h
theorem r_sub {s : TSet} (h : te σ H fun v H1 => ta σ H1 fun o H2 => tb σ H2 fun i H3 => s o i v H3 fun H4 => D.nx σ H4) : tAsg te (gSub ta tb s) D σ H := h
theorem r_aug {ti : TIp} (e : σ[n]? = some (some x)) (h : te σ H fun y H1 => ti x y H1 fun z H2 => D.nx (σ.set n (some z)) H2) : tAug n te ti D σ H := ⟨_, e, h⟩
theorem r_ipI {f : Int → Int → Int} (h : Q (.int (f i j)) H) : ipI f (.int i) (.int j) H Q := ⟨i, j, rfl, rfl, h⟩
theorem r_drop (h : te σ H fun _ H1 => D.nx σ H1) : tDrop te D σ H := h
theorem r_ret (h : te σ H D.rt) : tRet te D σ H := h
theorem r_retN (h : D.rt .non H) : tRetN D σ H := h
theorem r_if (h : c σ H fun b H1 => if b = true then t D σ H1 else u D σ H1) : tIfS c t u D σ H := h
theorem r_next (h : D.nx σ H) : tNext D σ H := h
theorem r_brk (h : D.bk σ H) : tBreak D σ H := h
theorem r_cont (h : D.ct σ H) : tCont D σ H := h
theorem r_var (e : σ[n]? = some (some v)) (h : Q v H) : tVar n σ H Q := ⟨v, e, h⟩
theorem r_c (h : Q v H) : tC v σ H Q := h
theorem r_op (h : ta σ H fun x H1 => tb σ H1 fun y H2 => r x y H2 Q) : tOp r ta tb σ H Q := h
theorem r_un {r : V → Hp → VK → Prop} (h : ta σ H fun x H1 => r x H1 Q) : tUn r ta σ H Q := h
theorem r_I0 {g : Int → Int → V} (h : Q (g i j) H) : rI0 g (.int i) (.int j) H Q := ⟨i, j, rfl, rfl, h⟩
theorem r_I {C : Int → Int → Prop} {g : Int → Int → V} (k : C i j) (h : Q (g i j) H) : rI C g (.int i) (.int j) H Q := ⟨i, j, rfl, rfl, k, h⟩
theorem r_U {g : Int → V} (h : Q (g i) H) : rU g (.int i) H Q := ⟨i, rfl, h⟩
theorem dI {i j : Int} : decide (V.int i = V.int j) = decide (i = j) := by
  by_cases e : i = j
  · rw [e]
    simp
  · rw [decide_eq_false e, decide_eq_false (fun h => e (V.int.inj h))]
theorem r_eqI (h : Q (.bl (decide (i = j))) H) : rEq (.int i) (.int j) H Q := ⟨rfl, by rw [dI]; exact h⟩
theorem r_neI (h : Q (.bl (!decide (i = j))) H) : rNe (.int i) (.int j) H Q := ⟨rfl, by rw [dI]; exact h⟩
theorem r_isN (h : Q (.bl (decide (x = .non))) H) : rIsN x .non H Q := ⟨rfl, h⟩
theorem r_notN (h : Q (.bl (!decide (x = .non))) H) : rNotN x .non H Q := ⟨rfl, h⟩
theorem r_test (h : te σ H fun x H' => ∃ k, x = .bl k ∧ R k H') : tTest te σ H R := h
theorem r_tB (h : te σ H fun x H' => ∃ k, x = .bl k ∧ R k H') : tB te σ H R := h
theorem r_bl {b : Bool} {P : Bool → Prop} (h : P b) : ∃ k, V.bl b = .bl k ∧ P k := ⟨b, rfl, h⟩
theorem r_and (h : c σ H fun b H1 => if b = true then d σ H1 R else R false H1) : tAnd c d σ H R := h
theorem r_or (h : c σ H fun b H1 => if b = true then R true H1 else d σ H1 R) : tOr c d σ H R := h
theorem r_not (h : c σ H fun b H1 => R (!b) H1) : tNot c σ H R := h
theorem r_andV (h : ta σ H fun x H1 => ∃ c, x = .bl c ∧ if c = true then tb σ H1 Q else Q (.bl false) H1) : tAndV ta tb σ H Q := h
theorem r_orV (h : ta σ H fun x H1 => ∃ c, x = .bl c ∧ if c = true then Q (.bl true) H1 else tb σ H1 Q) : tOrV ta tb σ H Q := h
theorem r_notV (h : ta σ H fun x H1 => ∃ c, x = .bl c ∧ Q (.bl (!c)) H1) : tNotV ta σ H Q := h
theorem r_tIf (h : c σ H fun b H1 => if b = true then ta σ H1 Q else tb σ H1 Q) : tIf c ta tb σ H Q := h
theorem r_nil (h : S [] H) : tNil σ H S := h
theorem r_cons (h : te σ H fun x H1 => tr σ H1 fun xs H2 => S (x :: xs) H2) : tCons te tr σ H S := h
theorem r_call (h : tr σ H fun vs H1 => sp vs H1 Q (E σ)) : tCallS sp E tr σ H Q := h
theorem r_cb {r : List V → Hp → VK → Prop} (h : tr σ H fun vs H1 => r vs H1 Q) : tCB r tr σ H Q := h
theorem r_lst (h : tr σ H fun xs H1 => NewL xs H1 Q) : tLst tr σ H Q := h
theorem r_tup (h : tr σ H fun xs H1 => NewT xs H1 Q) : tTup tr σ H Q := h
theorem r_newL {xs : List V} (l : xs.length ≤ 100000) (h : ∀ p H2, H p = none → Ex H H2 → H2 p = some (.lst xs) → Q (.ref p) H2) : NewL xs H Q := ⟨sz_of l, fun p hp => h p _ hp (Ex.new hp) upd_same⟩
theorem r_newT {xs : List V} (l : xs.length ≤ 100000) (h : ∀ p H2, H p = none → Ex H H2 → H2 p = some (.tup xs) → Q (.ref p) H2) : NewT xs H Q := ⟨sz_of l, fun p hp => h p _ hp (Ex.new hp) upd_same⟩
theorem r_ite {P : Prop} [Decidable P] {A B : Prop} (h1 : P → A) (h2 : ¬ P → B) : if decide P = true then A else B := by
  by_cases h : P
  · rw [if_pos (decide_eq_true h)]
    exact h1 h
  · rw [if_neg (by rw [decide_eq_false h]; decide)]
    exact h2 h
theorem r_iteN {P : Prop} [Decidable P] {A B : Prop} (h1 : ¬ P → A) (h2 : P → B) : if (!decide P) = true then A else B := by
  by_cases h : P
  · rw [decide_eq_true h]
    exact iteF (h2 h)
  · rw [decide_eq_false h]
    exact iteT (h1 h)
theorem r_yes {P : Prop} [Decidable P] {A B : Prop} (p : P) (h : A) : if decide P = true then A else B := r_ite (fun _ => h) fun q => absurd p q
theorem r_no {P : Prop} [Decidable P] {A B : Prop} (p : ¬ P) (h : B) : if decide P = true then A else B := r_ite (fun q => absurd q p) fun _ => h
theorem r_yesN {P : Prop} [Decidable P] {A B : Prop} (p : ¬ P) (h : A) : if (!decide P) = true then A else B := r_iteN (fun _ => h) fun q => absurd q p
theorem r_noN {P : Prop} [Decidable P] {A B : Prop} (p : P) (h : B) : if (!decide P) = true then A else B := r_iteN (fun q => absurd p q) fun _ => h
theorem r_nb {b : Bool} {A B : Prop} (h : if b = true then B else A) : if (!b) = true then A else B := by cases b <;> exact h
/-- xs[i] -/
theorem r_ixL {p : Addr} {xs : List V} (h : SqL K H p xs) (e : atI xs i = some v) (q : Q v H) : rIxL K (.ref p) (.int i) H Q := ⟨p, xs, i, v, rfl, rfl, h, e, q⟩
theorem r_ixI {p : Addr} {ns : List Int} (h : SqL K H p (ns.map V.int)) (h0 : 0 ≤ i) (h1 : i < ns.length) (q : Q (.int (gi ns i)) H) : rIxL K (.ref p) (.int i) H Q := r_ixL h (atI_gi h0 h1) q
theorem r_ixT {p : Addr} {xs : List V} (h : SqT K H p xs) (e : atI xs i = some v) (q : Q v H) : rIxT K (.ref p) (.int i) H Q := ⟨p, xs, i, v, rfl, rfl, h, e, q⟩
/-- xs[i] = v -/
theorem r_setL {p : Addr} {xs : List V} {Z : Hp → Prop} (h : H p = some (.lst xs)) (h0 : 0 ≤ i) (h1 : i < xs.length) (q : ∀ H2, ExB p H H2 → H2 p = some (.lst (xs.set i.toNat v)) → (∀ a, H a = none → H2 a = none) → Z H2) : rSetL (.ref p) (.int i) v H Z :=
  ⟨p, xs, i, i.toNat, rfl, rfl, h, by unfold ixN; rw [if_pos h0, if_pos h1], q _ (fun a o n e => by rw [upd_ne n]; exact e) upd_same fun a e => by rw [upd_ne (fun z => by rw [z, h] at e; cases e)]; exact e⟩
/-- xs.append(y) -/
theorem r_app {p : Addr} {xs : List V} (h : H p = some (.lst xs)) (l : xs.length < 100000) (q : ∀ H2, ExB p H H2 → H2 p = some (.lst (xs ++ [y])) → (∀ a, H a = none → H2 a = none) → Q .non H2) : rAppend (.ref p) [y] H Q :=
  ⟨p, xs, y, rfl, rfl, h, sz_lt l, q _ (fun a o n e => by rw [upd_ne n]; exact e) upd_same fun a e => by rw [upd_ne (fun z => by rw [z, h] at e; cases e)]; exact e⟩
theorem r_bmL {r : V → List V → Hp → VK → Prop} {p : Addr} {xs : List V} (h : SqL K H p xs) (q : tr σ H fun vs H2 => r (.ref p) vs H2 Q) (e : σ[n]? = some (some (.ref p))) : tBM K "list" r (tVar n) tr σ H Q := ⟨_, e, .inl ⟨rfl, _, h⟩, q⟩
theorem r_slL {p : Addr} {xs : List V} {lo hi : Option Int} (h : SqL K H p xs) (q : ∀ p2 H2, H p2 = none → Ex H H2 → H2 p2 = some (.lst (cutV xs lo hi)) → Q (.ref p2) H2) : rSlL K (.ref p) lo hi H Q := ⟨p, xs, rfl, h, fun p2 n => q p2 _ n (Ex.new n) upd_same⟩
theorem r_cat {p q : Addr} {xs ys : List V} (h : H p = some (.lst xs)) (h' : H q = some (.lst ys)) (l : xs.length + ys.length ≤ 100000) (k : ∀ p2 H2, H p2 = none → Ex H H2 → H2 p2 = some (.lst (xs ++ ys)) → Q (.ref p2) H2) : rCat (.ref p) (.ref q) H Q :=
  ⟨p, q, xs, ys, rfl, rfl, h, h', sz_of l, fun p2 n => k p2 _ n (Ex.new n) upd_same⟩
theorem r_list {p : Addr} {xs : List V} (h : SqL K H p xs) (k : ∀ p2 H2, H p2 = none → Ex H H2 → H2 p2 = some (.lst xs) → Q (.ref p2) H2) : rList K [.ref p] H Q := ⟨p, xs, rfl, .inl h, fun p2 n => k p2 _ n (Ex.new n) upd_same⟩
theorem r_len {p : Addr} {xs : List V} (h : SqL K H p xs) (q : Q (.int xs.length) H) : rLen K [.ref p] H Q := ⟨p, xs, rfl, .inl h, q⟩
theorem r_lenI {p : Addr} {ns : List Int} (h : SqL K H p (ns.map V.int)) (q : Q (.int ns.length) H) : rLen K [.ref p] H Q := r_len h (by rw [List.length_map]; exact q)
theorem r_int (q : Q (.int i) H) : rInt1 [.int i] H Q := .inl ⟨i, rfl, q⟩
theorem r_abs (q : Q (.int (if i < 0 then -i else i)) H) : rAbs [.int i] H Q := ⟨i, rfl, q⟩
theorem r_mx2 (q : Q (.int (if j > i then j else i)) H) : rMx2 [.int i, .int j] H Q := ⟨i, j, rfl, q⟩
theorem r_mn2 (q : Q (.int (if j < i then j else i)) H) : rMn2 [.int i, .int j] H Q := ⟨i, j, rfl, q⟩
theorem r_sum {p : Addr} {ns : List Int} (h : SqL K H p (ns.map V.int)) (q : Q (.int ns.sum) H) : rSum K [.ref p] H Q := ⟨p, ns, rfl, h, q⟩
theorem r_max {p : Addr} {ns : List Int} (h : SqL K H p (ns.map V.int)) (l : 0 < ns.length) (q : ∀ m, m ∈ ns → (∀ y, y ∈ ns → y ≤ m) → Q (.int m) H) : rMax K [.ref p] H Q := ⟨p, ns, rfl, h, l, q⟩
theorem r_eqD {x y : V} {d e : PyData} (hx : Dp K H x d) (hy : Dp K H y e) (s1 : SeqAt.shaped d = true) (s2 : SeqAt.shaped e = true) (q : Q (.bl (PyData.eqv d e)) H) : rEqD K x y H Q := ⟨d, e, hx, hy, s1, s2, q⟩
theorem r_neD {x y : V} {d e : PyData} (hx : Dp K H x d) (hy : Dp K H y e) (s1 : SeqAt.shaped d = true) (s2 : SeqAt.shaped e = true) (q : Q (.bl (!PyData.eqv d e)) H) : rNeD K x y H Q := ⟨d, e, hx, hy, s1, s2, q⟩
/-- isinstance of an int -/
theorem r_isiI {nm : String} {b : Bool} (h : PySem.W.kitOne K (.type "int") (.type nm) = some b) (q : Q (.bl b) H) : rIsi K [.int i, .ty nm] H Q := ⟨.int i, .ty nm, .type "int", .type nm, b, rfl, .ty nm, .base (.int i), h, q⟩
theorem r_isiL {nm : String} {b : Bool} {p : Addr} {xs : List V} (h : PySem.W.kitOne K (.type "list") (.type nm) = some b) (hp : H p = some (.lst xs)) (q : Q (.bl b) H) : rIsi K [.ref p, .ty nm] H Q := ⟨.ref p, .ty nm, .type "list", .type nm, b, rfl, .ty nm, .base (.lst hp), h, q⟩
end

/-! ### o[i] of a list, by values; o[i] op= e -/
section
variable {X : Cx}
theorem get_list : PGet X (rIxL X.K) := by
  intro pins s σ H ov iv xv yv Q I rx ry h
  obtain ⟨p, xs, i, z, rfl, rfl, hq, he, q⟩ := h
  cases rx
  obtain ⟨t, rfl⟩ := ry
  obtain ⟨its, r, pl, hz⟩ := I.list hq
  obtain ⟨j, h1, h2, h3, h4, h5⟩ := atI_get he
  obtain ⟨w, ew, rw'⟩ := r.get h2
  have hl := r.length
  have hn := line63
  have done : EP X pins σ Q w s := ⟨z, H, I, rw', q⟩
  by_cases h0 : 0 ≤ i
  · have hj : i.toNat = j := Option.some.inj ((seqIndex_of h0 h5).symm.trans h1)
    exact wpAny_getItem_list pl.isList h0 (by omega) (by rw [hj]; simpa using ew) done
  · have hj : (i + (its.toArray.size : Int)).toNat = j := by
      rw [List.size_toArray, ← hl]
      exact Option.some.inj ((seqIndex_neg (by omega) h4).symm.trans h1)
    exact wpAny_getItem_list_neg pl.isList (by omega) (by rw [List.size_toArray] <;> omega) (by omega) (by rw [hj]; simpa using ew) done
end
section
variable {K : PySem.W.Frag} {σ : L2.St} {H : Hp} {D : Ends} {to ti te : TE} {tg : V → V → Hp → VK → Prop} {tp : TIp} {ts : TSet}
theorem r_augS (h : to σ H fun o H1 => ti σ H1 fun i H2 => tg o i H2 fun x H3 => te σ H3 fun y H4 => tp x y H4 fun z H5 => ts o i z H5 fun H6 => D.nx σ H6) : tAugS to ti te tg tp ts D σ H := h
end

/-! ### several except clauses, each with a name -/
/-- behind a clause its name's slot is empty -/
def finA (i : Nat) (D : Ends) : Ends := ⟨fun s h => D.nx (s.set i none) h, D.rt, fun s h => D.bk (s.set i none) h, fun s h => D.ct (s.set i none) h⟩
abbrev ClA := Value × Nat × (Addr → Value → Option Addr → TS)
def wManyA (K : PySem.W.Frag) (W0 : WX) (D : Ends) : List ClA → WX
  | [] => W0
  | (c, i, ts) :: l => fun cls d σ H => ∃ b, PySem.W.exmOne K cls c = some b ∧ (b = true → ∀ a, H a = none → ts a cls d (finA i D) (σ.set i (some (.ref a))) H) ∧ (b = false → wManyA K W0 D l cls d σ H)
inductive HdsA (X : Cx) : List ExceptHandler → List ClA → Prop
  | nil : HdsA X [] []
  | cons {x n : Str} {c : Value} {i : Nat} {ts : Addr → Value → Option Addr → TS} {b0 : Stmt} {suite : List Stmt} {np ps : Pos} {hds : List ExceptHandler} {l : List ClA} (hc : Names X x c) (hi : X.N[i]? = some n) (hln : X.env.kindOf n = some .local)
      (hsu : ∀ (a : Addr) (oe : Obj) (cls : Value) (d : Option Addr) (pn : List (Addr × Obj)), Zc cls d oe → (∃ vs, oe.data = .fields vs) → PSs (X.suite a ((a, oe) :: pn)) (b0 :: suite) (ts a cls d)) (r : HdsA X hds l) :
      HdsA X (.ExceptHandler (some (.Name x np)) (some n) (b0 :: suite) ps :: hds) ((c, i, ts) :: l)
section
variable {X : Cx} {body : List Stmt} {h0 : ExceptHandler} {hds : List ExceptHandler} {l : List ClA} {pos : Pos} {tb : WX → TS} {W0 : WX}
theorem ps_tryA (hs : X.stack = X.env :: X.outer) (hf : X.env.frame = some X.env.locals) (hN : X.N.Nodup) (tk : Takes X W0)
    (hb : ∀ (W : WX) (pn : List (Addr × Obj)) (xe : Value → Shared → Prop), Takes (X.tr pn xe) W → PassesOwn (model X.prog X.w) X.A X.env xe → PSs (X.tr pn xe) body (tb W))
    (hh : HdsA X (h0 :: hds) l) : PS X (.Try body (h0 :: hds) [] [] pos) (fun D σ H => tb (wManyA X.K W0 D l) D σ H) := by
  refine ⟨fun pins s σ H D I hyp => ?_⟩
  have ok := I.ok
  have hfr : X.A.frames = some (X.env :: X.outer) := by rw [ok.frames, hs]
  refine wpAny_Try_except ?_
  refine wpAny_mono ((hb (wManyA X.K W0 D l) (X.pn ++ pins) (fun e z1 => wpAny (model X.prog X.w) X.A (noteFrame e X.env) (fun _ z2 => wpAny (model X.prog X.w) X.A (setFlight e none) (fun _ z3 =>
    wpAny (model X.prog X.w) X.A (handleBy e X.env (h0 :: hds)) (SP X pins D) X.xe z3) X.xe z2) X.xe z1) (fun u s' xx => ?_) PassesOwn.looking).run [] s σ H D (I.toTry _) hyp) (fun f s1 hsp => ?_) (fun _ _ z => z)
  · obtain ⟨a, B, sI, pins', σ', H', cls, d, rfl, Jt, nb, up, sky, na, os, ag, w⟩ := xx
    have J : Inv X pins σ' H' sI := Jt.ofTry ok
    have sk2 : Sky B (X.env :: X.outer) a (Zc cls d) X.env.locals s'.heap := by rw [← hs]; exact sky
    show wpAny (model X.prog X.w) X.A (noteFrame (.ref a) X.env) _ _ _
    refine Sky.land Zc.steady hfr hf sk2 fun h3 fl3 up3 => ?_
    have J3 : Inv X pins σ' H' { s' with heap := h3 } := J.landed nb fl3.1 (up.trans up3) os ag
    obtain ⟨oe3, vs3, he3, hz3, hd3⟩ := fl3.there
    have nfr : a ∉ frs (X.env :: X.outer) := fun hm => by
      obtain ⟨_, o', e', hnf⟩ := fl3.2.2.1.mem hm
      rw [he3] at e'
      cases e'
      exact hnf _ hd3
    have nL : a ≠ X.env.locals := fun z => nfr (List.mem_filterMap.mpr ⟨X.env, List.mem_cons_self, by rw [hf, z]⟩)
    have nF : a ∉ X.fs := fun hm => by
      obtain ⟨e, he, q⟩ := List.mem_filterMap.mp hm
      exact nfr (List.mem_filterMap.mpr ⟨e, List.mem_cons_of_mem _ he, q⟩)
    have S3 := J3.suite he3 hd3 na nL nF
    have go : ∀ {hd' : List ExceptHandler} {l' : List ClA}, HdsA X hd' l' → wManyA X.K W0 D l' cls d σ' H' →
        wpAny (model X.prog X.w) X.A (handleBy (.ref a) X.env hd') (SP X pins D) X.xe { s' with heap := h3 } := by
      intro hd' l' hk
      induction hk with
      | nil =>
        intro w
        refine wpAny_handleBy_nil ?_
        obtain ⟨_, _, _, oe, vs, T, oT, _, he, hz, hd, h1, hr⟩ := id fl3
        unfold PySem.passOn
        refine wpAny_bind (wpAny_field he hd h1 ?_)
        rw [if_neg (show ¬ ((Value.ref T == Value.none) = true) by simp)]
        have outw : wpAny (model X.prog X.w) X.A (setFlight (.ref a) X.env.frame) (fun _ s4 => wpAny (model X.prog X.w) X.A (throw (.ref a) : Sem Flow) (SP X pins D) X.xe s4) X.xe { s' with heap := h3 } := by
          rw [hf]
          refine HandSPX.setFlight_upZ fl3 fun h4 hh4 up4 => wpAny_throw (tk _ _ ?_)
          exact ⟨a, B, sI, pins, σ', H', cls, d, rfl, J, nb, (up.trans up3).trans up4, .inr (.inr (by rw [hs]; exact hh4)), na, os, ag, w⟩
        first
          | exact wpAny_bind (wpAny_pure (wpAny_bind outw))
          | exact wpAny_bind outw
      | @cons x n c i ts b0 suite np ps hd2 l2 hc hi hln hsu r ih =>
        intro w
        obtain ⟨b, hb1, hyes, hno⟩ := w
        refine wpAny_handleBy_cons (codeAny_handlers_test ?_) (by intro q; cases q)
        have LT : PySem.W.Looks (model X.prog X.w) h3 (typeOf (.ref a)) cls := fun A Q E s k q => wpAny_typeOf_ref (k _ _ he3) (by rw [hz3.1]; exact q)
        have LM := PySem.W.exm_one (M := model X.prog X.w) (J3.kIn) LT hb1
        have tst : ∀ {Q : Value → Shared → Prop} {E : Value → Shared → Prop}, Q c { s' with heap := h3 } → wpAny (model X.prog X.w) (X.A.mark (some (.ref a))) (eval (.Name x np) X.env) Q E { s' with heap := h3 } := fun {Q E} q => by
          obtain ⟨hg, hdbg, hm | ⟨hm, hv, hnn⟩⟩ := hc
          · exact ld_glob (X := X.suite a ((a, oe3) :: (X.pn ++ pins))) S3 hg hm q hdbg
          · exact ld_blt (X := X.suite a ((a, oe3) :: (X.pn ++ pins))) S3 hg hm hv q hnn hdbg
        refine tst (LM.here ?_)
        cases b with
        | false =>
          show wpAny _ X.A (handleBy (.ref a) X.env hd2) _ _ _
          exact ih (hno rfl)
        | true =>
          refine codeAny_handlers_suite_as ?_
          refine HandSPX.lands_againZ fl3 fun h4 fl4 up4 => ?_
          have J4 : Inv X pins σ' H' { s' with heap := h4 } := J.landed nb fl4.1 ((up.trans up3).trans up4) os ag
          obtain ⟨oe4, vs4, he4, hz4, hd4⟩ := fl4.there
          have S4 := J4.suite he4 hd4 na nL nF
          refine store_ok (X := X.suite a ((a, oe4) :: (X.pn ++ pins))) (v := .ref a) S4 hN hi (.inl hln) rfl (fun s5 S5 => ?_) (.inr hln)
          refine wpAny_mono ((hsu a oe4 cls d (X.pn ++ pins) hz4 ⟨_, hd4⟩).run [] s5 _ H' _ S5 (hyes rfl a na)) (fun f s6 hsp => ?_) (fun _ _ z => False.elim z)
          have fin_ : ∀ {σ6 : L2.St} {H6 : Hp} {Q : Shared → Prop}, Inv (X.suite a ((a, oe4) :: (X.pn ++ pins))) [] σ6 H6 s6 → (∀ s7, Inv X pins (σ6.set i none) H6 s7 → Q s7) →
              wpAny (model X.prog X.w) X.A (do bindName X.env n .none; unbindBehindTheSuite X.env n ps) (fun _ s7 => Q s7) X.xe s6 := fun {σ6 H6 Q} S6 hq => gone_ok (S6.unsuite ok) hN hi hln hq
          cases f with
          | next =>
            obtain ⟨σ6, H6, S6, q6⟩ := hsp
            exact fin_ S6 fun s7 J7 => ⟨_, _, J7, q6⟩
          | brk =>
            obtain ⟨σ6, H6, S6, q6⟩ := hsp
            exact fin_ S6 fun s7 J7 => ⟨_, _, J7, q6⟩
          | cont =>
            obtain ⟨σ6, H6, S6, q6⟩ := hsp
            exact fin_ S6 fun s7 J7 => ⟨_, _, J7, q6⟩
          | ret u =>
            obtain ⟨v6, σ6, H6, S6, r6, q6⟩ := hsp
            exact fin_ S6 fun s7 J7 => ⟨_, _, _, J7, r6, q6⟩
    exact go hh w
  · cases f with
    | next =>
      obtain ⟨σ', H', Jt, q⟩ := hsp
      exact wpAny_execs_nil ⟨σ', H', Jt.ofTry ok, q⟩
    | brk =>
      obtain ⟨σ', H', Jt, q⟩ := hsp
      exact ⟨σ', H', Jt.ofTry ok, q⟩
    | cont =>
      obtain ⟨σ', H', Jt, q⟩ := hsp
      exact ⟨σ', H', Jt.ofTry ok, q⟩
    | ret u =>
      obtain ⟨v, σ', H', Jt, r, q⟩ := hsp
      exact ⟨v, σ', H', Jt.ofTry ok, r, q⟩
end

/-! ### own exception classes with one field -/
theorem app_len (a b : Str) : (a ++ b).length = a.length + b.length := by
  show (a.cps ++ b.cps).size = _
  rw [Array.size_append]
  rfl
section
variable {σ : L2.St} {H : Hp} {ts : List TE} {te : TE} {acc s : Str} {R : Str → Hp → Prop} {i : Int}
theorem js_nil (h : R acc H) : tJs [] acc σ H R := h
theorem js_c {n : Nat} (ha : acc.length ≤ n) (hs : n + s.length ≤ 100000) (h : ∀ acc' : Str, acc'.length ≤ n + s.length → tJs ts acc' σ H R) : tJs (tC (.str s) :: ts) acc σ H R :=
  ⟨s, rfl, sz_of (by rw [app_len]; omega), h _ (by rw [app_len]; omega)⟩
theorem js_i {n : Nat} (ha : acc.length ≤ n) (hs : n ≤ 50000) (hv : i.natAbs.log2 < 1920) (hte : ∀ Q : VK, Q (.int i) H → te σ H Q) (h : ∀ acc' : Str, acc'.length ≤ n + 1921 → tJs ts acc' σ H R) : tJs (tFmt te :: ts) acc σ H R := by
  have hl : (Str.ofString (toString i)).length ≤ 1921 := by
    have e := PySem.int_text_length_le (k := 1920) (by decide) hv
    rw [PySem.ofString_length]
    omega
  exact hte _ (.inr ⟨i, rfl, hv, _, rfl, sz_of (by rw [app_len]; omega), h _ (by rw [app_len]; omega)⟩)
theorem js_s {n : Nat} (ha : acc.length ≤ n) (hs : n + s.length ≤ 100000) (hte : ∀ Q : VK, Q (.str s) H → te σ H Q) (h : ∀ acc' : Str, acc'.length ≤ n + s.length → tJs ts acc' σ H R) : tJs (tFmt te :: ts) acc σ H R :=
  hte _ (.inl ⟨s, rfl, sz_of (by omega), s, rfl, sz_of (by rw [app_len]; omega), h _ (by rw [app_len]; omega)⟩)
end
/-- what may be told in an error's text -/
def tellV : V → Prop
  | .int i => i.natAbs.log2 < 1920
  | .str s => s.length ≤ 1000
  | _ => False
/-- __init__(self, f): self.f = f -/
def spExc (K : PySem.W.Frag) (C : Addr) (f : Str) : Sp := fun vs H Q _ => ∃ (a : Addr) (v : V), vs = [.ref a, v] ∧ tellV v ∧ H a = some (exo a C none) ∧
  ∀ dx, H dx = none → dx ≠ a → Q .non (upd (upd H dx (exd dx [(f, v)])) a (exo a C (some dx)))
structure Exn (P : Program) (w : World) (K : PySem.W.Frag) (mg : Str → Option Value) (base : Heap) (x f : Str) (C : Addr) : Prop where
  o : OexC K C
  g : mg x = some (.ref C)
  init : ∃ (fI : Addr) (fd : FuncData), PySem.W.findIn K (.ref C) "__init__" = some (some (.ref fI)) ∧ PySem.W.typeIn K (.ref fI) = some (.type "function") ∧ FnOk P w K mg base (L2.CX P w) 1 fI fd ["self", f] (spExc K C f) ∧ Binds K fd ["self", f] []
  xf : XfC K C
  no : PySem.W.findIn K (.ref C) f = some none
  te : PySem.W.exmOne K (.ref C) (.ref C) = some true
def tRaiseE (C : Addr) (f : Str) (W : WX) (te : TE) : TS := fun _ σ H => te σ H fun v H1 => tellV v ∧ ∀ d H2, Ex H1 H2 → H2 d = some (.xd [(f, v)]) → W (.ref C) (some d) σ H2
section
variable {X : Cx} {x f : Str} {C : Addr} {W : WX} {e : Expr} {te : TE} {p pos pos2 : Pos}
theorem pe_cl (h : PE X e te) : PE X e (fun σ H Q => ∃ P1 : VK, te σ H P1 ∧ ∀ v H1, P1 v H1 → Q v H1) :=
  ⟨fun pins s σ H Q I ⟨P1, hp, pq⟩ => thn (h.run pins s σ H P1 I hp) fun u s1 ⟨v, H1, I1, r, q⟩ => ⟨v, H1, I1, r, pq v H1 q⟩⟩
theorem ps_raiseE (T : Exn X.prog X.w X.K X.mg X.base x f C) (hc : X.calm = true) (hr : Room 2 X.A) (tk : Takes X W) (he : PE X e te) (hg : Gl X x := by rfl) (hdb : (x == ("__debug__" : Str)) = false := by decide)
    (hs : starEach (e :: []) X.env = (false, eval e X.env) :: starEach [] X.env := by rfl) (hpl : (backTo pos (starEach [] X.env)).any (·.1) = false := by rfl) :
    PS X (.Raise (some (.Call (.Name x p) [e] [] pos)) none pos2) (tRaiseE C f W te) := by
  obtain ⟨fI, fd, iC, tI, F, b⟩ := T.init
  have hx : Passes (L2.CX X.prog X.w) X (fun _ _ _ => False) := passL
  have m := pmk_oex (pos := pos) (p := p) T.o iC tI F (hr.mono (Nat.le_refl _)) b .nil hx hg T.g (pa_cons (pe_cl he) pa_nil hs) hdb hs hpl
  have r := ps_raise (pos := pos2) hc tk m
  refine ⟨fun pins s σ H D I h => r.run pins s σ H D I ?_⟩
  show ∃ P1 : VK, te σ H P1 ∧ _
  have key : ∀ v H1, (tellV v ∧ ∀ d H2, Ex H1 H2 → H2 d = some (.xd [(f, v)]) → W (.ref C) (some d) σ H2) →
      ([v] : List V).length ≤ 1000 ∧ ∀ a, H1 a = none → spExc X.K C f (.ref a :: ([v] ++ [])) (upd H1 a (exo a C none))
        (fun u H2 => u = .non ∧ ∃ (d : Addr) (fs : List (Str × V)), H2 a = some (exo a C (some d)) ∧ H2 d = some (exd d fs) ∧ H1 d = none ∧ W (.ref C) (some d) σ (upd (del H2 a) d (.xd fs))) (fun _ _ _ => False) := by
    intro v H1 q
    refine ⟨by show 1 ≤ 1000; decide, fun a ha => ⟨a, v, rfl, q.1, upd_same, fun dx hdx hne => ⟨rfl, dx, [(f, v)], upd_same, ?_, ?_, ?_⟩⟩⟩
    · rw [upd_ne hne, upd_same]
    · rw [upd_ne hne] at hdx
      exact hdx
    · have hd1 : H1 dx = none := by
        rw [upd_ne hne] at hdx
        exact hdx
      refine q.2 dx _ (fun b o hb => ?_) upd_same
      have n1 : b ≠ dx := ne_of_none hb hd1
      have n2 : b ≠ a := ne_of_none hb ha
      rw [upd_ne n1, del_ne n2, upd_ne n2, upd_ne n1, upd_ne n2]
      exact hb
  exact ⟨_, h, fun v H1 q => key v H1 q⟩
end
section
variable {K : PySem.W.Frag} {H : Hp} {Q : VK} {i : Int}
theorem r_isII (q : Q (.bl true) H) : rIsi K [.int i, .ty "int"] H Q := r_isiI (kit_ty (by decide +kernel)) q
theorem r_isIB (q : Q (.bl false) H) : rIsi K [.int i, .ty "bool"] H Q := r_isiI (kit_ty (by decide +kernel)) q
theorem r_isLL {p : Addr} {xs : List V} (hp : H p = some (.lst xs)) (q : Q (.bl true) H) : rIsi K [.ref p, .ty "list"] H Q := r_isiL (kit_ty (by decide +kernel)) hp q
end

/-! ### loops -/
def ForW (g : TG) (tb : TS) (D : Ends) (σ : L2.St) (J : It) (H1 : Hp) : Prop := ∃ W : Nat → Nat → L2.St → Hp → Prop, (∃ m, W 0 m σ H1) ∧ ∀ i m σ H, W i m σ H →
  (J.stop i H ∧ D.nx σ H) ∨ (J.go i H ∧ ∃ N : L2.St → Hp → Prop, (∀ σ' H', N σ' H' → ∃ m', m' < m ∧ W (i + 1) m' σ' H') ∧ ∀ x H', J.yld i H x H' → g x σ H' fun σ2 H2 => tb { D with nx := N, ct := N, bk := D.nx } σ2 H2)
def ItL (K : PySem.W.Frag) (x : V) (H : Hp) (R : It → Hp → Prop) : Prop := ∃ a, x = .ref a ∧ (∃ xs, SqL K H a xs) ∧ R (Itl K a) H
def ItT (K : PySem.W.Frag) (x : V) (H : Hp) (R : It → Hp → Prop) : Prop := ∃ a, x = .ref a ∧ (∃ xs, SqT K H a xs) ∧ R (Itt K a) H
def ItR1 (vs : List V) (H : Hp) (R : It → Hp → Prop) : Prop := ∃ j : Int, vs = [.int j] ∧ -(2 ^ 62) ≤ j ∧ j < 2 ^ 62 ∧ R (Itr 0 j.toNat) H
def ItR2 (vs : List V) (H : Hp) (R : It → Hp → Prop) : Prop := ∃ i j : Int, vs = [.int i, .int j] ∧ (-(2 ^ 62) ≤ i ∧ i < 2 ^ 62 ∧ -(2 ^ 62) ≤ j ∧ j < 2 ^ 62) ∧ R (Itr i (j - i).toNat) H
def ItE (K : PySem.W.Frag) (vs : List V) (H : Hp) (R : It → Hp → Prop) : Prop := ∃ a xs, vs = [.ref a] ∧ SqL K H a xs ∧ R (Ite K a) H
def LcW (g : TG) (tt : TT) (te : TE) (vs : List Nat) (σ : L2.St) (Q : VK) (J : It) (H1 : Hp) : Prop := ∀ D, H1 D = none → ∃ W : Nat → Nat → Hp → Prop, (∃ m, W 0 m (upd H1 D (.lst []))) ∧ ∀ i m H, W i m H →
  (J.stop i H ∧ Q (.ref D) H) ∨ (J.go i H ∧ ∃ Nx : Hp → Prop, (∀ H', Nx H' → ∃ m', m' < m ∧ W (i + 1) m' H') ∧ ∀ x H', J.yld i H x H' → g x (wipe σ vs) H' fun σ2 H2 => wipe σ2 vs = wipe σ vs ∧ tt σ2 H2 fun b H3 =>
    if b = true then te σ2 H3 fun y H4 => ∃ acc, H4 D = some (.lst acc) ∧ acc.length < sizeLine ∧ Nx (upd H4 D (.lst (acc ++ [y]))) else Nx H3)
def AppW (p : Addr) (N : Hp → Prop) (y : V) (H4 : Hp) : Prop := ∃ acc, H4 p = some (.lst acc) ∧ acc.length < sizeLine ∧ N (upd H4 p (.lst (acc ++ [y])))
def WhB (tb : TS) (D : Ends) (W : Nat → L2.St → Hp → Prop) (m : Nat) (σ : L2.St) (b : Bool) (H1 : Hp) : Prop :=
  if b = true then ∃ N : L2.St → Hp → Prop, (∀ σ' H', N σ' H' → ∃ m', m' < m ∧ W m' σ' H') ∧ tb { D with nx := N, ct := N, bk := D.nx } σ H1 else D.nx σ H1
section
variable {K : PySem.W.Frag} {σ : L2.St} {H : Hp} {D : Ends} {tb : TS} {te : TE} {ta : TA} {g : TG} {wi : TI} {tt c : TT} {Q : VK} {R : It → Hp → Prop} {a : Addr} {xs : List V} {ns : List Int} {m m1 m2 : Nat} {vs : List Nat} {i j : Int}
theorem r_for (h : wi σ H (ForW g tb D σ)) : tFor wi g tb D σ H := h
theorem r_lc (h : wi σ H (LcW g tt te vs σ Q)) : tLc wi g tt te vs σ H Q := h
theorem r_iList (h : te σ H fun x H1 => ItL K x H1 R) : iList K te σ H R := h
theorem r_iTup (h : te σ H fun x H1 => ItT K x H1 R) : iTup K te σ H R := h
theorem r_iRng1 (h : ta σ H fun x H1 => ItR1 x H1 R) : iRng1 ta σ H R := h
theorem r_iRng2 (h : ta σ H fun x H1 => ItR2 x H1 R) : iRng2 ta σ H R := h
theorem r_iEnum (h : ta σ H fun x H1 => ItE K x H1 R) : iEnum K ta σ H R := h
theorem forL (hx : SqL K H a xs) (Pv : Nat → L2.St → Hp → Prop) (h0 : Pv 0 σ H) (hl : ∀ i s h, i ≤ xs.length → Pv i s h → SqL K h a xs)
    (hs : ∀ i x s h, xs[i]? = some x → Pv i s h → g x s h fun s2 h2 => tb ⟨Pv (i + 1), D.rt, D.nx, Pv (i + 1)⟩ s2 h2) (hd : ∀ s h, Pv xs.length s h → D.nx s h) : ItL K (.ref a) H (ForW g tb D σ) :=
  ⟨a, rfl, ⟨xs, hx⟩, for_list (K := K) (a := a) (xs := xs) Pv h0 hl hs hd⟩
theorem forI (hx : SqL K H a (ns.map V.int)) (Pv : Nat → L2.St → Hp → Prop) (h0 : Pv 0 σ H) (hl : ∀ i s h, i ≤ ns.length → Pv i s h → SqL K h a (ns.map V.int))
    (hs : ∀ i z s h, ns[i]? = some z → Pv i s h → tb ⟨Pv (i + 1), D.rt, D.nx, Pv (i + 1)⟩ (s.set m (some (.int z))) h) (hd : ∀ s h, Pv ns.length s h → D.nx s h) : ItL K (.ref a) H (ForW (gName m) tb D σ) := by
  refine forL hx Pv h0 (fun i s h hi p => hl i s h (by rw [List.length_map] at hi; exact hi) p) (fun i x s h hi p => ?_) (fun s h p => hd s h (by rw [List.length_map] at p; exact p))
  rw [List.getElem?_map] at hi
  cases e : ns[i]? with
  | none =>
    rw [e] at hi
    cases hi
  | some z =>
    rw [e] at hi
    cases hi
    exact hs i z s h e p
theorem forR1 (h1 : -1000000000 ≤ j) (h2 : j ≤ 1000000000) (Pv : Nat → L2.St → Hp → Prop) (h0 : Pv 0 σ H)
    (hs : ∀ (i : Nat) s h, (i : Int) < j → Pv i s h → tb ⟨Pv (i + 1), D.rt, D.nx, Pv (i + 1)⟩ (s.set m (some (.int i))) h) (hd : ∀ s h, Pv j.toNat s h → D.nx s h) : ItR1 [.int j] H (ForW (gName m) tb D σ) := by
  refine ⟨j, rfl, by omega, by omega, for_range (lo := 0) (n := j.toNat) Pv h0 (fun i s h hi p => ?_) hd⟩
  have e : (0 : Int) + (i : Int) = (i : Int) := Int.zero_add _
  show tb _ (s.set m (some (.int ((0 : Int) + (i : Int))))) h
  rw [e]
  exact hs i s h (by omega) p
theorem forR2 (h1 : -1000000000 ≤ i ∧ i ≤ 1000000000) (h2 : -1000000000 ≤ j ∧ j ≤ 1000000000) (Pv : Nat → L2.St → Hp → Prop) (h0 : Pv 0 σ H)
    (hs : ∀ (k : Nat) s h, i + (k : Int) < j → Pv k s h → tb ⟨Pv (k + 1), D.rt, D.nx, Pv (k + 1)⟩ (s.set m (some (.int (i + k)))) h) (hd : ∀ s h, Pv (j - i).toNat s h → D.nx s h) : ItR2 [.int i, .int j] H (ForW (gName m) tb D σ) :=
  ⟨i, j, rfl, ⟨by omega, by omega, by omega, by omega⟩, for_range (lo := i) (n := (j - i).toNat) Pv h0 (fun k s h hk p => hs k s h (by omega) p) hd⟩
theorem forE (hx : SqL K H a xs) (Pv : Nat → L2.St → Hp → Prop) (h0 : Pv 0 σ H) (hl : ∀ i s h, i ≤ xs.length → Pv i s h → SqL K h a xs)
    (hs : ∀ (i : Nat) x s h h2, xs[i]? = some x → Pv i s h → Ex h h2 → tb ⟨Pv (i + 1), D.rt, D.nx, Pv (i + 1)⟩ ((s.set m1 (some (.int i))).set m2 (some x)) h2) (hd : ∀ s h, Pv xs.length s h → D.nx s h) :
    ItE K [.ref a] H (ForW (gTup K 2 (gCons (gName m1) (gCons (gName m2) gNil))) tb D σ) := by
  refine ⟨a, xs, rfl, hx, fun i m s h => m = xs.length - i ∧ i ≤ xs.length ∧ Pv i s h, ⟨xs.length, by simp, Nat.zero_le _, h0⟩, ?_⟩
  rintro i m s h ⟨rfl, hi, p⟩
  have q := hl i s h hi p
  by_cases hlt : i < xs.length
  · refine .inr ⟨⟨xs, xs[i], q, by simp [hlt]⟩, Pv (i + 1), fun s' h' p' => ⟨xs.length - (i + 1), by omega, rfl, hlt, p'⟩, fun x h' y => ?_⟩
    obtain ⟨T, z, rfl, hT, rfl, hz⟩ := y
    exact ⟨T, _, rfl, .inl (.inl upd_same), rfl, _, _, rfl, _, _, rfl, rfl, hs i z s h _ (hz xs q) p (Ex.new hT)⟩
  · have e : i = xs.length := by omega
    subst e
    exact .inl ⟨⟨xs, q, Nat.le_refl _⟩, hd s h p⟩
theorem r_while (W : Nat → L2.St → Hp → Prop) (m0 : Nat) (h0 : W m0 σ H) (hs : ∀ m s h, W m s h → c s h (WhB tb D W m s)) : tWhile c tb D σ H := ⟨W, ⟨m0, h0⟩, fun m s h w => hs m s h w⟩
theorem whB {W : Nat → L2.St → Hp → Prop} {p : Prop} [Decidable p] (h1 : p → tb ⟨fun s h => ∃ m', m' < m ∧ W m' s h, D.rt, D.nx, fun s h => ∃ m', m' < m ∧ W m' s h⟩ σ H) (h2 : ¬ p → D.nx σ H) : WhB tb D W m σ (decide p) H := by
  by_cases hp : p
  · unfold WhB
    rw [if_pos (decide_eq_true hp)]
    exact ⟨_, fun _ _ z => z, h1 hp⟩
  · unfold WhB
    rw [decide_eq_false hp]
    exact iteF (h2 hp)
theorem whB_no {W : Nat → L2.St → Hp → Prop} (h : D.nx σ H) : WhB tb D W m σ false H := iteF h
theorem appW {p : Addr} {N : Hp → Prop} {y : V} {acc : List V} (h : H p = some (.lst acc)) (l : acc.length < 100000) (k : ∀ H5, ExB p H H5 → H5 p = some (.lst (acc ++ [y])) → N H5) : AppW p N y H :=
  ⟨acc, h, sz_lt l, k _ (fun a o n e => by rw [upd_ne n]; exact e) upd_same⟩
theorem yesL {K1 : VK} {B : Hp → Prop} (h : te σ H K1) : tYes σ H fun b H3 => if b = true then te σ H3 K1 else B H3 := by
  show if true = true then te σ H K1 else B H
  exact iteT h
theorem lcR1 (h1 : -1000000000 ≤ j) (h2 : j ≤ 1000000000) (Pv : Addr → Nat → Hp → Prop) (h0 : ∀ p h, H p = none → Ex H h → h p = some (.lst []) → Pv p 0 h)
    (hs : ∀ p (i : Nat) h, (i : Int) < j → Pv p i h → te ((wipe σ vs).set m (some (.int i))) h (AppW p (Pv p (i + 1)))) (hd : ∀ p h, Pv p j.toNat h → Q (.ref p) h)
    (hw : ∀ x, wipe ((wipe σ vs).set m (some x)) vs = wipe σ vs) : ItR1 [.int j] H (LcW (gName m) tYes te vs σ Q) := by
  refine ⟨j, rfl, by omega, by omega, fun p hp => lc_range (lo := 0) (n := j.toNat) (Pv p) (h0 p _ hp (Ex.new hp) upd_same) (fun i h hi q => ?_) (hd p)⟩
  have e : (0 : Int) + (i : Int) = (i : Int) := Int.zero_add _
  rw [e]
  exact ⟨hw _, yesL (hs p i h (by omega) q)⟩
theorem lcL (hx : SqL K H a xs) (Pv : Addr → Nat → Hp → Prop) (h0 : ∀ p h, H p = none → Ex H h → h p = some (.lst []) → Pv p 0 h) (hl : ∀ p i h, i ≤ xs.length → Pv p i h → SqL K h a xs)
    (hs : ∀ p (i : Nat) x h, xs[i]? = some x → Pv p i h → te ((wipe σ vs).set m (some x)) h (AppW p (Pv p (i + 1)))) (hd : ∀ p h, Pv p xs.length h → Q (.ref p) h)
    (hw : ∀ x, wipe ((wipe σ vs).set m (some x)) vs = wipe σ vs) : ItL K (.ref a) H (LcW (gName m) tYes te vs σ Q) :=
  ⟨a, rfl, ⟨xs, hx⟩, fun p hp => lc_list (K := K) (a := a) (xs := xs) (Pv p) (h0 p _ hp (Ex.new hp) upd_same) (fun i h hi q => hl p i h hi q) (fun i x h hi q => ⟨hw x, yesL (hs p i x h hi q)⟩) (hd p)⟩
theorem lcI (hx : SqL K H a (ns.map V.int)) (Pv : Addr → Nat → Hp → Prop) (h0 : ∀ p h, H p = none → Ex H h → h p = some (.lst []) → Pv p 0 h) (hl : ∀ p i h, i ≤ ns.length → Pv p i h → SqL K h a (ns.map V.int))
    (hs : ∀ p (i : Nat) z h, ns[i]? = some z → Pv p i h → te ((wipe σ vs).set m (some (.int z))) h (AppW p (Pv p (i + 1)))) (hd : ∀ p h, Pv p ns.length h → Q (.ref p) h)
    (hw : ∀ x, wipe ((wipe σ vs).set m (some x)) vs = wipe σ vs) : ItL K (.ref a) H (LcW (gName m) tYes te vs σ Q) := by
  refine lcL hx Pv h0 (fun p i h hi q => hl p i h (by rw [List.length_map] at hi; exact hi) q) (fun p i x h hi q => ?_) (fun p h q => hd p h (by rw [List.length_map] at q; exact q)) hw
  rw [List.getElem?_map] at hi
  cases e : ns[i]? with
  | none =>
    rw [e] at hi
    cases hi
  | some z =>
    rw [e] at hi
    cases hi
    exact hs p i z h e q
theorem r_raise {C : Addr} {f : Str} {W : WX} (h : te σ H fun v H1 => tellV v ∧ ∀ d H2, Ex H1 H2 → H2 d = some (.xd [(f, v)]) → W (.ref C) (some d) σ H2) : tRaiseE C f W te D σ H := h
end
/-- lists of ints, deep -/
theorem dp_int {K : PySem.W.Frag} {H : Hp} {i : Int} : Dp K H (.int i) (.int i) := .int i
section
variable {K : PySem.W.Frag} {σ : L2.St} {H : Hp} {ts : List TE} {acc : Str} {R : Str → Hp → Prop} {v : V} {n k : Nat} {D : Ends} {a C : Addr} {f : Str}
theorem js_v (tv : tellV v) (e1 : σ[n]? = some (some v)) (ha : acc.length ≤ k) (hk : k ≤ 50000) (h : ∀ acc' : Str, acc'.length ≤ k + 1921 → tJs ts acc' σ H R) : tJs (tFmt (tVar n) :: ts) acc σ H R := by
  cases v with
  | int i => exact js_i ha hk tv (fun Q q => ⟨_, e1, q⟩) h
  | str s =>
    have hs : s.length ≤ 1000 := tv
    exact js_s (n := k) ha (by omega) (fun Q q => ⟨_, e1, q⟩) fun acc' l => h acc' (by omega)
  | non => exact tv.elim
  | bl b => exact tv.elim
  | byt b => exact tv.elim
  | flt b => exact tv.elim
  | ref b => exact tv.elim
  | ty b => exact tv.elim
theorem exc_body {parts : List TE} (js : ∀ R : Str → Hp → Prop, (∀ s, R s H) → tJs parts Str.empty σ H R) (e0 : σ[0]? = some (some (.ref a))) (e1 : σ[1]? = some (some v)) (o : OexC K C) (no : PySem.W.findIn K (.ref C) f = some none)
    (ha : H a = some (exo a C none)) (q : ∀ dx, H dx = none → dx ≠ a → D.nx σ (upd (upd H dx (exd dx [(f, v)])) a (exo a C (some dx)))) :
    tSeq (tDrop (tVeI K (tCons (tVar 0) (tCons (fun σ H Q => tJs parts Str.empty σ H fun out H1 => Q (.str out) H1) tNil)))) (tOst K f (tVar 0) (tVar 1)) D σ H := by
  refine ⟨_, e0, ?_⟩
  refine js _ fun s => ?_
  exact ⟨a, C, [.str s], rfl, by show 1 ≤ 1000; decide, o, ha, _, e1, _, e0, a, C, rfl, o, no, .inl ⟨ha, q⟩⟩
end
/-! ### comparing lists of ints -/
theorem ints_lay : ∀ ns : List Int, PyData.canLayAll0 (ns.map PyData.int) = true
  | [] => rfl
  | n :: ns => by
    have h := ints_lay ns
    simp only [List.map_cons, PyData.canLayAll0, PyData.canLay0, Bool.true_and]
    exact h
theorem ints_depth : ∀ ns : List Int, PyData.depthAll (ns.map PyData.int) ≤ 1
  | [] => by simp [PyData.depthAll]
  | n :: ns => by
    have h := ints_depth ns
    simp only [List.map_cons, PyData.depthAll, PyData.depth]
    omega
theorem shape_of {d : PyData} (h1 : d.canLay0 = true) (h2 : d.depth ≤ 64) : SeqAt.shaped d = true := by
  show (d.canLay0 && decide (d.depth ≤ 64)) = true
  rw [h1, decide_eq_true h2]
  rfl
theorem sh_ints (ns : List Int) : SeqAt.shaped (.list (ns.map PyData.int)) = true := by
  have h := ints_depth ns
  refine shape_of ?_ ?_
  · simp only [PyData.canLay0]
    exact ints_lay ns
  · simp only [PyData.depth]
    omega
theorem eqv_ints : ∀ ns ms : List Int, PyData.eqvAll (ns.map PyData.int) (ms.map PyData.int) = decide (ns = ms)
  | [], [] => by simp [PyData.eqvAll]
  | [], m :: ms => by simp [PyData.eqvAll]
  | n :: ns, [] => by simp [PyData.eqvAll]
  | n :: ns, m :: ms => by
    have h := eqv_ints ns ms
    simp only [List.map_cons, PyData.eqvAll, PyData.eqv, h]
    by_cases e1 : n = m
    · by_cases e2 : ns = ms
      · simp [e1, e2]
      · simp [e2]
    · simp [e1]
theorem eqv_listI (ns ms : List Int) : PyData.eqv (.list (ns.map PyData.int)) (.list (ms.map PyData.int)) = decide (ns = ms) := by
  simp only [PyData.eqv]
  exact eqv_ints ns ms
theorem dpa_ints {K : PySem.W.Frag} {H : Hp} : ∀ ns : List Int, DpAll K H (ns.map V.int) (ns.map PyData.int)
  | [] => .nil
  | n :: ns => .cons (.int n) (dpa_ints ns)
theorem dp_ints {K : PySem.W.Frag} {H : Hp} {p : Addr} {ns : List Int} (h : SqL K H p (ns.map V.int)) : Dp K H (.ref p) (.list (ns.map PyData.int)) := .lst h (dpa_ints ns)
section
variable {K : PySem.W.Frag} {H : Hp} {Q : VK} {p q : Addr} {ns ms : List Int}
theorem r_eqL (h1 : SqL K H p (ns.map V.int)) (h2 : SqL K H q (ms.map V.int)) (k : Q (.bl (decide (ns = ms))) H) : rEqD K (.ref p) (.ref q) H Q :=
  r_eqD (dp_ints h1) (dp_ints h2) (sh_ints _) (sh_ints _) (by rw [eqv_listI]; exact k)
theorem r_neL (h1 : SqL K H p (ns.map V.int)) (h2 : SqL K H q (ms.map V.int)) (k : Q (.bl (!decide (ns = ms))) H) : rNeD K (.ref p) (.ref q) H Q :=
  r_neD (dp_ints h1) (dp_ints h2) (sh_ints _) (sh_ints _) (by rw [eqv_listI]; exact k)
theorem r_eqSame {x y : V} {d : PyData} (hx : Dp K H x d) (hy : Dp K H y d) (s1 : SeqAt.shaped d = true) (k : Q (.bl true) H) : rEqD K x y H Q :=
  r_eqD hx hy s1 s1 (by rw [SeqAt.eqv_refl d (SeqAt.canLay_of_shaped s1)]; exact k)
theorem r_neSame {x y : V} {d : PyData} (hx : Dp K H x d) (hy : Dp K H y d) (s1 : SeqAt.shaped d = true) (k : Q (.bl false) H) : rNeD K x y H Q :=
  r_neD hx hy s1 s1 (by rw [SeqAt.eqv_refl d (SeqAt.canLay_of_shaped s1)]; exact k)
end
theorem tell_int {i : Int} (h1 : -1000000000 ≤ i) (h2 : i ≤ 1000000000) : tellV (.int i) := by
  show i.natAbs.log2 < 1920
  by_cases h : i.natAbs = 0
  · rw [h]
    decide
  · have a : i.natAbs.log2 < 30 := (Nat.log2_lt h).mpr (by omega)
    omega
/-- a part is shown apart from what follows -/
theorem r_K {te : TE} {σ : L2.St} {H : Hp} {Q : VK} (h1 : ∀ Q' : VK, (∀ i H1, Ex H H1 → Q' (.int i) H1) → te σ H Q') (h2 : ∀ i H1, Ex H H1 → Q (.int i) H1) : te σ H Q := h1 Q h2
/-- three ints at p -/
def Pur (H : Hp) (p : Addr) : Prop := ∃ a b c : Int, H p = some (.lst [.int a, .int b, .int c])
theorem Pur.ex {H H2 : Hp} {p : Addr} (h : Pur H p) (e : Ex H H2) : Pur H2 p := by
  obtain ⟨a, b, c, h⟩ := h
  exact ⟨a, b, c, e _ _ h⟩
theorem cut_ints (ns : List Int) (lo hi : Option Int) : cutV (ns.map V.int) lo hi = ((ns.drop (HT.sIx ns.length 0 lo)).take (HT.sIx ns.length ns.length hi - HT.sIx ns.length 0 lo)).map V.int := by
  unfold cutV
  rw [List.length_map, ← List.map_drop, ← List.map_take]
section
variable {σ : L2.St} {H : Hp} {Q : VK} {te : TE} {tl th : TO} {r : V → Option Int → Option Int → Hp → VK → Prop} {i : Int} {Z : Option Int → Hp → Prop}
theorem r_sl (h : te σ H fun x H1 => tl σ H1 fun l H2 => th σ H2 fun u H3 => r x l u H3 Q) : tSl r te tl th σ H Q := h
theorem r_noP (h : Z none H) : tNoPart σ H Z := h
theorem r_part (h : te σ H fun x H1 => ∃ i, x = .int i ∧ Z (some i) H1) : tPart te σ H Z := h
theorem r_in {P : Int → Prop} (h : P i) : ∃ j, V.int i = .int j ∧ P j := ⟨i, rfl, h⟩
end
theorem len3 {n : Nat} {xs : List V} (h : xs.length.ble n = true) : xs.length ≤ n := Nat.le_of_ble_eq_true h
theorem r_nT {A B : Prop} (h : B) : if (!true) = true then A else B := iteF h
theorem r_nF {A B : Prop} (h : A) : if (!false) = true then A else B := iteT h
section
variable {K : PySem.W.Frag} {σ : L2.St} {H : Hp} {Q : VK} {p q : Addr} {ns : List Int} {xs : List V} {k : Int} {v : V} {n : Nat} {f : Str} {C a dd : Addr}
theorem r_rep (h : H p = some (.lst [v])) (h0 : -1000000 ≤ k) (h1 : k ≤ 1000000) (q : ∀ p2 H2, H p2 = none → Ex H H2 → H2 p2 = some (.lst (List.replicate k.toNat v)) → Q (.ref p2) H2) : rRep (.ref p) (.int k) H Q :=
  ⟨p, k, _, rfl, rfl, h, by omega, by omega, by rw [List.length_singleton, sizeLine_eq]; omega, fun p2 n => q p2 _ n (Ex.new n) (by rw [List.flatten_replicate_singleton]; exact upd_same)⟩
theorem r_xf (e : σ[n]? = some (some (.ref a))) (h : H dd = some (.xd [(f, v)])) (q : Q v H) : tXf a (.ref C) (some dd) C f (tVar n) σ H Q :=
  ⟨_, e, rfl, rfl, dd, [(f, v)], v, rfl, h, by simp [List.lookup], q⟩
theorem r_eqT (h1 : SqL K H p (ns.map V.int)) (h2 : SqL K H q (ns.map V.int)) (k : Q (.bl true) H) : rEqD K (.ref p) (.ref q) H Q :=
  r_eqSame (dp_ints h1) (dp_ints h2) (sh_ints _) k
end
section
variable {K : PySem.W.Frag} {H : Hp} {Q : VK} {p : Addr} {xs : List V} {v a b : V}
theorem r_ix0 (h : SqL K H p (v :: xs)) (q : Q v H) : rIxL K (.ref p) (.int 0) H Q := r_ixL h (atI_V (j := 0) rfl rfl) q
theorem r_ix1 (h : SqL K H p (a :: v :: xs)) (q : Q v H) : rIxL K (.ref p) (.int 1) H Q := r_ixL h (atI_V (j := 1) rfl rfl) q
theorem r_ix2 (h : SqL K H p (a :: b :: v :: xs)) (q : Q v H) : rIxL K (.ref p) (.int 2) H Q := r_ixL h (atI_V (j := 2) rfl rfl) q
end
theorem Pur.upd {H H2 : Hp} {p l : Addr} (h : Pur H p) (e : ExB l H H2) (n : p ≠ l) : Pur H2 p := by
  obtain ⟨a, b, c, h⟩ := h
  exact ⟨a, b, c, e _ _ n h⟩
theorem Pur.ne {H : Hp} {p l : Addr} (h : Pur H p) (n : H l = none) : l ≠ p := by
  obtain ⟨a, b, c, h⟩ := h
  exact (ne_of_none h n).symm
/-! ### the end -/
section
variable {K : PySem.W.Frag} {mg : Str → Option Value} {h : Heap}
theorem at_mk {x : Str} {st : Stmt} {f : Addr} {ps : List Str} {oc : Value} {od an : Option Addr} {osl : Array (Option Value)} {kV doc pm cdv ct : Value} (X : K.In h) (G : h.Ns mainGlobals mg)
    (a : PySem.W.nsIn K mainGlobals x = some (some (.ref f))) (l : K.lookup f = some ⟨oc, od, .func (PySem.W.fnOf x x (defArgs st) (defBody st) (defScope st) .none kV doc pm an cdv ct), osl⟩) (c : PySem.W.codeIn K cdv x = true) (k : PySem.W.keepIn K (.ref f) = true)
    (hb : ∀ (kV doc pm : Value) (an : Option Addr) (cdv ct : Value) (us : List Value), us.length = ps.length → bindArgs (PySem.W.fnOf x x (defArgs st) (defBody st) (defScope st) .none kV doc pm an cdv ct) ⟨us, []⟩ = pure (ps.zip us)) : At K mg x st ps :=
  ⟨f, _, fun_mk l c k, PySem.W.mg_of X G a, (fun_mk l c k).binds hb⟩
theorem exm_is {A B : Addr} {b : Bool} (h1 : PySem.W.subIn K (.ref B) (.type "BaseException") = some true) (h2 : PySem.W.isClsIn K B = true) (h3 : PySem.W.typeIn K (.ref B) = some (.type "type")) (h4 : PySem.W.subIn K (.ref A) (.ref B) = some b) :
    PySem.W.exmOne K (.ref A) (.ref B) = some b := by
  have e1 : (PySem.W.subIn K (.ref B) (.type "BaseException") == some true) = true := by
    rw [h1]
    rfl
  have e2 : ((PySem.W.clsIn K B).isSome && PySem.W.typeIn K (.ref B) == some (.type "type")) = true := by
    have h2' : (PySem.W.clsIn K B).isSome = true := h2
    rw [h2', h3]
    rfl
  show (if (PySem.W.subIn K (.ref B) (.type "BaseException") == some true) = true then (if ((PySem.W.clsIn K B).isSome && PySem.W.typeIn K (.ref B) == some (.type "type")) = true then PySem.W.subIn K (.ref A) (.ref B) else none) else none) = some b
  rw [if_pos e1, if_pos e2, h4]
theorem exm_self {A : Addr} (h1 : PySem.W.subIn K (.ref A) (.type "BaseException") = some true) (h2 : PySem.W.isClsIn K A = true) (h3 : PySem.W.typeIn K (.ref A) = some (.type "type")) (h4 : PySem.W.subIn K (.ref A) (.ref A) = some true) :
    PySem.W.exmOne K (.ref A) (.ref A) = some true := exm_is h1 h2 h3 h4
theorem exm_not {A B : Addr} (h1 : PySem.W.subIn K (.ref B) (.type "BaseException") = some true) (h2 : PySem.W.isClsIn K B = true) (h3 : PySem.W.typeIn K (.ref B) = some (.type "type")) (h4 : PySem.W.subIn K (.ref A) (.ref B) = some false) :
    PySem.W.exmOne K (.ref A) (.ref B) = some false := exm_is h1 h2 h3 h4
end
section
variable {P : Program} {w : World} {K : PySem.W.Frag} {mg : Str → Option Value} {base : Heap}
/-- the law itself: its own def stays in sight -/
theorem fnK {x : Str} {st : Stmt} {f : Addr} {fd : FuncData} {N ps : List Str} {k : Nat} {sp : Sp} (F : Fun K x x st f fd) (S : FnScope N ps (defScope st)) (len : ∀ vs H Q E, sp vs H Q E → vs.length = ps.length)
    (hbody : ∀ (f : Addr) (cdv : Value) (A : Around) (outer : List Env) (s : Shared) (H : Hp) (vs : List V) (Q : VK) (E : XK), Room k (A.deeper (envOfC x (defScope st) s.heap.objs.size f cdv)) → sp vs H Q E →
      ∃ t, PSs (cxOf (L2.CX P w) P w K mg base N x (defScope st) f cdv A outer s H E) (defBody st) t ∧ t { nx := fun _ H' => Q .non H', rt := Q } (start N vs) H) : FnOk P w K mg base (L2.CX P w) (k + 1) f fd ps sp := F.okX S len (hbody f)
end
theorem end_of {l : PySem.W.OpenLaw} {k : Nat} {q : Program} {loose : List Str} {XP : (Str → Option Value) → Heap → Prop} {YP : World → Heap → Prop} {d : DefRec} {K : Params → PySem.W.Frag} {sp : PySem.W.Frag → Sp}
    (hn : l.most = some 63) (hdf : d.params.defaults = []) (hr : Room k callerA) (hY : ∀ (w : World) (h : Heap), YP w h → (K w.params).In h)
    (hsp : ∀ (K : PySem.W.Frag) (H : Hp) (a : Addr) (ns : List Int), ns.length ≤ 63 → SqL K H a (ns.map V.int) → sp K [.ref a] H (fun v _ => v = .bl true) fun _ _ _ => False)
    (F : ∀ (w : World) (mg : Str → Option Value) (fa : Addr) (h : Heap), (K w.params).In h → h.Ns mainGlobals mg → mg d.name = some (.ref fa) →
      ∃ fd : FuncData, (∀ (s : Shared) (u : Value), BindsTo s fd ⟨[u], []⟩ [("script", u)]) ∧ ∀ base : Heap, (K w.params).In base → base.Ns mainGlobals mg → FnOk l.prog w (K w.params) mg base (L2.CX l.prog w) k fa fd ["script"] (sp (K w.params))) :
    PySem.W.WalkO q loose XP YP l.row.toRowW d [] (fun f vs => PySem.call f vs) :=
  walk_of (n := 63) (x := "script") (CX := fun w => L2.CX l.prog w) (sp := fun w => sp (K w.params)) hn (by decide) hdf hr hY F (fun _ H a ns h1 _ h3 => hsp _ H a ns h1 h3) fun _ _ _ _ _ z => by
    obtain ⟨_, _, _, _, _, _, _, _, _, _, _, _, z⟩ := z
    exact z.elim
end Lay
namespace LayR
open PySem PySem.Spec PyProof.Rows L2 RT
section
variable {prog : Program} {w : World} {A : Around} {E : Value → Shared → Prop} {s : Shared}
/-- S.extend(it), S an empty list, it a list's reverse iterator at its begin -/
theorem extend_rev {it l S : Addr} {items : Array Value} {res : Value} {c0 : Nat} {R : Result → Shared → Prop} (hh : A.handled = none) (hit : s.heap.IsRevIter it l ((items.size : Int) - 1)) (hl : s.heap.IsList l items) (hne : l ≠ it) (hn : items.size ≤ sizeLine)
    (hSi : S ≠ it) (hSl : S ≠ l) (hS : s.heap.get? S = some { cls := .type "list", data := .seq #[] c0 })
    (hR : ∀ h' tk acc c', (∀ b o, b ≠ S → b ≠ it → s.heap.get? b = some o → h'.get? b = some o) → h'.get? S = some { cls := .type "list", dict := none, data := .seq acc c', slots := #[] } →
      ItemsOf (fun i v => items[items.size - 1 - i]? = some v) acc items.size → R (.ok (.ret res)) { s with heap := h', toks := tk }) :
    wpAny (model prog w) A.in1 (Builtin.List.listExtendWith (.ref S) (.ref it) res)
      (fun fin s' => match fin with | .done f => R (.ok f) s' | .again c' => c'.quiet = true ∧ codeAny (model prog w) A c' R s') (fun e s' => R (.error e) s') s := by
  have W := (Walks.listRev (prog := prog) (w := w) (A := A.in1) hh it l hne items).toS
  have hSf : S ∉ [it, l] := by
    simp only [List.mem_cons, List.not_mem_nil, or_false, not_or]
    exact ⟨hSi, hSl⟩
  have hT : s.TypeIs (.ref it) "list_reverseiterator" := hit.typeIs
  have h1 : Builtin.List.listSameRef (.ref S) (.ref it) = false := by simp [Builtin.List.listSameRef, hSi]
  unfold Builtin.List.listExtendWith
  refine wpAny_bind (wpAny_typeOf hT ?_)
  rw [if_neg (by rw [h1]; decide)]
  refine wpAny_bind (wpAny_pyIter_revIter hit ?_)
  refine wpAny_bind (wpAny_holding ?_)
  unfold Builtin.List.listLengthHint
  refine wpAny_bind (wpAny_specialOf hT nolen_lri ?_)
  show wpAny _ A.in1 (specialOf (Value.ref it) (Str.ofString "__length_hint__") >>= _) _ _ _
  refine wpAny_bind (wpAny_specialOf hT hint_lri ?_)
  generalize hid : ("list_reverseiterator.__length_hint__" : String) = id0
  wp_delta
  rw [show splitId id0 = some ("list_reverseiterator", "__length_hint__") by subst hid; decide +kernel]
  subst hid
  refine wpAny_bind (wpAny_isInstance (b := true) hT (by rw [isSubtype_type]; kernel_rfl) (wpAny_pure ?_))
  rw [if_neg (by decide)]
  have e0 : ((items.size : Nat) : Int) - 1 - ((0 : Nat) : Int) = (items.size : Int) - 1 := by omega
  refine wpAny_pure ⟨plainId_quiet F.plain_extend_loop _, codeAny_extend_loopS W hn S hSf _ items.size 0 _ _ _ rfl (Nat.zero_le _) ⟨Nat.zero_le _, by rw [e0]; exact hit, hl⟩ hS (ItemsOf.nil _) fun s' acc' c' hm hS' hacc => ?_⟩
  rw [Moved.eq_with hm]
  refine hR s'.heap s'.toks acc' c' (fun b o hb hb2 e => hm.heap b o (fun hmem => ?_) e) hS' hacc
  rcases List.mem_cons.mp hmem with e' | hmem
  · exact hb e'
  · exact hb2 (List.mem_singleton.mp hmem)
theorem call_list_rev {it l : Addr} {items : Array Value} {Q : Value → Shared → Prop} (hh : A.handled = none) (hit : s.heap.IsRevIter it l ((items.size : Int) - 1)) (hl : s.heap.IsList l items) (hne : l ≠ it) (hn : items.size ≤ sizeLine)
    (hQ : ∀ h' tk acc c', (∀ b o, b ≠ it → s.heap.get? b = some o → h'.get? b = some o) → h'.get? s.heap.objs.size = some { cls := .type "list", dict := none, data := .seq acc c', slots := #[] } →
      ItemsOf (fun i v => items[items.size - 1 - i]? = some v) acc items.size → Q (.ref s.heap.objs.size) { s with heap := h', toks := tk }) :
    wpAny (model prog w) A (call (.type "list") [.ref it]) Q E s := by
  obtain ⟨oi, hoi, _⟩ := id hit
  obtain ⟨ol, hol, _⟩ := id hl
  have hSi : s.heap.objs.size ≠ it := Nat.ne_of_gt (Heap.lt_size hoi)
  have hSl : s.heap.objs.size ≠ l := Nat.ne_of_gt (Heap.lt_size hol)
  refine callType_codes (Q₁ := fun obj s₁ => obj = .ref s.heap.objs.size ∧ s₁ = { s with heap := s.heap.push { cls := .type "list", data := .seq #[] } }) F.called_list (F.typeCall_list_1 _) F.entry_list_init (code_list_new _ ⟨rfl, rfl⟩) fun obj s₁ h₁ => ?_
  obtain ⟨rfl, rfl⟩ := h₁
  have hS : (s.heap.push { cls := .type "list", data := .seq #[] }).get? s.heap.objs.size = some { cls := .type "list", data := .seq #[] } := Heap.get?_push_size _ rfl
  refine ⟨⟨_, hS, rfl⟩, F.args_list_init_2 _ _, ?_⟩
  show wpAny _ _ (do let old ← Builtin.List.listItems (.ref s.heap.objs.size); Builtin.List.listUpdate (.ref s.heap.objs.size) (fun _ => #[]); letGo old.toList.reverse; Builtin.List.listExtendWith (.ref s.heap.objs.size) (.ref it) .none) _ _ _
  refine wpAny_bind ?_
  unfold Builtin.List.listItems
  refine wpAny_bind (wpAny_seqItems hS rfl (wpAny_pure ?_))
  show wpAny _ _ (updateSeq s.heap.objs.size (fun _ => #[]) >>= fun _ => letGo (#[] : Array Value).toList.reverse >>= fun _ => Builtin.List.listExtendWith (.ref s.heap.objs.size) (.ref it) .none) _ _ _
  refine wpAny_bind (wpAny_updateSeq hS rfl ?_)
  have hS2 := Heap.get?_update_self (Obj.mapSeq (fun _ => (#[] : Array Value))) hS rfl
  have oth : ∀ b o, b ≠ s.heap.objs.size → s.heap.get? b = some o → ((s.heap.push { cls := .type "list", data := .seq #[] }).update s.heap.objs.size (Obj.mapSeq (fun _ => (#[] : Array Value)))).get? b = some o :=
    fun b o hb e => (Heap.get?_update_other _ _ (Ne.symm hb)).trans (Heap.get?_push_of_some _ e)
  refine wpAny_bind (wpAny_letGo ?_)
  refine extend_rev (A := A.in1) hh (hit.at fun o e => oth it o hSi.symm e) (hl.at fun o e => oth l o hSl.symm e) hne hn hSi hSl hS2 fun h' tk acc c' hk hS' hacc => ?_
  exact ⟨rfl, hQ h' tk acc c' (fun b o hb e => hk b o (Nat.ne_of_lt (Heap.lt_size e)) hb (oth b o (Nat.ne_of_lt (Heap.lt_size e)) e)) hS' hacc⟩
end
/-- list(reversed(x)), x a list -/
def rLstRev (K : PySem.W.Frag) (te : TE) : TE := fun σ H Q => te σ H fun v H1 => ∃ (a : Addr) (xs : List V), v = .ref a ∧ SqL K H1 a xs ∧ Lay.NewL xs.reverse H1 Q
section
variable {X : Cx}
theorem pe_lstRev {e : Expr} {te : TE} {p p2 pos pos2 : Pos} (hc : X.calm = true) (hg : Gl X "list") (hm : X.mg "list" = none) (hg2 : Gl X "reversed") (hm2 : X.mg "reversed" = none) (he : PE X e te)
    (hs : starEach [e] X.env = (false, eval e X.env) :: starEach [] X.env := by rfl)
    (hs2 : starEach [.Call (.Name "reversed" p2) [e] [] pos2] X.env = (false, eval (.Call (.Name "reversed" p2) [e] [] pos2) X.env) :: starEach [] X.env := by rfl) :
    PE X (.Call (.Name "list" p) [.Call (.Name "reversed" p2) [e] [] pos2] [] pos) (rLstRev X.K te) := by
  refine ⟨fun pins s σ H Q I h => ?_⟩
  refine Call_ (ld_blt I hg hm boot_list (PyProof.Rows.callWith_type1 (args_cons (Call_ (ld_blt I hg2 hm2 PyProof.Rows.boot_reversed (PyProof.Rows.callWith_type1 (args_cons (thn (he.run pins s σ H _ I h) fun u s1 ⟨v, H1, I1, r1, q1⟩ => args_nil ?_) hs) hs rfl))) hs2) hs2 rfl))
  obtain ⟨a, xs, ev, hq, hz2, q⟩ := q1
  subst ev
  obtain rfl : u = Value.ref a := r1
  obtain ⟨its, rv, p', hz⟩ := I1.list hq
  refine call_reversed_list p'.isList (args_nil ?_)
  have k0 : ∀ b o, s1.heap.get? b = some o → (s1.heap.push (revObj a ((its.toArray.size : Int) - 1))).get? b = some o := fun b o e => Heap.get?_push_of_some _ e
  have I2 : Inv X pins σ H1 { s1 with heap := s1.heap.push (revObj a ((its.toArray.size : Int) - 1)) } := I1.kept (t' := s1.toks) k0
  obtain ⟨f0, f1, f2, f3, f4, f5⟩ := I1.fpOk (H' := H1) (b := s1.heap.objs.size) (Nat.le_refl _) (I1.hok.fresh (Nat.le_refl _))
  have hl := p'.isList
  obtain ⟨ol, hol, _⟩ := id hl
  have hne : a ≠ s1.heap.objs.size := Nat.ne_of_lt (Heap.lt_size hol)
  have hn : its.toArray.size ≤ sizeLine := by rw [List.size_toArray, ← rv.length]; exact hz
  refine call_list_rev (s := { s1 with heap := s1.heap.push (revObj a ((its.toArray.size : Int) - 1)) }) (I1.ok.hd hc) ⟨_, Heap.get?_push_size _ rfl, rfl, rfl⟩ (hl.push _) hne hn fun h' tk acc c' hk hS' hi => ?_
  have fp : FpOk X pins H1 s1.heap.objs.size := I1.fpOk (H' := H1) (b := s1.heap.objs.size) (Nat.le_refl _) (I1.hok.fresh (Nat.le_refl _))
  have I3 := I2.turnedNew (t' := tk) (ch := [s1.heap.objs.size]) (ob := .lst xs.reverse) (fun b o hb e => hk b o (by simpa using hb) e) (by intro b hb; obtain rfl := List.mem_singleton.mp hb; exact fp) (Nat.le_refl _)
    (show ObjOk X.prog X.w _ _ _ (.lst xs.reverse) from ⟨by rw [List.length_reverse]; exact hz, acc.toList, c', vals_rev rv hi, ?_⟩)
  · exact ⟨.ref _, _, I3, rfl, q _ (I2.hok.fresh (Nat.le_refl _))⟩
  · rw [Array.toArray_toList]
    exact hS'
end
end LayR
namespace Lay
open PySem PySem.Spec PyProof.Rows L2 Evl
section
variable {X : Cx}
/-- tuple(x) -/
def rTuple (K : PySem.W.Frag) : List V → Hp → VK → Prop := fun xs H Q => ∃ p ys, xs = [.ref p] ∧ ((SqL K H p ys ∧ ∀ l, H l = none → Q (.ref l) (upd H l (.tup ys))) ∨ (SqT K H p ys ∧ Q (.ref p) H))
theorem c_tuple : CallR X (.type "tuple") (rTuple X.K) := call_tuple_of
end
section
variable {K : PySem.W.Frag} {σ : L2.St} {H : Hp} {D : Ends} {te : TE} {Q : VK} {p q : Addr} {xs ys : List V} {ns ms : List Int} {v : V} {n : Nat} {i j k l : Int} {t : TGs} {g : TG} {R : L2.St → Hp → Prop}
theorem r_asg (h : te σ H fun x H1 => g x σ H1 D.nx) : tAsg te g D σ H := h
theorem r_gTup (h : SqT K H p xs) (l : xs.length = n) (q : t xs σ H R) : gTup K n t (.ref p) σ H R := ⟨p, xs, rfl, h, l, q⟩
theorem r_gUnl (h : SqL K H p xs) (l : xs.length = n) (q : t xs σ H R) : gUnl K n t (.ref p) σ H R := ⟨p, xs, rfl, h, l, q⟩
theorem r_gCons {u : TGs} (h : g v σ H fun σ' H' => u xs σ' H' R) : gCons g u (v :: xs) σ H R := ⟨v, xs, rfl, h⟩
theorem r_gNil (h : R σ H) : gNil [] σ H R := ⟨rfl, h⟩
theorem r_gName {m : Nat} (h : R (σ.set m (some v)) H) : gName m v σ H R := h
theorem r_revV (e : σ[n]? = some (some (.ref p))) (h : SqL K H p (ns.map V.int)) (l : ns.length ≤ 100000) (q : ∀ p2 H2, H p2 = none → Ex H H2 → H2 p2 = some (.lst (ns.reverse.map V.int)) → Q (.ref p2) H2) : LayR.rLstRev K (tVar n) σ H Q :=
  ⟨_, e, p, ns.map V.int, rfl, h, r_newL (by rw [List.length_reverse, List.length_map]; exact l) fun p2 H2 n e h => q p2 H2 n e (by rw [List.map_reverse]; exact h)⟩
/-! ### new lists of ints -/
theorem r_newI0 (h : ∀ p H2, H p = none → Ex H H2 → H2 p = some (.lst (([] : List Int).map V.int)) → Q (.ref p) H2) : NewL [] H Q := r_newL (by decide) h
theorem r_newI1 (h : ∀ p H2, H p = none → Ex H H2 → H2 p = some (.lst ([i].map V.int)) → Q (.ref p) H2) : NewL [.int i] H Q := r_newL (len3 rfl) h
theorem r_newI2 (h : ∀ p H2, H p = none → Ex H H2 → H2 p = some (.lst ([i, j].map V.int)) → Q (.ref p) H2) : NewL [.int i, .int j] H Q := r_newL (len3 rfl) h
theorem r_newI3 (h : ∀ p H2, H p = none → Ex H H2 → H2 p = some (.lst ([i, j, k].map V.int)) → Q (.ref p) H2) : NewL [.int i, .int j, .int k] H Q := r_newL (len3 rfl) h
theorem r_newI4 (h : ∀ p H2, H p = none → Ex H H2 → H2 p = some (.lst ([i, j, k, l].map V.int)) → Q (.ref p) H2) : NewL [.int i, .int j, .int k, .int l] H Q := r_newL (len3 rfl) h
theorem r_catI (h : H p = some (.lst (ns.map V.int))) (h' : H q = some (.lst (ms.map V.int))) (l : ns.length + ms.length ≤ 100000) (k : ∀ p2 H2, H p2 = none → Ex H H2 → H2 p2 = some (.lst ((ns ++ ms).map V.int)) → Q (.ref p2) H2) : rCat (.ref p) (.ref q) H Q :=
  r_cat h h' (by rw [List.length_map, List.length_map]; exact l) fun p2 H2 n e h => k p2 H2 n e (by rw [List.map_append]; exact h)
theorem r_appI (h : H p = some (.lst (ns.map V.int))) (l : ns.length < 100000) (q : ∀ H2, ExB p H H2 → H2 p = some (.lst ((ns ++ [i]).map V.int)) → (∀ a, H a = none → H2 a = none) → Q .non H2) : rAppend (.ref p) [.int i] H Q :=
  r_app h (by rw [List.length_map]; exact l) fun H2 e h2 f => q H2 e (by rw [List.map_append]; exact h2) f
theorem r_listI (h : SqL K H p (ns.map V.int)) (k : ∀ p2 H2, H p2 = none → Ex H H2 → H2 p2 = some (.lst (ns.map V.int)) → Q (.ref p2) H2) : rList K [.ref p] H Q := r_list h k
theorem r_listT (h : SqT K H p xs) (k : ∀ p2 H2, H p2 = none → Ex H H2 → H2 p2 = some (.lst xs) → Q (.ref p2) H2) : rList K [.ref p] H Q := ⟨p, xs, rfl, .inr h, fun p2 n => k p2 _ n (Ex.new n) upd_same⟩
theorem r_tupleL (h : SqL K H p xs) (k : ∀ p2 H2, H p2 = none → Ex H H2 → H2 p2 = some (.tup xs) → Q (.ref p2) H2) : rTuple K [.ref p] H Q := ⟨p, xs, rfl, .inl ⟨h, fun p2 n => k p2 _ n (Ex.new n) upd_same⟩⟩
theorem r_tupleT (h : SqT K H p xs) (k : Q (.ref p) H) : rTuple K [.ref p] H Q := ⟨p, xs, rfl, .inr ⟨h, k⟩⟩
theorem r_lenT (h : SqT K H p xs) (q : Q (.int xs.length) H) : rLen K [.ref p] H Q := ⟨p, xs, rfl, .inr h, q⟩
/-- ns[i] = z -/
theorem r_setI {Z : Hp → Prop} {z : Int} (h : H p = some (.lst (ns.map V.int))) (h0 : 0 ≤ i) (h1 : i < ns.length) (q : ∀ H2, ExB p H H2 → H2 p = some (.lst ((ns.set i.toNat z).map V.int)) → (∀ a, H a = none → H2 a = none) → Z H2) : rSetL (.ref p) (.int i) (.int z) H Z :=
  r_setL h h0 (by rw [List.length_map]; exact h1) fun H2 e h2 f => q H2 e (by rw [List.map_set]; exact h2) f
/-- ns[b:e] -/
theorem cut_nat {b e : Nat} (ns : List Int) (h1 : b ≤ e) (h2 : e ≤ ns.length) : cutV (ns.map V.int) (some (b : Int)) (some (e : Int)) = ((ns.drop b).take (e - b)).map V.int := by
  rw [cut_ints, HT.sIx_nat, HT.sIx_nat, Nat.min_eq_left (by omega), Nat.min_eq_left (by omega)]
theorem cut_from {b : Nat} (ns : List Int) (h1 : b ≤ ns.length) : cutV (ns.map V.int) (some (b : Int)) none = (ns.drop b).map V.int := by
  rw [cut_ints, HT.sIx_nat, Nat.min_eq_left (by omega)]
  show ((ns.drop b).take (ns.length - b)).map V.int = _
  rw [List.take_of_length_le (by rw [List.length_drop]; omega)]
theorem cut_to {e : Nat} (ns : List Int) (h1 : e ≤ ns.length) : cutV (ns.map V.int) none (some (e : Int)) = (ns.take e).map V.int := by
  rw [cut_ints, HT.sIx_nat, Nat.min_eq_left (by omega)]
  show ((ns.drop 0).take (e - 0)).map V.int = _
  rw [List.drop_zero, Nat.sub_zero]
theorem r_slBE {b e : Nat} {x y : Int} (h : SqL K H p (ns.map V.int)) (hx : x = (b : Int)) (hy : y = (e : Int)) (h1 : b ≤ e) (h2 : e ≤ ns.length) (q : ∀ p2 H2, H p2 = none → Ex H H2 → H2 p2 = some (.lst (((ns.drop b).take (e - b)).map V.int)) → Q (.ref p2) H2) : rSlL K (.ref p) (some x) (some y) H Q :=
  r_slL h fun p2 H2 n e h => q p2 H2 n e (by rw [hx, hy, cut_nat ns h1 h2] at h; exact h)
theorem r_slB {b : Nat} {x : Int} (h : SqL K H p (ns.map V.int)) (hx : x = (b : Int)) (h1 : b ≤ ns.length) (q : ∀ p2 H2, H p2 = none → Ex H H2 → H2 p2 = some (.lst ((ns.drop b).map V.int)) → Q (.ref p2) H2) : rSlL K (.ref p) (some x) none H Q :=
  r_slL h fun p2 H2 n e h => q p2 H2 n e (by rw [hx, cut_from ns h1] at h; exact h)
theorem r_slE {e : Nat} {y : Int} (h : SqL K H p (ns.map V.int)) (hy : y = (e : Int)) (h1 : e ≤ ns.length) (q : ∀ p2 H2, H p2 = none → Ex H H2 → H2 p2 = some (.lst ((ns.take e).map V.int)) → Q (.ref p2) H2) : rSlL K (.ref p) none (some y) H Q :=
  r_slL h fun p2 H2 n e h => q p2 H2 n e (by rw [hy, cut_to ns h1] at h; exact h)
/-! ### isinstance of tuples -/
theorem r_isiT {nm : String} {b : Bool} (h : PySem.W.kitOne K (.type "tuple") (.type nm) = some b) (hp : H p = some (.tup xs)) (q : Q (.bl b) H) : rIsi K [.ref p, .ty nm] H Q := ⟨.ref p, .ty nm, .type "tuple", .type nm, b, rfl, .ty nm, .base (.tup hp), h, q⟩
theorem r_isTT (hp : H p = some (.tup xs)) (q : Q (.bl true) H) : rIsi K [.ref p, .ty "tuple"] H Q := r_isiT (kit_ty (by decide +kernel)) hp q
theorem r_isTL (hp : H p = some (.tup xs)) (q : Q (.bl false) H) : rIsi K [.ref p, .ty "list"] H Q := r_isiT (kit_ty (by decide +kernel)) hp q
theorem r_isLT (hp : H p = some (.lst xs)) (q : Q (.bl false) H) : rIsi K [.ref p, .ty "tuple"] H Q := r_isiL (kit_ty (by decide +kernel)) hp q
end
/-! ### heaps, backwards -/
theorem freshB {p l : Addr} {A B : Hp} (e : ExB p A B) (n : l ≠ p) (h : B l = none) : A l = none := by
  cases hx : A l with
  | none => rfl
  | some o =>
    have := e _ _ n hx
    rw [h] at this
    cases this
theorem ext {K : PySem.W.Frag} {H H' : Hp} {a : Addr} {xs : List V} (e : Ex H H') (h : SqT K H a xs) : SqT K H' a xs := ex_t e h
theorem exb_t {K : PySem.W.Frag} {l : Addr} {H H' : Hp} {a : Addr} {xs : List V} (e : ExB l H H') (n : a ≠ l) (h : SqT K H a xs) : SqT K H' a xs := by
  rcases h with (h | ⟨o, h⟩) | h
  · exact .inl (.inl (e _ _ n h))
  · exact .inl (.inr ⟨o, e _ _ n h⟩)
  · exact .inr h
theorem ne_pur {H : Hp} {p l : Addr} (h : Pur H p) (n : H l = none) : p ≠ l := (h.ne n).symm
section
variable {K : PySem.W.Frag} {σ : L2.St} {H : Hp} {D : Ends} {te : TE} {g : TG} {tb : TS} {tt : TT} {Q : VK} {a : Addr} {xs : List V} {ns : List Int} {m : Nat} {vs : List Nat}
/-- over a tuple -/
theorem forT (hx : SqT K H a xs) (Pv : Nat → L2.St → Hp → Prop) (h0 : Pv 0 σ H) (hl : ∀ i s h, i ≤ xs.length → Pv i s h → SqT K h a xs)
    (hs : ∀ i x s h, xs[i]? = some x → Pv i s h → g x s h fun s2 h2 => tb ⟨Pv (i + 1), D.rt, D.nx, Pv (i + 1)⟩ s2 h2) (hd : ∀ s h, Pv xs.length s h → D.nx s h) : ItT K (.ref a) H (ForW g tb D σ) :=
  ⟨a, rfl, ⟨xs, hx⟩, for_tup (K := K) (a := a) (xs := xs) Pv h0 hl hs hd⟩
theorem lcT (hx : SqT K H a xs) (Pv : Addr → Nat → Hp → Prop) (h0 : ∀ p h, H p = none → Ex H h → h p = some (.lst []) → Pv p 0 h) (hl : ∀ p i h, i ≤ xs.length → Pv p i h → SqT K h a xs)
    (hs : ∀ p (i : Nat) x h, xs[i]? = some x → Pv p i h → te ((wipe σ vs).set m (some x)) h (AppW p (Pv p (i + 1)))) (hd : ∀ p h, Pv p xs.length h → Q (.ref p) h)
    (hw : ∀ x, wipe ((wipe σ vs).set m (some x)) vs = wipe σ vs) : ItT K (.ref a) H (LcW (gName m) tYes te vs σ Q) :=
  ⟨a, rfl, ⟨xs, hx⟩, fun p hp => lc_tup (K := K) (a := a) (xs := xs) (Pv p) (h0 p _ hp (Ex.new hp) upd_same) (fun i h hi q => hl p i h hi q) (fun i x h hi q => ⟨hw x, yesL (hs p i x h hi q)⟩) (hd p)⟩
/-- [one for one in xs] -/
theorem lcLcopy (hx : SqL K H a xs) (l : xs.length ≤ 100000) (e : (wipe σ vs).length > m) (q : ∀ p H2, H p = none → Ex H H2 → H2 p = some (.lst xs) → Q (.ref p) H2)
    (hw : ∀ x, wipe ((wipe σ vs).set m (some x)) vs = wipe σ vs) : ItL K (.ref a) H (LcW (gName m) tYes (tVar m) vs σ Q) := by
  refine lcL hx (fun p i h => h p = some (.lst (xs.take i)) ∧ Ex H h ∧ H p = none) (fun p h n e h1 => ⟨h1, e, n⟩) (fun p i h _ ⟨_, e, _⟩ => ex_l e hx) (fun p i x h hi ⟨h1, e1, n⟩ => ?_) (fun p h ⟨h1, e1, n⟩ => q p h n e1 (by rw [List.take_length] at h1; exact h1)) hw
  have hil := (List.getElem?_eq_some_iff.mp hi).1
  refine r_var (v := x) (by rw [List.getElem?_set_self e]) (appW h1 (by rw [List.length_take]; omega) fun H5 e5 h5 => ⟨?_, ExB.ex e1 e5 n, n⟩)
  rw [h5, List.take_succ, hi]
  rfl
theorem lcTcopy (hx : SqT K H a xs) (l : xs.length ≤ 100000) (e : (wipe σ vs).length > m) (q : ∀ p H2, H p = none → Ex H H2 → H2 p = some (.lst xs) → Q (.ref p) H2)
    (hw : ∀ x, wipe ((wipe σ vs).set m (some x)) vs = wipe σ vs) : ItT K (.ref a) H (LcW (gName m) tYes (tVar m) vs σ Q) := by
  refine lcT hx (fun p i h => h p = some (.lst (xs.take i)) ∧ Ex H h ∧ H p = none) (fun p h n e h1 => ⟨h1, e, n⟩) (fun p i h _ ⟨_, e, _⟩ => ex_t e hx) (fun p i x h hi ⟨h1, e1, n⟩ => ?_) (fun p h ⟨h1, e1, n⟩ => q p h n e1 (by rw [List.take_length] at h1; exact h1)) hw
  have hil := (List.getElem?_eq_some_iff.mp hi).1
  refine r_var (v := x) (by rw [List.getElem?_set_self e]) (appW h1 (by rw [List.length_take]; omega) fun H5 e5 h5 => ⟨?_, ExB.ex e1 e5 n, n⟩)
  rw [h5, List.take_succ, hi]
  rfl
end
/-! ### tuples of ints compared -/
theorem sh_tints (ns : List Int) : SeqAt.shaped (.tuple (ns.map PyData.int)) = true := by
  have h := ints_depth ns
  refine shape_of ?_ ?_
  · simp only [PyData.canLay0]
    exact ints_lay ns
  · simp only [PyData.depth]
    omega
theorem dp_tints {K : PySem.W.Frag} {H : Hp} {p : Addr} {ns : List Int} (h : SqT K H p (ns.map V.int)) : Dp K H (.ref p) (.tuple (ns.map PyData.int)) := .tup h (dpa_ints ns)
/-! ### lists of lists of ints -/
def ptab (t : List (List Int)) : PyData := .list (t.map fun ns => PyData.list (ns.map PyData.int))
theorem tab_lay : ∀ t : List (List Int), PyData.canLayAll0 (t.map fun ns => PyData.list (ns.map PyData.int)) = true
  | [] => rfl
  | ns :: t => by
    have h := tab_lay t
    simp only [List.map_cons, PyData.canLayAll0, PyData.canLay0, ints_lay, Bool.true_and]
    exact h
theorem tab_depth : ∀ t : List (List Int), PyData.depthAll (t.map fun ns => PyData.list (ns.map PyData.int)) ≤ 2
  | [] => by simp [PyData.depthAll]
  | ns :: t => by
    have h := tab_depth t
    have h2 := ints_depth ns
    simp only [List.map_cons, PyData.depthAll, PyData.depth]
    omega
theorem sh_tab (t : List (List Int)) : SeqAt.shaped (ptab t) = true := by
  have h := tab_depth t
  refine shape_of ?_ ?_
  · simp only [ptab, PyData.canLay0]
    exact tab_lay t
  · simp only [ptab, PyData.depth]
    omega
theorem dp_tab2 {K : PySem.W.Frag} {H : Hp} {p a b : Addr} {ns ms : List Int} (h : SqL K H p [.ref a, .ref b]) (ha : SqL K H a (ns.map V.int)) (hb : SqL K H b (ms.map V.int)) : Dp K H (.ref p) (ptab [ns, ms]) :=
  .lst h (.cons (dp_ints ha) (.cons (dp_ints hb) .nil))
/-! ### conditions that are values -/
section
variable {K : PySem.W.Frag} {σ : L2.St} {H : Hp} {Q : VK} {x y : V} {i j : Int} {P : Prop} [Decidable P]
theorem r_iteC (h : Q (.int (if P then i else j)) H) : if decide P = true then tC (.int i) σ H Q else tC (.int j) σ H Q := by
  by_cases c : P
  · rw [if_pos (decide_eq_true c)]
    rw [if_pos c] at h
    exact h
  · rw [if_neg (by rw [decide_eq_false c]; decide)]
    rw [if_neg c] at h
    exact h
theorem r_chain {r r' : R2} {ta tb tc : TE} (h : ta σ H fun x H1 => tb σ H1 fun y H2 => r x y H2 fun z H3 => ∃ k, z = .bl k ∧ (if k = true then tc σ H3 fun w' H4 => r' y w' H4 Q else Q (.bl false) H3)) : tChain r r' ta tb tc σ H Q := h
theorem r_tIfI {c : TT} (h : c σ H fun b H1 => if b = true then tC (.int i) σ H1 Q else tC (.int j) σ H1 Q) : tIf c (tC (.int i)) (tC (.int j)) σ H Q := h
theorem r_ixT0 {p : Addr} {xs : List V} {v : V} (h : SqT K H p (v :: xs)) (q : Q v H) : rIxT K (.ref p) (.int 0) H Q := r_ixT h (atI_V (j := 0) rfl rfl) q
theorem r_ixT1 {p : Addr} {xs : List V} {a v : V} (h : SqT K H p (a :: v :: xs)) (q : Q v H) : rIxT K (.ref p) (.int 1) H Q := r_ixT h (atI_V (j := 1) rfl rfl) q
theorem r_ixT2 {p : Addr} {xs : List V} {a b v : V} (h : SqT K H p (a :: b :: v :: xs)) (q : Q v H) : rIxT K (.ref p) (.int 2) H Q := r_ixT h (atI_V (j := 2) rfl rfl) q
end
/-! ### the greatest of ints -/
def mx (a b : Int) : Int := if b > a then b else a
def mn (a b : Int) : Int := if b < a then b else a
def mxl : List Int → Int
  | [] => 0
  | z :: ns => ns.foldl (fun a b => if b > a then b else a) z
theorem mxf_ge : ∀ (ns : List Int) (z : Int), z ≤ ns.foldl (fun a b => if b > a then b else a) z ∧ ∀ y ∈ ns, y ≤ ns.foldl (fun a b => if b > a then b else a) z
  | [], z => ⟨Int.le_refl z, fun y h => (List.not_mem_nil h).elim⟩
  | x :: ns, z => by
    have ih := mxf_ge ns (if x > z then x else z)
    rw [List.foldl_cons]
    refine ⟨Int.le_trans ?_ ih.1, fun y hy => ?_⟩
    · split <;> omega
    · rcases List.mem_cons.mp hy with q | q
      · rw [q]
        refine Int.le_trans ?_ ih.1
        split <;> omega
      · exact ih.2 y q
theorem mxf_mem : ∀ (ns : List Int) (z : Int), ns.foldl (fun a b => if b > a then b else a) z ∈ z :: ns
  | [], z => List.mem_cons_self
  | x :: ns, z => by
    have ih := mxf_mem ns (if x > z then x else z)
    rw [List.foldl_cons]
    rcases List.mem_cons.mp ih with q | q
    · rw [q]
      by_cases c : x > z
      · rw [if_pos c]; exact List.mem_cons_of_mem _ List.mem_cons_self
      · rw [if_neg c]; exact List.mem_cons_self
    · exact List.mem_cons_of_mem _ (List.mem_cons_of_mem _ q)
theorem mxl_mem {ns : List Int} (h : 0 < ns.length) : mxl ns ∈ ns := by
  cases ns with
  | nil => exact absurd h (Nat.lt_irrefl 0)
  | cons z ns => exact mxf_mem ns z
theorem mxl_ge {ns : List Int} {y : Int} (h : y ∈ ns) : y ≤ mxl ns := by
  cases ns with
  | nil => exact (List.not_mem_nil h).elim
  | cons z ns =>
    rcases List.mem_cons.mp h with q | q
    · rw [q]; exact (mxf_ge ns z).1
    · exact (mxf_ge ns z).2 y q
section
variable {K : PySem.W.Frag} {σ : L2.St} {H : Hp} {Q : VK} {p : Addr} {xs : List V} {ns : List Int} {i j k : Int} {a b : Bool} {n : Nat}
theorem r_maxI (h : SqL K H p (ns.map V.int)) (l : 0 < ns.length) (q : Q (.int (mxl ns)) H) : rMax K [.ref p] H Q :=
  r_max h l fun m hm hge => by
    have a := hge _ (mxl_mem l)
    have b := mxl_ge hm
    have e : m = mxl ns := by omega
    rw [e]
    exact q
theorem dB {a b : Bool} : decide (V.bl a = V.bl b) = decide (a = b) := by cases a <;> cases b <;> rfl
theorem r_eqB (h : Q (.bl (decide (a = b))) H) : rEq (.bl a) (.bl b) H Q := ⟨rfl, by rw [dB]; exact h⟩
theorem r_neB (h : Q (.bl (!decide (a = b))) H) : rNe (.bl a) (.bl b) H Q := ⟨rfl, by rw [dB]; exact h⟩
/-- xs * k -/
theorem r_repG (h : H p = some (.lst xs)) (h0 : 0 ≤ k) (h1 : xs.length * k.toNat ≤ 100000) (h2 : k ≤ 1000000) (q : ∀ p2 H2, H p2 = none → Ex H H2 → H2 p2 = some (.lst (List.replicate k.toNat xs).flatten) → Q (.ref p2) H2) : rRep (.ref p) (.int k) H Q :=
  ⟨p, k, xs, rfl, rfl, h, by omega, by omega, sz_of h1, fun p2 n => q p2 _ n (Ex.new n) upd_same⟩
def rStrI : List V → Hp → VK → Prop := fun xs H Q => ∃ i : Int, xs = [.int i] ∧ i.natAbs.log2 < 1920 ∧ Q (.str (toString i)) H
def rLenS : List V → Hp → VK → Prop := fun xs H Q => ∃ z : Str, xs = [.str z] ∧ z.length ≤ sizeLine ∧ Q (.int z.length) H
theorem r_strI (h0 : -1000000000 ≤ i) (h1 : i ≤ 1000000000) (q : Q (.str (toString i)) H) : rStrI [.int i] H Q := ⟨i, rfl, tell_int h0 h1, q⟩
theorem r_lenS {z : Str} (h : z.length ≤ 100000) (q : Q (.int z.length) H) : rLenS [.str z] H Q := ⟨z, rfl, sz_of h, q⟩
end
section
variable {X : Cx}
theorem c_str : CallR X (.type "str") rStrI := call_str_int
theorem c_lenS : CallR X (.builtin "len") rLenS := call_len_str
end
section
variable {K : PySem.W.Frag} {σ : L2.St} {H : Hp} {te : TE} {Q : VK} {m : Nat} {vs : List Nat} {i j : Int}
theorem lcR2 (h1 : -1000000000 ≤ i ∧ i ≤ 1000000000) (h2 : -1000000000 ≤ j ∧ j ≤ 1000000000) (Pv : Addr → Nat → Hp → Prop) (h0 : ∀ p h, H p = none → Ex H h → h p = some (.lst []) → Pv p 0 h)
    (hs : ∀ p (k : Nat) h, i + (k : Int) < j → Pv p k h → te ((wipe σ vs).set m (some (.int (i + k)))) h (AppW p (Pv p (k + 1)))) (hd : ∀ p h, Pv p (j - i).toNat h → Q (.ref p) h)
    (hw : ∀ x, wipe ((wipe σ vs).set m (some x)) vs = wipe σ vs) : ItR2 [.int i, .int j] H (LcW (gName m) tYes te vs σ Q) := by
  refine ⟨i, j, rfl, ⟨by omega, by omega, by omega, by omega⟩, fun p hp => lc_range (lo := i) (n := (j - i).toNat) (Pv p) (h0 p _ hp (Ex.new hp) upd_same) (fun k h hk q => ?_) (hd p)⟩
  exact ⟨hw _, yesL (hs p k h (by omega) q)⟩
/-- a list of ints by a comprehension over a range that only reads and calls what adds to the heap -/
theorem lcF1 {f : Nat → Int} (h1 : -1000000000 ≤ j) (h2 : j ≤ 90000)
    (hs : ∀ (k : Nat) h (R : VK), (k : Int) < j → Ex H h → (∀ h2, Ex h h2 → R (.int (f k)) h2) → te ((wipe σ vs).set m (some (.int k))) h R)
    (hd : ∀ p h, H p = none → Ex H h → h p = some (.lst (((List.range j.toNat).map f).map V.int)) → Q (.ref p) h)
    (hw : ∀ x, wipe ((wipe σ vs).set m (some x)) vs = wipe σ vs) : ItR1 [.int j] H (LcW (gName m) tYes te vs σ Q) := by
  refine lcR1 h1 (by omega) (fun p k h => h p = some (.lst (((List.range k).map f).map V.int)) ∧ Ex H h ∧ H p = none) (fun p h n e hp => ⟨hp, e, n⟩) (fun p k h hk ⟨hp, e, n⟩ => ?_) (fun p h ⟨hp, e, n⟩ => hd p h n e hp) hw
  refine hs k h _ hk e fun h2 e2 => appW (e2 _ _ hp) (by rw [List.length_map, List.length_map, List.length_range]; omega) fun H5 e5 h5 => ⟨?_, ExB.ex (e.trans e2) e5 n, n⟩
  rw [h5, List.range_succ, List.map_append, List.map_append]
  rfl
theorem lcF2 {f : Nat → Int} (h1 : -1000000000 ≤ i ∧ i ≤ 1000000000) (h2 : -1000000000 ≤ j ∧ j ≤ 1000000000) (h3 : j - i ≤ 90000)
    (hs : ∀ (k : Nat) h (R : VK), i + (k : Int) < j → Ex H h → (∀ h2, Ex h h2 → R (.int (f k)) h2) → te ((wipe σ vs).set m (some (.int (i + k)))) h R)
    (hd : ∀ p h, H p = none → Ex H h → h p = some (.lst (((List.range (j - i).toNat).map f).map V.int)) → Q (.ref p) h)
    (hw : ∀ x, wipe ((wipe σ vs).set m (some x)) vs = wipe σ vs) : ItR2 [.int i, .int j] H (LcW (gName m) tYes te vs σ Q) := by
  refine lcR2 h1 h2 (fun p k h => h p = some (.lst (((List.range k).map f).map V.int)) ∧ Ex H h ∧ H p = none) (fun p h n e hp => ⟨hp, e, n⟩) (fun p k h hk ⟨hp, e, n⟩ => ?_) (fun p h ⟨hp, e, n⟩ => hd p h n e hp) hw
  refine hs k h _ hk e fun h2 e2 => appW (e2 _ _ hp) (by rw [List.length_map, List.length_map, List.length_range]; omega) fun H5 e5 h5 => ⟨?_, ExB.ex (e.trans e2) e5 n, n⟩
  rw [h5, List.range_succ, List.map_append, List.map_append]
  rfl
end
theorem sq_fresh {K : PySem.W.Frag} {H0 H1 H2 : Hp} {s p : Addr} {xs : List V} (h0 : SqL K H0 s xs) (np : H0 p = none) (h : SqL K H1 s xs) (e : ExB p H1 H2) : SqL K H2 s xs := by
  rcases h0 with (h0 | ⟨o, h0⟩) | h0
  · exact exb_l e (ne_of_none h0 np) h
  · exact exb_l e (ne_of_none h0 np) h
  · exact .inr h0
end Lay
local macro_rules | `(tactic| walk_at "hp") => `(tactic| first
  | assumption
  | (refine' Lay.ex_at (by assumption) ?a1; (case a1 => walk_at "hp"))
  | (refine' Lay.exb_at (by assumption) ?a1 ?a2; (case a1 => walk_at "ne"); (case a2 => walk_at "hp")))
local macro_rules | `(tactic| walk_at "hpe") => `(tactic| first
  | assumption
  | (refine' Lay.ex_at (by assumption) ?a1; (case a1 => walk_at "hpe")))
local macro_rules | `(tactic| walk_at "ne") => `(tactic| first
  | assumption
  | exact Ne.symm (by assumption)
  | (refine' L2.ne_of_none (H := ?hh) (o := ?oo) ?a1 ?a2; (case a2 => assumption); (case a1 => walk_at "hp"))
  | (refine' Ne.symm (L2.ne_of_none (H := ?hh) (o := ?oo) ?a1 ?a2); (case a2 => assumption); (case a1 => walk_at "hp"))
  | (refine' Lay.ne_pur (H := ?hh) ?a1 ?a2; (case a2 => assumption); (case a1 => walk_at "pu"))
  | (refine' Ne.symm (Lay.ne_pur (H := ?hh) ?a1 ?a2); (case a2 => assumption); (case a1 => walk_at "pu"))
  | (refine' L2.ne_of (H := ?hh) (o := ?oo) (u := ?uu) ?a1 ?a2 ?a3; (case a1 => assumption); (case a2 => assumption); (case a3 => (intro z; cases z))))
local macro_rules | `(tactic| walk_at "sq") => `(tactic| first
  | assumption
  | (refine' L2.SqL.of ?a1; (case a1 => walk_at "hp"))
  | (refine' Evl.ex_l (by assumption) ?a1; (case a1 => walk_at "sq"))
  | (refine' Lay.exb_l (by assumption) ?a1 ?a2; (case a1 => walk_at "ne"); (case a2 => walk_at "sq")))
local macro_rules | `(tactic| walk_at "ex") => `(tactic| first
  | assumption
  | exact Evl.Ex.refl _
  | exact Lay.ExB.refl _ _
  | exact Lay.Ex.b (by assumption)
  | (refine' Evl.Ex.trans ?a1 ?a2; (case a2 => assumption); (case a1 => walk_at "ex"))
  | (refine' Lay.ExB.ex ?a1 ?a2 ?a3; (case a2 => assumption); (case a1 => walk_at "ex"); (case a3 => walk_at "fr"))
  | (refine' Lay.ExB.trans ?a1 ?a2; (case a2 => assumption); (case a1 => walk_at "ex"))
  | (refine' Lay.ExB.trans ?a1 (Lay.Ex.b ?a2); (case a2 => assumption); (case a1 => walk_at "ex"))
  | (refine' Lay.ExB.exB ?a1 ?a2 ?a3; (case a2 => assumption); (case a1 => walk_at "ex"); (case a3 => walk_at "fr")))
local macro_rules | `(tactic| walk_at "fr") => `(tactic| first
  | assumption
  | (refine' Evl.fresh_back ?a1 ?a2; (case a2 => assumption); (case a1 => walk_at "ex"))
  | (refine' Lay.freshB ?a1 ?a2 ?a3; (case a3 => assumption); (case a1 => walk_at "ex"); (case a2 => walk_at "ne")))
local macro_rules | `(tactic| walk_at "pu") => `(tactic| first
  | assumption
  | (refine' Lay.Pur.ex ?a1 ?a2; (case a2 => assumption); (case a1 => walk_at "pu"))
  | (refine' Lay.Pur.upd ?a1 ?a2 ?a3; (case a2 => assumption); (case a1 => walk_at "pu"); (case a3 => walk_at "ne")))
local macro_rules | `(tactic| walk_at "ln") => `(tactic| first
  | omega
  | (simp only [List.length_append, List.length_map, List.length_cons, List.length_nil, List.length_replicate, List.length_set, List.length_reverse, List.length_take, List.length_drop]; omega))
local macro_rules | `(tactic| walk_at "st") => `(tactic| first
  | assumption
  | (refine' L2.SqT.of ?a1; (case a1 => walk_at "hp"))
  | (refine' Lay.ext ?a1 ?a2; (case a1 => assumption); (case a2 => walk_at "st"))
  | (refine' Lay.exb_t ?a1 ?a2 ?a3; (case a1 => assumption); (case a2 => walk_at "ne"); (case a3 => walk_at "st")))
local macro_rules | `(tactic| walk_at "go1") => `(tactic| first
  | with_reducible refine' Lay.r_seq ?_
  | with_reducible refine' Lay.r_set ?_
  | with_reducible refine' Lay.r_sub ?_
  | ((with_reducible refine' Lay.r_aug (x := ?vv) ?ee ?_); (case ee => exact rfl))
  | with_reducible refine' Lay.r_ipI ?_
  | with_reducible refine' Lay.r_drop ?_
  | with_reducible refine' Lay.r_ret ?_
  | with_reducible refine' Lay.r_retN ?_
  | with_reducible refine' Lay.r_if ?_
  | with_reducible refine' Lay.r_next ?_
  | with_reducible refine' Lay.r_brk ?_
  | with_reducible refine' Lay.r_cont ?_
  | ((with_reducible refine' Lay.r_var (v := ?vv) ?ee ?_); (case ee => exact rfl))
  | with_reducible refine' Lay.r_c ?_
  | with_reducible refine' Lay.r_op ?_
  | with_reducible refine' Lay.r_un ?_
  | with_reducible refine' Lay.r_I0 ?_
  | with_reducible refine' Lay.r_U ?_
  | with_reducible refine' Lay.r_eqI ?_
  | with_reducible refine' Lay.r_neI ?_
  | with_reducible refine' Lay.r_eqB ?_
  | with_reducible refine' Lay.r_neB ?_
  | with_reducible refine' Lay.r_isN ?_
  | with_reducible refine' Lay.r_notN ?_
  | with_reducible refine' Lay.r_test ?_
  | with_reducible refine' Lay.r_tB ?_
  | with_reducible refine' Lay.r_bl ?_
  | with_reducible refine' Lay.r_and ?_
  | with_reducible refine' Lay.r_or ?_
  | with_reducible refine' Lay.r_not ?_
  | with_reducible refine' Lay.r_andV ?_
  | with_reducible refine' Lay.r_orV ?_
  | with_reducible refine' Lay.r_notV ?_
  | with_reducible refine' Lay.r_nil ?_
  | with_reducible refine' Lay.r_cons ?_
  | with_reducible refine' Lay.r_call ?_
  | with_reducible refine' Lay.r_cb ?_
  | with_reducible refine' Lay.r_lst ?_
  | with_reducible refine' Lay.r_tup ?_
  | with_reducible refine' Lay.r_augS ?_
  | with_reducible refine' Lay.r_for ?_
  | with_reducible refine' Lay.r_lc ?_
  | with_reducible refine' Lay.r_iList ?_
  | with_reducible refine' Lay.r_iTup ?_
  | with_reducible refine' Lay.r_iRng1 ?_
  | with_reducible refine' Lay.r_iRng2 ?_
  | with_reducible refine' Lay.r_iEnum ?_
  | with_reducible refine' Lay.r_raise ?_
  | with_reducible refine' Lay.r_sl ?_
  | with_reducible refine' Lay.r_noP ?_
  | with_reducible refine' Lay.r_part ?_
  | with_reducible refine' Lay.r_in ?_
  | with_reducible refine' Lay.r_int ?_
  | with_reducible refine' Lay.r_abs ?_
  | with_reducible refine' Lay.r_mx2 ?_
  | with_reducible refine' Lay.r_mn2 ?_
  | with_reducible refine' Lay.r_asg ?_
  | with_reducible refine' Lay.r_gCons ?_
  | with_reducible refine' Lay.r_gNil ?_
  | with_reducible refine' Lay.r_gName ?_
  | ((with_reducible refine' Lay.r_gTup (xs := ?vv) ?a1 ?a2 ?_); (case a1 => walk_at "st"); (case a2 => exact rfl))
  | ((with_reducible refine' Lay.r_gUnl (xs := ?vv) ?a1 ?a2 ?_); (case a1 => walk_at "sq"); (case a2 => exact rfl))
  | ((with_reducible refine' Lay.r_isTT (xs := ?vv) ?ee ?_); (case ee => walk_at "hp"))
  | ((with_reducible refine' Lay.r_isTL (xs := ?vv) ?ee ?_); (case ee => walk_at "hp"))
  | ((with_reducible refine' Lay.r_isLT (xs := ?vv) ?ee ?_); (case ee => walk_at "hp"))
  | with_reducible refine' Lay.r_isII ?_
  | with_reducible refine' Lay.r_isIB ?_
  | ((with_reducible refine' Lay.r_isLL (xs := ?vv) ?ee ?_); (case ee => walk_at "hp"))
  | ((with_reducible refine' Lay.r_I ?_ ?_); first | exact (by decide) | exact (.inl (by omega)) | exact (.inr (by omega)) | exact (by omega) | exact (And.intro (by omega) (by omega)))
  | ((with_reducible refine' Lay.r_lenI (ns := ?vv) ?ee ?_); (case ee => walk_at "sq"))
  | ((with_reducible refine' Lay.r_ix0 (v := ?vv) ?a1 ?_); (case a1 => walk_at "sq"))
  | ((with_reducible refine' Lay.r_ix1 (v := ?vv) ?a1 ?_); (case a1 => walk_at "sq"))
  | ((with_reducible refine' Lay.r_ix2 (v := ?vv) ?a1 ?_); (case a1 => walk_at "sq"))
  | ((with_reducible refine' Lay.r_ixI (ns := ?vv) ?a1 ?a2 ?a3 ?_); (case a1 => walk_at "sq"); (case a2 => omega); (case a3 => omega))
  | ((with_reducible refine' Lay.r_ixT0 (v := ?vv) ?a1 ?_); (case a1 => walk_at "st"))
  | ((with_reducible refine' Lay.r_ixT1 (v := ?vv) ?a1 ?_); (case a1 => walk_at "st"))
  | ((with_reducible refine' Lay.r_ixT2 (v := ?vv) ?a1 ?_); (case a1 => walk_at "st"))
  | ((with_reducible refine' Lay.r_strI ?a1 ?a2 ?_); (case a1 => omega); (case a2 => omega))
  | with_reducible refine' Lay.r_chain ?_
  | with_reducible refine' Lay.r_iteC ?_
  | with_reducible refine' Lay.r_tIfI ?_
  | with_reducible refine' Lay.r_nT ?_
  | with_reducible refine' Lay.r_nF ?_
  | with_reducible refine L2.iteT ?_
  | with_reducible refine L2.iteF ?_)
local macro_rules | `(tactic| walk_at "go") => `(tactic| repeat (walk_at "go1"))
local macro_rules | `(tactic| walk_at "go0") => `(tactic| ((try dsimp only [L2.cxOf]); walk_at "go"))
local macro_rules | `(tactic| walk_at "gn1") => `(tactic| first
  | walk_at "go1"
  | ((with_reducible refine' Lay.r_newI0 ?_); (intro _ _ _ _ _))
  | ((with_reducible refine' Lay.r_newI1 ?_); (intro _ _ _ _ _))
  | ((with_reducible refine' Lay.r_newI2 ?_); (intro _ _ _ _ _))
  | ((with_reducible refine' Lay.r_newI3 ?_); (intro _ _ _ _ _))
  | ((with_reducible refine' Lay.r_newI4 ?_); (intro _ _ _ _ _))
  | ((with_reducible refine' Lay.r_newL (Lay.len3 rfl) ?_); (intro _ _ _ _ _))
  | ((with_reducible refine' Lay.r_newT (Lay.len3 rfl) ?_); (intro _ _ _ _ _))
  | ((with_reducible refine' Lay.r_listI (ns := ?vv) ?a1 ?_); (case a1 => walk_at "sq"); (intro _ _ _ _ _))
  | ((with_reducible refine' Lay.r_catI (ns := ?vv) (ms := ?ww) ?a1 ?a2 ?a3 ?_); (case a1 => walk_at "hp"); (case a2 => walk_at "hp"); (case a3 => walk_at "ln"); (intro _ _ _ _ _)))
local macro_rules | `(tactic| walk_at "gn") => `(tactic| repeat (walk_at "gn1"))
local macro_rules | `(tactic| walk_at "gn0") => `(tactic| ((try dsimp only [L2.cxOf]); walk_at "gn"))
namespace WM
/-- the state of filling behind i words: the starts, the width of the last line -/
def fsAt (ws : List Int) (width : Int) : Nat → List Int × Int
  | 0 => ([], 0)
  | i + 1 => if (fsAt ws width i).1 = [] ∨ width < (fsAt ws width i).2 + 1 + ws.getD i 0 then ((fsAt ws width i).1 ++ [(i : Int)], ws.getD i 0) else ((fsAt ws width i).1, (fsAt ws width i).2 + 1 + ws.getD i 0)
def fs (ws : List Int) (width : Int) : List Int := (fsAt ws width ws.length).1
def g (ws : List Int) (width : Int) (i : Nat) : Nat := (fsAt ws width i).1.length
def pre (ws : List Int) (e : Nat) : Int := (ws.take e).sum
def room (ws : List Int) (b e : Nat) : Int := pre ws e - pre ws b + e - b - 1
variable {ws : List Int} {width : Int}
theorem pre_succ (e : Nat) : pre ws (e + 1) = pre ws e + ws.getD e 0 := by
  unfold pre
  by_cases h : e < ws.length
  · rw [List.take_succ_eq_append_getElem h, List.sum_append, List.sum_cons, List.sum_nil, List.getD_eq_getElem?_getD, List.getElem?_eq_getElem h]
    simp
  · rw [List.take_of_length_le (by omega), List.take_of_length_le (by omega), List.getD_eq_getElem?_getD, List.getElem?_eq_none (by omega)]
    simp
theorem cut_sum {b e : Nat} (h : b ≤ e) : ((ws.drop b).take (e - b)).sum = pre ws e - pre ws b := by
  unfold pre
  have a : ws.take e = ws.take b ++ (ws.drop b).take (e - b) := by
    have q := List.take_add (l := ws) (i := b) (j := e - b)
    rw [show b + (e - b) = e by omega] at q
    exact q
  rw [a, List.sum_append]
  omega
theorem room_one (b : Nat) : room ws b (b + 1) = ws.getD b 0 := by
  unfold room
  rw [pre_succ]
  omega
theorem room_succ (b e : Nat) : room ws b (e + 1) = room ws b e + 1 + ws.getD e 0 := by
  unfold room
  rw [pre_succ]
  omega
theorem room_left (b e : Nat) : room ws b e = room ws (b + 1) e + 1 + ws.getD b 0 := by
  unfold room
  rw [pre_succ]
  omega
/-- all words are 0 or more -/
def Pos (ws : List Int) : Prop := ∀ i : Nat, 0 ≤ ws.getD i 0
theorem room_mono_left (hp : Pos ws) {b c e : Nat} (h : b ≤ c) : room ws c e ≤ room ws b e := by
  obtain ⟨k, rfl⟩ : ∃ k, c = b + k := ⟨c - b, by omega⟩
  induction k with
  | zero => exact Int.le_refl _
  | succ k ih =>
    have a := ih (by omega)
    have q := room_left (ws := ws) (b + k) e
    have z := hp (b + k)
    show room ws (b + k + 1) e ≤ _
    omega
theorem room_mono_right (hp : Pos ws) {b e f : Nat} (h : e ≤ f) : room ws b e ≤ room ws b f := by
  obtain ⟨k, rfl⟩ : ∃ k, f = e + k := ⟨f - e, by omega⟩
  induction k with
  | zero => exact Int.le_refl _
  | succ k ih =>
    have a := ih (by omega)
    have q := room_succ (ws := ws) b (e + k)
    have z := hp (e + k)
    show _ ≤ room ws b (e + k + 1)
    omega
theorem fsAt_start {i : Nat} (h : (fsAt ws width i).1 = [] ∨ width < (fsAt ws width i).2 + 1 + ws.getD i 0) : fsAt ws width (i + 1) = ((fsAt ws width i).1 ++ [(i : Int)], ws.getD i 0) := by
  rw [fsAt, if_pos h]
theorem fsAt_on {i : Nat} (h : ¬ ((fsAt ws width i).1 = [] ∨ width < (fsAt ws width i).2 + 1 + ws.getD i 0)) : fsAt ws width (i + 1) = ((fsAt ws width i).1, (fsAt ws width i).2 + 1 + ws.getD i 0) := by
  rw [fsAt, if_neg h]
theorem g_zero : g ws width 0 = 0 := rfl
theorem g_step (i : Nat) : g ws width i ≤ g ws width (i + 1) := by
  unfold g
  by_cases h : (fsAt ws width i).1 = [] ∨ width < (fsAt ws width i).2 + 1 + ws.getD i 0
  · rw [fsAt_start h, List.length_append]
    omega
  · rw [fsAt_on h]
    exact Nat.le_refl _
theorem g_mono {i j : Nat} (h : i ≤ j) : g ws width i ≤ g ws width j := by
  obtain ⟨k, rfl⟩ : ∃ k, j = i + k := ⟨j - i, by omega⟩
  induction k with
  | zero => exact Nat.le_refl _
  | succ k ih => exact Nat.le_trans (ih (by omega)) (g_step _)
/-- the last line of the first e words -/
theorem last_line {e : Nat} (he : 0 < e) : ∃ b, b < e ∧ (fsAt ws width e).2 = room ws b e ∧ g ws width e = g ws width b + 1 ∧ (∀ k, b < k → k ≤ e → g ws width k = g ws width e) ∧ (b = 0 ∨ width < (fsAt ws width b).2 + 1 + ws.getD b 0) ∧ (fsAt ws width e).1 ≠ [] := by
  induction e with
  | zero => omega
  | succ e ih =>
    by_cases h : (fsAt ws width e).1 = [] ∨ width < (fsAt ws width e).2 + 1 + ws.getD e 0
    · have a := fsAt_start h
      refine ⟨e, by omega, by rw [a, room_one], ?_, fun k h1 h2 => ?_, ?_, by rw [a]; simp⟩
      · unfold g
        rw [a, List.length_append]
        rfl
      · have : k = e + 1 := by omega
        rw [this]
      · rcases h with h | h
        · by_cases h0 : e = 0
          · exact .inl h0
          · obtain ⟨b, _, _, _, _, _, hn⟩ := ih (by omega)
            exact absurd h hn
        · exact .inr h
    · have a := fsAt_on h
      have e0 : 0 < e := by
        by_cases z : e = 0
        · subst z
          exact absurd (.inl rfl) h
        · omega
      obtain ⟨b, h1, h2, h3, h4, h5, h6⟩ := ih e0
      have ge : g ws width (e + 1) = g ws width e := by
        unfold g
        rw [a]
      refine ⟨b, by omega, by rw [a, room_succ, ← h2], by rw [ge, h3], fun k k1 k2 => ?_, h5, by rw [a]; exact h6⟩
      by_cases hk : k = e + 1
      · rw [hk]
      · rw [ge, h4 k k1 (by omega)]
theorem used_le (hw : ∀ i : Nat, ws.getD i 0 ≤ width) {e : Nat} (he : 0 < e) : (fsAt ws width e).2 ≤ width := by
  cases e with
  | zero => omega
  | succ e =>
    by_cases h : (fsAt ws width e).1 = [] ∨ width < (fsAt ws width e).2 + 1 + ws.getD e 0
    · rw [fsAt_start h]
      exact hw e
    · rw [fsAt_on h]
      have := fun z => h (.inr z)
      show (fsAt ws width e).2 + 1 + ws.getD e 0 ≤ width
      omega
theorem g_up (hp : Pos ws) {b e : Nat} (hb : b < e) (hr : room ws b e ≤ width) : g ws width e ≤ g ws width b + 1 := by
  obtain ⟨c, h1, h2, h3, h4, h5, _⟩ := last_line (ws := ws) (width := width) (e := e) (by omega)
  by_cases hc : c ≤ b
  · by_cases q : c = b
    · rw [h3, q]
      omega
    · rw [h4 b (by omega) (by omega)]
      omega
  · rcases h5 with h5 | h5
    · omega
    · obtain ⟨c', k1, k2, k3, k4, _, _⟩ := last_line (ws := ws) (width := width) (e := c) (by omega)
      rw [k2] at h5
      have z : room ws c' (c + 1) = room ws c' c + 1 + ws.getD c 0 := room_succ _ _
      by_cases hcb : b ≤ c'
      · have a1 := room_mono_left hp (e := c + 1) hcb
        have a2 := room_mono_right hp (b := b) (e := c + 1) (f := e) (by omega)
        omega
      · rw [h3, ← k4 b (by omega) (by omega)]
        omega
theorem g_low (hp : Pos ws) (hw : ∀ i : Nat, ws.getD i 0 ≤ width) {b e : Nat} (hb : b < e) (hr : b = 0 ∨ width < room ws (b - 1) e) : g ws width b + 1 ≤ g ws width e := by
  obtain ⟨c, h1, h2, h3, h4, h5, _⟩ := last_line (ws := ws) (width := width) (e := e) (by omega)
  have hu := used_le (ws := ws) (width := width) hw (e := e) (by omega)
  by_cases hc : b ≤ c
  · have := g_mono (ws := ws) (width := width) hc
    omega
  · rcases hr with hr | hr
    · omega
    · have a1 := room_mono_left hp (b := c) (c := b - 1) (e := e) (by omega)
      omega
theorem g_line (hp : Pos ws) (hw : ∀ i : Nat, ws.getD i 0 ≤ width) {b e : Nat} (hb : b < e) (h1 : room ws b e ≤ width) (h2 : b = 0 ∨ width < room ws (b - 1) e) : g ws width e = g ws width b + 1 :=
  Nat.le_antisymm (g_up hp hb h1) (g_low hp hw hb h2)
end WM
/-! numerals and stretches -/
namespace WN
open PySem Lay
def figN (n : Nat) : Nat := if n < 10 then 1 else if n < 100 then 2 else if n < 1000 then 3 else 4
theorem fig_all : ((List.range 4001).all fun n => decide ((Str.ofString (toString ((n : Nat) : Int))).length = figN n)) = true := by decide +kernel
theorem fig_str {n : Nat} (h : n ≤ 4000) : (Str.ofString (toString ((n : Nat) : Int))).length = figN n :=
  of_decide_eq_true (List.all_eq_true.mp fig_all n (List.mem_range.mpr (by omega)))
/-- the signs of the figures 0 to 9 -/
def sg : Nat → Nat
  | 1 => 1
  | 2 => 2
  | 3 => 3
  | 4 => 2
  | 5 => 1
  | 6 => 2
  | 7 => 3
  | 8 => 4
  | 9 => 2
  | _ => 0
def romP (n : Nat) : Nat := n / 1000 + sg (n % 10) + sg (n / 10 % 10) + sg (n / 100 % 10)
def tab : List (Nat × Nat) := [(1000, 1), (900, 2), (500, 1), (400, 2), (100, 1), (90, 2), (50, 1), (40, 2), (10, 1), (9, 2), (5, 1), (4, 2), (1, 1)]
def rst (s : Nat × Nat) (p : Nat × Nat) : Nat × Nat := (s.1 % p.1, s.2 + s.1 / p.1 * p.2)
def romN (n : Nat) : Nat := (tab.foldl rst (n, 0)).2
theorem rom_all : ((List.range 4001).all fun n => decide (romN n = romP n)) = true := by decide +kernel
theorem rom_eq {n : Nat} (h : n ≤ 4000) : romN n = romP n := of_decide_eq_true (List.all_eq_true.mp rom_all n (List.mem_range.mpr (by omega)))
/-- the stretch's ends -/
def stE (one other top : Int) : Option (Int × Int) :=
  if mx top (mn one other + 4) ≤ 2 * mx one other - mn one other - 2 then some (mx top (mn one other + 4), 2 * mx one other - mn one other - 2) else none
/-- the line widths at which the words part -/
def inS (one other w : Int) : Prop := mn one other + 4 ≤ w ∧ w ≤ 2 * mx one other - mn one other - 2
instance (a b w : Int) : Decidable (inS a b w) := by unfold inS; infer_instance
def btw (u t v w : Int) : Int := if u + t + v + 2 ≤ w then 1 else if mn u v + 1 + t ≤ w then 2 else 3
theorem btw_in {a b u v w : Int} (hu : 1 ≤ u) (hv : u ≤ v) (hw : v ≤ w) (h : btw u (mx a b) v w - btw u (mn a b) v w = 2) : inS a b w := by
  unfold btw at h
  have e : mn u v = u := by unfold mn; split <;> omega
  rw [e] at h
  unfold inS
  have hm : mn a b ≤ mx a b := by unfold mn mx; split <;> split <;> omega
  split at h <;> split at h <;> first | omega | (split at h <;> first | omega | (split at h <;> omega))
theorem in_btw {a b w : Int} (hm1 : 1 ≤ mn a b) (hw : mx a b ≤ w) (h : inS a b w) : ∃ u : Int, 1 ≤ u ∧ u ≤ w ∧ btw u (mx a b) u w - btw u (mn a b) u w = 2 := by
  unfold inS at h
  refine ⟨mx 1 (w - mx a b), ?_, ?_, ?_⟩
  · unfold mx; split <;> omega
  · have : 1 ≤ mx a b := by unfold mx mn at *; split at hm1 <;> split <;> omega
    have e : mx 1 (w - mx a b) = 1 ∨ mx 1 (w - mx a b) = w - mx a b := by
      generalize w - mx a b = z
      unfold mx
      split
      · exact .inr rfl
      · exact .inl rfl
    omega
  · have e : (mx 1 (w - mx a b) = 1 ∧ w - mx a b ≤ 1) ∨ (mx 1 (w - mx a b) = w - mx a b ∧ 1 < w - mx a b) := by
      generalize w - mx a b = z
      unfold mx
      split
      · exact .inr ⟨rfl, by omega⟩
      · exact .inl ⟨rfl, by omega⟩
    generalize mx 1 (w - mx a b) = u at *
    have e2 : mn u u = u := by unfold mn; split <;> rfl
    unfold btw
    rw [e2, if_neg (by omega), if_neg (by omega), if_pos (by omega)]
    rfl
theorem stE_in {a b w top : Int} (h1 : top ≤ w) : (∃ f l, stE a b top = some (f, l) ∧ f ≤ w ∧ w ≤ l) ↔ inS a b w := by
  unfold stE inS
  have e : mx top (mn a b + 4) = top ∧ mn a b + 4 ≤ top ∨ mx top (mn a b + 4) = mn a b + 4 ∧ top < mn a b + 4 := by
    generalize mn a b + 4 = z
    unfold mx
    split
    · exact .inr ⟨rfl, by omega⟩
    · exact .inl ⟨rfl, by omega⟩
  generalize mx top (mn a b + 4) = f at *
  generalize mn a b = less at *
  generalize mx a b = more at *
  constructor
  · rintro ⟨f', l', h, k1, k2⟩
    by_cases c : f ≤ 2 * more - less - 2
    · rw [if_pos c] at h
      cases h
      omega
    · rw [if_neg c] at h
      cases h
  · intro h
    rw [if_pos (by omega)]
    exact ⟨_, _, rfl, by omega, by omega⟩
theorem stE_top {a b t f l : Int} (h : stE a b t = some (f, l)) : t ≤ f := by
  unfold stE at h
  split at h
  · cases h
    unfold mx
    split <;> omega
  · cases h
/-- three words are set in three lines, or in one -/
theorem fs3 {x t w : Int} (hx : 1 ≤ x) (ht : 1 ≤ t) (h : w < x + 1 + t) : (WM.fs [x, t, x] w).length = 3 := by
  have s0 := WM.fsAt_start (ws := [x, t, x]) (width := w) (i := 0) (.inl rfl)
  have s1 := WM.fsAt_start (ws := [x, t, x]) (width := w) (i := 1) (.inr (by rw [s0]; exact h))
  have s2 := WM.fsAt_start (ws := [x, t, x]) (width := w) (i := 2) (.inr (by rw [s1]; show w < t + 1 + x; omega))
  show (WM.fsAt [x, t, x] w 3).1.length = 3
  rw [s2, s1, s0]
  rfl
theorem fs1 {x t w : Int} (h : x + 1 + t + 1 + x ≤ w) (hx : 1 ≤ x) (ht : 1 ≤ t) : (WM.fs [x, t, x] w).length = 1 := by
  have s0 := WM.fsAt_start (ws := [x, t, x]) (width := w) (i := 0) (.inl rfl)
  have s1 := WM.fsAt_on (ws := [x, t, x]) (width := w) (i := 1) (by rw [s0]; intro z; rcases z with z | z; exact absurd z (by simp); change w < x + 1 + t at z; omega)
  have s2 := WM.fsAt_on (ws := [x, t, x]) (width := w) (i := 2) (by rw [s1, s0]; intro z; rcases z with z | z; exact absurd z (by simp); change w < x + 1 + t + 1 + x at z; omega)
  show (WM.fsAt [x, t, x] w 3).1.length = 1
  rw [s2, s1, s0]
  rfl
end WN
namespace K07
open PySem PySem.Spec PyProof.Rows L2 Evl Lay
section
variable {P : Program} {w : World} {K : PySem.W.Frag} {mg : Str → Option Value} {base : Heap} {CB CT CW : Addr} {tWs tW tR : Tok}
variable {a_SIGNS_OF_FIGURE : Addr}
def top (i : Nat) : Stmt := PySem.Challenge.pw_comestrue_k07_numerals_and_stretches_of.main.body.getD i (.Pass ⟨0, 0, 0, 0⟩)
structure Txt (K : PySem.W.Frag) (mg : Str → Option Value) (CB : Addr) (tWs tW tR : Tok) (a_SIGNS_OF_FIGURE : Addr) : Prop where
  n_abs : mg "abs" = none
  n_bool : mg "bool" = none
  n_enumerate : mg "enumerate" = none
  n_int : mg "int" = none
  n_isinstance : mg "isinstance" = none
  n_len : mg "len" = none
  n_list : mg "list" = none
  n_max : mg "max" = none
  n_min : mg "min" = none
  n_range : mg "range" = none
  n_str : mg "str" = none
  n_sum : mg "sum" = none
  n_tuple : mg "tuple" = none
  g_WIDTHS : mg "WIDTHS" = some (.int 4000 tWs)
  g_WIDTH : mg "WIDTH" = some (.int 400 tW)
  g_MOST_ROMAN : mg "MOST_ROMAN" = some (.int 3999 tR)
  g_ComesError : mg "ComesError" = some (.ref CB)
  rd_ComesError : ClX.CRead K CB (.type "type")
  vi_ComesError : PySem.W.findCls K (.ref CB) (.type "type") "__init__" = some (.val (.builtin "ValueError.__init__"))
  g_SIGNS_OF_FIGURE : mg "SIGNS_OF_FIGURE" = some (.ref a_SIGNS_OF_FIGURE)
  q_SIGNS_OF_FIGURE : ∀ H : Hp, SqT K H a_SIGNS_OF_FIGURE (([0, 1, 2, 3, 2, 1, 2, 3, 4, 2] : List Int).map V.int)
end
end K07
namespace K07
open PySem PySem.Spec PyProof.Rows L2 Evl Lay
section
variable {P : Program} {w : World} {K : PySem.W.Frag} {mg : Str → Option Value} {base : Heap} {CB CT CW : Addr} {tWs tW tR : Tok}
variable {a_SIGNS_OF_FIGURE : Addr}
/-! ### the errors' __init__ -/
abbrev s_TooMany___init__ : Stmt := inClass (top 5) 0
theorem sc_TooMany___init__ : FnScope ["self", "what"] ["self", "what"] (defScope s_TooMany___init__) := ⟨rfl, rfl, rfl, by decide +kernel, rfl, by decide +kernel, by decide +kernel⟩
theorem ok_initT {f : Addr} {fd : FuncData} (T : Txt K mg CB tWs tW tR a_SIGNS_OF_FIGURE) (F : Fun K "__init__" "TooMany.__init__" s_TooMany___init__ f fd) (o : OexC K CT) (no : PySem.W.findIn K (.ref CT) "what" = some none) : FnOk P w K mg base (L2.CX P w) 1 f fd ["self", "what"] (spExc K CT "what") := by
  refine F.okX sc_TooMany___init__ (fun vs H Q E h => ?_) (fun cdv Ar outer s H vs Q E hr h => ⟨_, (pss_cons (ps_expr (pe_binit rfl T.g_ComesError T.rd_ComesError T.vi_ComesError (pa_cons (pv 0) (pa_cons (pe_joined (PJ.cons pe_str (PJ.cons (pe_fmt (pv 1)) PJ.nil))) pa_nil))))
      (pss_one (ps_ost (pv 0) (pv 1)))), ?_⟩)
  · obtain ⟨a, v, rfl, _⟩ := h
    rfl
  · obtain ⟨a, v, rfl, tv, ha, q⟩ := h
    exact exc_body (fun R hR => js_c (n := 0) (by decide) (by decide +kernel) fun a1 h1 => js_v tv rfl h1 (by decide +kernel) fun a2 h2 => hR _) rfl rfl o no ha q
abbrev s_BadWords___init__ : Stmt := inClass (top 6) 0
theorem sc_BadWords___init__ : FnScope ["self", "place"] ["self", "place"] (defScope s_BadWords___init__) := ⟨rfl, rfl, rfl, by decide +kernel, rfl, by decide +kernel, by decide +kernel⟩
theorem ok_initW {f : Addr} {fd : FuncData} (T : Txt K mg CB tWs tW tR a_SIGNS_OF_FIGURE) (F : Fun K "__init__" "BadWords.__init__" s_BadWords___init__ f fd) (o : OexC K CW) (no : PySem.W.findIn K (.ref CW) "place" = some none) : FnOk P w K mg base (L2.CX P w) 1 f fd ["self", "place"] (spExc K CW "place") := by
  refine F.okX sc_BadWords___init__ (fun vs H Q E h => ?_) (fun cdv Ar outer s H vs Q E hr h => ⟨_, (pss_cons (ps_expr (pe_binit rfl T.g_ComesError T.rd_ComesError T.vi_ComesError (pa_cons (pv 0) (pa_cons (pe_joined (PJ.cons pe_str (PJ.cons (pe_fmt (pv 1)) (PJ.cons pe_str PJ.nil)))) pa_nil))))
      (pss_one (ps_ost (pv 0) (pv 1)))), ?_⟩)
  · obtain ⟨a, v, rfl, _⟩ := h
    rfl
  · obtain ⟨a, v, rfl, tv, ha, q⟩ := h
    exact exc_body (fun R hR => js_c (n := 0) (by decide) (by decide +kernel) fun a1 h1 => js_v tv rfl h1 (by decide +kernel) fun a2 h2 => js_c h2 (by decide +kernel) fun a3 h3 => hR _) rfl rfl o no ha q
end
end K07
namespace K07
open PySem PySem.Spec PyProof.Rows L2 Evl Lay
section
variable {P : Program} {w : World} {K : PySem.W.Frag} {mg : Str → Option Value} {base : Heap} {CB CT CW : Addr} {tWs tW tR : Tok}
variable {a_SIGNS_OF_FIGURE : Addr}
def spIsWhole : Sp := fun vs H Q _ => ∃ i : Int, vs = [.int i] ∧ Q (.bl true) H
abbrev s_is_whole : Stmt := top 1
theorem sc_is_whole : FnScope ["value"] ["value"] (defScope s_is_whole) := ⟨rfl, rfl, rfl, by decide +kernel, rfl, by decide +kernel, by decide +kernel⟩
theorem ok_is_whole (T : Txt K mg CB tWs tW tR a_SIGNS_OF_FIGURE) (F : At K mg "is_whole" s_is_whole ["value"]) : Def P w K mg base "is_whole" 1 ["value"] spIsWhole := by
  refine Def.mk' F sc_is_whole (fun vs H Q E h => ?_) (fun f cdv Ar outer s H vs Q E hr h => ⟨_, (pss_one (ps_ret (pe_and (pe_callB (r := rIsi K) call_isi rfl T.n_isinstance (by decide +kernel) (pa_cons (pv 0) (pa_cons (pe_bltn (v := .ty "int") (u := .type "int") rfl T.n_int (by decide +kernel) rfl) pa_nil))) (pe_one (pe_not (pe_callB (r := rIsi K) call_isi rfl T.n_isinstance (by decide +kernel) (pa_cons (pv 0) (pa_cons (pe_bltn (v := .ty "bool") (u := .type "bool") rfl T.n_bool (by decide +kernel) rfl) pa_nil)))))))), ?_⟩)
  · obtain ⟨i, rfl, _⟩ := h
    rfl
  · obtain ⟨i, rfl, q⟩ := h
    walk_at "go0"
    exact q
def spWholeFrom : Sp := fun vs H Q _ => ∃ i l : Int, vs = [.int i, .int l] ∧ Q (.bl (decide (l ≤ i))) H
abbrev s_whole_from : Stmt := top 2
theorem sc_whole_from : FnScope ["value", "least"] ["value", "least"] (defScope s_whole_from) := ⟨rfl, rfl, rfl, by decide +kernel, rfl, by decide +kernel, by decide +kernel⟩
theorem ok_whole_from (T : Txt K mg CB tWs tW tR a_SIGNS_OF_FIGURE) (F : At K mg "whole_from" s_whole_from ["value", "least"]) (d_is_whole : Def P w K mg base "is_whole" 1 ["value"] spIsWhole) : Def P w K mg base "whole_from" 2 ["value", "least"] spWholeFrom := by
  refine Def.mk' F sc_whole_from (fun vs H Q E h => ?_) (fun f cdv Ar outer s H vs Q E hr h => ⟨_, (pss_one (ps_ret (pe_and (pe_d d_is_whole (hr.mono (by decide)) (passes_call (takes_of rfl rfl rfl rfl) (fun _ _ _ _ h => h)) (pa_cons (pv 0) pa_nil)) (pe_one (pe_cmpR op_ge (pv 0) (pv 1) (nomark _)))))), ?_⟩)
  · obtain ⟨i, l, rfl, _⟩ := h
    rfl
  · obtain ⟨i, l, rfl, q⟩ := h
    walk_at "go0"
    refine ⟨i, rfl, ?_⟩
    walk_at "go"
    exact q
end
end K07
namespace K07
open PySem PySem.Spec PyProof.Rows L2 Evl Lay
section
variable {P : Program} {w : World} {K : PySem.W.Frag} {mg : Str → Option Value} {base : Heap} {CB CT CW : Addr} {tWs tW tR : Tok}
variable {a_SIGNS_OF_FIGURE : Addr}
/-! ### what is refused -/
inductive Er | many (s : Str) | words (p : Int)
def Raised (CT CW : Addr) (e : Er) (H : Hp) (E : XK) : Prop := match e with
  | .many s => ∀ d H2, Ex H H2 → H2 d = some (.xd [("what", .str s)]) → E (.ref CT) (some d) H2
  | .words p => ∀ d H2, Ex H H2 → H2 d = some (.xd [("place", .int p)]) → E (.ref CW) (some d) H2
/-- ends with None, or refuses -/
def Outc (CT CW : Addr) (r : Option Er) (H : Hp) (Q : VK) (E : XK) : Prop := match r with
  | none => ∀ H2, Ex H H2 → Q .non H2
  | some e => Raised CT CW e H E
theorem Raised.mono {e : Er} {H H2 : Hp} {E : XK} (r : Raised CT CW e H E) (x : Ex H H2) : Raised CT CW e H2 E := by
  cases e with
  | many s => exact fun d H3 e3 h => r d H3 (x.trans e3) h
  | words p => exact fun d H3 e3 h => r d H3 (x.trans e3) h
theorem Outc.raised {e : Er} {H : Hp} {Q : VK} {E : XK} (q : Outc CT CW (some e) H Q E) : Raised CT CW e H E := q
theorem Outc.mono {r : Option Er} {H H2 : Hp} {Q : VK} {E : XK} (q : Outc CT CW r H Q E) (x : Ex H H2) : Outc CT CW r H2 Q E := by
  cases r with
  | none => exact fun H3 e3 => q H3 (x.trans e3)
  | some e => exact Raised.mono (Outc.raised q) x
end
end K07
namespace K07
open PySem PySem.Spec PyProof.Rows L2 Evl Lay
section
variable {P : Program} {w : World} {K : PySem.W.Frag} {mg : Str → Option Value} {base : Heap} {CB CT CW : Addr} {tWs tW tR : Tok}
variable {a_SIGNS_OF_FIGURE : Addr}
def ckMost (s : Str) (n m : Int) : Option Er := if m < n then some (.many s) else none
def spMost (CT CW : Addr) : Sp := fun vs H Q E => ∃ (s : Str) (n m : Int), vs = [.str s, .int n, .int m] ∧ s.length ≤ 1000 ∧ Outc CT CW (ckMost s n m) H Q E
abbrev s_check_most : Stmt := top 10
theorem sc_check_most : FnScope ["what", "many", "most"] ["what", "many", "most"] (defScope s_check_most) := ⟨rfl, rfl, rfl, by decide +kernel, rfl, by decide +kernel, by decide +kernel⟩
theorem ok_check_most (T : Txt K mg CB tWs tW tR a_SIGNS_OF_FIGURE) (F : At K mg "check_most" s_check_most ["what", "many", "most"]) (x_TooMany : Exn P w K mg base "TooMany" "what" CT) (d_is_whole : Def P w K mg base "is_whole" 1 ["value"] spIsWhole) :
    Def P w K mg base "check_most" 3 ["what", "many", "most"] (spMost CT CW) := by
  refine Def.mk' F sc_check_most (fun vs H Q E h => ?_) (fun f cdv Ar outer s H vs Q E hr h => ⟨_, (pss_one (ps_if (PW.pt (pw_and (pt_val (pe_d d_is_whole (hr.mono (by decide)) (passes_call (takes_of rfl rfl rfl rfl) (fun _ _ _ _ h => h)) (pa_cons (pv 1) pa_nil))) (pw_and1 (pt_cmpR op_gt (pv 1) (pv 2) (nomark _))))) (pss_one (ps_raiseE x_TooMany rfl (hr.mono (by decide)) (takes_of rfl rfl rfl rfl) (pv 0))) pss_nil)), ?_⟩)
  · obtain ⟨s, n, m, rfl, _⟩ := h
    rfl
  · obtain ⟨s, n, m, rfl, hs, q⟩ := h
    walk_at "go0"
    refine ⟨n, rfl, ?_⟩
    walk_at "go"
    refine r_ite (fun c => ?_) (fun c => ?_)
    · walk_at "go"
      unfold ckMost at q
      rw [if_pos c] at q
      exact ⟨hs, q⟩
    · walk_at "go"
      unfold ckMost at q
      rw [if_neg c] at q
      exact q H (Ex.refl H)
def ckNums (s : Str) (ns : List Int) (m : Int) : Option Er := if ns.any (fun n => decide (m < n)) then some (.many s) else none
theorem ckNums_take {s : Str} {ns : List Int} {m z : Int} {i : Nat} (h : ns[i]? = some z) (c : m < z) : ckNums s ns m = some (.many s) := by
  unfold ckNums
  rw [if_pos]
  exact List.any_eq_true.mpr ⟨z, List.mem_of_getElem? h, decide_eq_true c⟩
def spNums (K : PySem.W.Frag) (CT CW : Addr) : Sp := fun vs H Q E => ∃ (s : Str) (a : Addr) (ns : List Int) (m : Int), vs = [.str s, .ref a, .int m] ∧ s.length ≤ 1000 ∧ SqL K H a (ns.map V.int) ∧ Outc CT CW (ckNums s ns m) H Q E
abbrev s_check_numbers : Stmt := top 11
theorem sc_check_numbers : FnScope ["what", "numbers", "most", "number"] ["what", "numbers", "most"] (defScope s_check_numbers) := ⟨rfl, rfl, rfl, by decide +kernel, rfl, by decide +kernel, by decide +kernel⟩
theorem ok_check_numbers (T : Txt K mg CB tWs tW tR a_SIGNS_OF_FIGURE) (F : At K mg "check_numbers" s_check_numbers ["what", "numbers", "most"]) (d_check_most : Def P w K mg base "check_most" 3 ["what", "many", "most"] (spMost CT CW)) :
    Def P w K mg base "check_numbers" 4 ["what", "numbers", "most"] (spNums K CT CW) := by
  refine Def.mk' F sc_check_numbers (fun vs H Q E h => ?_) (fun f cdv Ar outer s H vs Q E hr h => ⟨_, (pss_one (ps_for (passes_of rfl) rfl (pi_list (pv 1)) (pg_name (i := 3) sc_check_numbers.nd rfl (Or.inl rfl)) (pss_one (ps_expr (pe_d d_check_most (hr.mono (by decide)) (passes_call (takes_of rfl rfl rfl rfl) (fun _ _ _ _ h => h)) (pa_cons (pv 0) (pa_cons (pv 3) (pa_cons (pv 2) pa_nil)))))))), ?_⟩)
  · obtain ⟨s, a, ns, m, rfl, _⟩ := h
    rfl
  · obtain ⟨s, a, ns, m, rfl, hs, ha, q⟩ := h
    walk_at "go0"
    refine forI ha (fun i σ' H' => (∃ v, σ' = [some (.str s), some (.ref a), some (.int m), v]) ∧ Ex H H' ∧ ∀ (j : Nat) (z : Int), j < i → ns[j]? = some z → ¬ m < z) ?_ ?_ ?_ ?_
    · exact ⟨⟨none, rfl⟩, Ex.refl H, fun j z hj => absurd hj (Nat.not_lt_zero _)⟩
    · intro i σ' H' _ ⟨_, e, _⟩
      walk_at "sq"
    · rintro i z σ' H' hz ⟨⟨v, rfl⟩, e, hn⟩
      walk_at "go"
      refine ⟨s, z, m, rfl, hs, ?_⟩
      unfold ckMost
      by_cases c : m < z
      · rw [if_pos c]
        rw [ckNums_take hz c] at q
        exact Raised.mono (Outc.raised q) e
      · rw [if_neg c]
        intro H2 e2
        refine ⟨⟨_, rfl⟩, e.trans e2, fun j y hj hy => ?_⟩
        by_cases hji : j = i
        · rw [hji, hz] at hy
          cases hy
          exact c
        · exact hn j y (by omega) hy
    · rintro σ' H' ⟨_, e, hn⟩
      have hc : ckNums s ns m = none := by
        unfold ckNums
        rw [if_neg]
        intro hany
        obtain ⟨z, hz, hd⟩ := List.any_eq_true.mp hany
        obtain ⟨j, hj⟩ := List.getElem?_of_mem hz
        exact hn j z (List.getElem?_eq_some_iff.mp hj).1 hj (of_decide_eq_true hd)
      rw [hc] at q
      walk_at "go"
      exact q H' e
end
end K07
namespace K07
open PySem PySem.Spec PyProof.Rows L2 Evl Lay
section
variable {P : Program} {w : World} {K : PySem.W.Frag} {mg : Str → Option Value} {base : Heap} {CB CT CW : Addr} {tWs tW tR : Tok}
variable {a_SIGNS_OF_FIGURE : Addr}
def ckLine (m : Int) : Option Er := if m < 1 then some (.words (-1)) else none
def spLine (CT CW : Addr) : Sp := fun vs H Q E => ∃ m : Int, vs = [.int m] ∧ Outc CT CW (ckLine m) H Q E
abbrev s_check_line : Stmt := top 13
theorem sc_check_line : FnScope ["width"] ["width"] (defScope s_check_line) := ⟨rfl, rfl, rfl, by decide +kernel, rfl, by decide +kernel, by decide +kernel⟩
theorem ok_check_line (T : Txt K mg CB tWs tW tR a_SIGNS_OF_FIGURE) (F : At K mg "check_line" s_check_line ["width"]) (x_BadWords : Exn P w K mg base "BadWords" "place" CW) (d_whole_from : Def P w K mg base "whole_from" 2 ["value", "least"] spWholeFrom) :
    Def P w K mg base "check_line" 3 ["width"] (spLine CT CW) := by
  refine Def.mk' F sc_check_line (fun vs H Q E h => ?_) (fun f cdv Ar outer s H vs Q E hr h => ⟨_, (pss_one (ps_if (pt_not (pt_val (pe_d d_whole_from (hr.mono (by decide)) (passes_call (takes_of rfl rfl rfl rfl) (fun _ _ _ _ h => h)) (pa_cons (pv 0) (pa_cons pe_int pa_nil))))) (pss_one (ps_raiseE x_BadWords rfl (hr.mono (by decide)) (takes_of rfl rfl rfl rfl) (pe_un un_neg pe_int))) pss_nil)), ?_⟩)
  · obtain ⟨m, rfl, _⟩ := h
    rfl
  · obtain ⟨m, rfl, q⟩ := h
    walk_at "go0"
    refine ⟨m, 1, rfl, ?_⟩
    walk_at "go"
    unfold ckLine at q
    refine r_iteN (fun c => ?_) (fun c => ?_)
    · walk_at "go"
      rw [if_pos (by omega)] at q
      exact ⟨tell_int (by omega) (by omega), q⟩
    · walk_at "go"
      rw [if_neg (by omega)] at q
      exact q H (Ex.refl H)
end
end K07
namespace K07
open PySem PySem.Spec PyProof.Rows L2 Evl Lay
section
variable {P : Program} {w : World} {K : PySem.W.Frag} {mg : Str → Option Value} {base : Heap} {CB CT CW : Addr} {tWs tW tR : Tok}
variable {a_SIGNS_OF_FIGURE : Addr}
/-! ### widths: what is refused -/
def orEr (a b : Option Er) : Option Er := match a with
  | some e => some e
  | none => b
theorem Outc.or {CT CW : Addr} {a b : Option Er} {H H1 : Hp} {Q Q' : VK} {E : XK} (q : Outc CT CW (orEr a b) H Q E) (x : Ex H H1) (k : ∀ H2, Ex H1 H2 → a = none → Outc CT CW b H2 Q E → Q' .non H2) : Outc CT CW a H1 Q' E := by
  cases a with
  | none => exact fun H2 e2 => k H2 e2 rfl (Outc.mono (r := b) q (x.trans e2))
  | some e => exact Raised.mono (Outc.raised q) x
def ckBW (ns : List Int) : Option Er := orEr (ckMost "widths" ns.length 4000) (ckNums "width" ns 400)
def spBW (K : PySem.W.Frag) (CT CW : Addr) : Sp := fun vs H Q E => ∃ (a : Addr) (ns : List Int), vs = [.ref a] ∧ SqL K H a (ns.map V.int) ∧ Outc CT CW (ckBW ns) H Q E
abbrev s_bound_widths : Stmt := top 14
theorem sc_bound_widths : FnScope ["widths"] ["widths"] (defScope s_bound_widths) := ⟨rfl, rfl, rfl, by decide +kernel, rfl, by decide +kernel, by decide +kernel⟩
theorem ok_bound_widths (T : Txt K mg CB tWs tW tR a_SIGNS_OF_FIGURE) (F : At K mg "bound_widths" s_bound_widths ["widths"]) (d_check_most : Def P w K mg base "check_most" 3 ["what", "many", "most"] (spMost CT CW)) (d_check_numbers : Def P w K mg base "check_numbers" 4 ["what", "numbers", "most"] (spNums K CT CW)) :
    Def P w K mg base "bound_widths" 5 ["widths"] (spBW K CT CW) := by
  refine Def.mk' F sc_bound_widths (fun vs H Q E h => ?_) (fun f cdv Ar outer s H vs Q E hr h => ⟨_, (pss_cons (ps_expr (pe_d d_check_most (hr.mono (by decide)) (passes_call (takes_of rfl rfl rfl rfl) (fun _ _ _ _ h => h)) (pa_cons pe_str (pa_cons (pe_callB (r := Lay.rLen K) c_len rfl T.n_len PySem.boot_len (pa_cons (pv 0) pa_nil)) (pa_cons (pe_glob (v := .int 4000) rfl T.g_WIDTHS ⟨_, rfl⟩) pa_nil)))))
      (pss_one (ps_expr (pe_d d_check_numbers (hr.mono (by decide)) (passes_call (takes_of rfl rfl rfl rfl) (fun _ _ _ _ h => h)) (pa_cons pe_str (pa_cons (pv 0) (pa_cons (pe_glob (v := .int 400) rfl T.g_WIDTH ⟨_, rfl⟩) pa_nil))))))), ?_⟩)
  · obtain ⟨a, ns, rfl, _⟩ := h
    rfl
  · obtain ⟨a, ns, rfl, ha, q⟩ := h
    walk_at "go0"
    refine ⟨"widths", _, 4000, rfl, by decide +kernel, q.or (Ex.refl _) fun H2 e2 c2 q => ?_⟩
    walk_at "go"
    exact ⟨"width", a, ns, 400, rfl, by decide +kernel, by walk_at "sq", q⟩
def ckWs (ns : List Int) : Option Er := (ns.findIdx? fun z => decide (z < 1)).map fun i => .words i
def spWs (K : PySem.W.Frag) (CT CW : Addr) : Sp := fun vs H Q E => ∃ (a : Addr) (ns : List Int), vs = [.ref a] ∧ SqL K H a (ns.map V.int) ∧ ns.length ≤ 100000 ∧ Outc CT CW (ckWs ns) H Q E
abbrev s_check_widths : Stmt := top 15
theorem sc_check_widths : FnScope ["widths", "place", "width"] ["widths"] (defScope s_check_widths) := ⟨rfl, rfl, rfl, by decide +kernel, rfl, by decide +kernel, by decide +kernel⟩
theorem ok_check_widths (T : Txt K mg CB tWs tW tR a_SIGNS_OF_FIGURE) (F : At K mg "check_widths" s_check_widths ["widths"]) (x_BadWords : Exn P w K mg base "BadWords" "place" CW) (d_whole_from : Def P w K mg base "whole_from" 2 ["value", "least"] spWholeFrom) :
    Def P w K mg base "check_widths" 3 ["widths"] (spWs K CT CW) := by
  refine Def.mk' F sc_check_widths (fun vs H Q E h => ?_) (fun f cdv Ar outer s H vs Q E hr h => ⟨_, (pss_one (ps_for (passes_of rfl) rfl (pi_enum rfl T.n_enumerate (pa_cons (pv 0) pa_nil)) (pg_tup (n := 2) rfl (pgs_cons (pg_name (i := 1) sc_check_widths.nd rfl (Or.inl rfl)) (pgs_cons (pg_name (i := 2) sc_check_widths.nd rfl (Or.inl rfl)) pgs_nil))) (pss_one (ps_if (pt_not (pt_val (pe_d d_whole_from (hr.mono (by decide)) (passes_call (takes_of rfl rfl rfl rfl) (fun _ _ _ _ h => h)) (pa_cons (pv 2) (pa_cons pe_int pa_nil))))) (pss_one (ps_raiseE x_BadWords rfl (hr.mono (by decide)) (takes_of rfl rfl rfl rfl) (pv 1))) pss_nil)))), ?_⟩)
  · obtain ⟨a, ns, rfl, _⟩ := h
    rfl
  · obtain ⟨a, ns, rfl, ha, hl, q⟩ := h
    walk_at "go0"
    refine forE ha (fun i σ' H' => (∃ v v', σ' = [some (.ref a), v, v']) ∧ Ex H H' ∧ ∀ (j : Nat) (y : Int), j < i → ns[j]? = some y → ¬ y < 1) ?_ ?_ ?_ ?_
    · exact ⟨⟨none, none, rfl⟩, Ex.refl H, fun j y hj => absurd hj (Nat.not_lt_zero _)⟩
    · intro i σ' H' _ ⟨_, e, _⟩
      walk_at "sq"
    · rintro i x σ' H' H2 hx ⟨⟨v, v', rfl⟩, e, hn⟩ e2
      rw [List.getElem?_map] at hx
      cases hz : ns[i]? with
      | none =>
        rw [hz] at hx
        cases hx
      | some z =>
        rw [hz] at hx
        cases hx
        obtain ⟨hi, hzi⟩ := List.getElem?_eq_some_iff.mp hz
        walk_at "go"
        refine ⟨z, 1, rfl, ?_⟩
        walk_at "go"
        refine r_iteN (fun c => ?_) (fun c => ?_)
        · walk_at "go"
          have hb : ckWs ns = some (.words i) := by
            unfold ckWs
            rw [List.findIdx?_eq_some_iff_getElem.mpr ⟨hi, by rw [hzi]; exact decide_eq_true (by omega), fun j hj => by
              have := hn j ns[j] hj (List.getElem?_eq_getElem (by omega))
              rw [decide_eq_false this]
              exact Bool.false_ne_true⟩]
            rfl
          rw [hb] at q
          exact ⟨tell_int (by omega) (by omega), Raised.mono (Outc.raised q) (e.trans e2)⟩
        · walk_at "go"
          refine ⟨⟨_, _, rfl⟩, e.trans e2, fun j y hj hy => ?_⟩
          by_cases hji : j = i
          · rw [hji, hz] at hy
            cases hy
            omega
          · exact hn j y (by omega) hy
    · rintro σ' H' ⟨⟨v, v', rfl⟩, e, hn⟩
      have hc : ckWs ns = none := by
        unfold ckWs
        rw [List.findIdx?_eq_none_iff.mpr fun y hy => by
          obtain ⟨j, hj⟩ := List.getElem?_of_mem hy
          exact decide_eq_false (hn j y (by rw [List.length_map]; exact (List.getElem?_eq_some_iff.mp hj).1) hj)]
        rfl
      rw [hc] at q
      walk_at "go"
      exact q H' e
end
end K07
namespace K07
open PySem PySem.Spec PyProof.Rows L2 Evl Lay
section
variable {P : Program} {w : World} {K : PySem.W.Frag} {mg : Str → Option Value} {base : Heap} {CB CT CW : Addr} {tWs tW tR : Tok}
variable {a_SIGNS_OF_FIGURE : Addr}
/-! ### stretches -/
/-- two ends as a tuple, or None -/
def OptT (r : Option (Int × Int)) (H : Hp) (Q : VK) : Prop := match r with
  | some x => ∀ p H2, H p = none → Ex H H2 → H2 p = some (.tup [.int x.1, .int x.2]) → Q (.ref p) H2
  | none => ∀ H2, Ex H H2 → Q .non H2
theorem OptT.mono {r : Option (Int × Int)} {H H1 : Hp} {Q : VK} (q : OptT r H Q) (e : Ex H H1) : OptT r H1 Q := by
  cases r with
  | some x => exact fun p H2 n e2 h => q p H2 (fresh_back e n) (e.trans e2) h
  | none => exact fun H2 e2 => q H2 (e.trans e2)
def spEnds : Sp := fun vs H Q _ => ∃ a b t : Int, vs = [.int a, .int b, .int t] ∧ OptT (WN.stE a b t) H Q
abbrev s_stretch_ends : Stmt := top 17
theorem sc_stretch_ends : FnScope ["one", "other", "top", "more", "less", "first", "last"] ["one", "other", "top"] (defScope s_stretch_ends) := ⟨rfl, rfl, rfl, by decide +kernel, rfl, by decide +kernel, by decide +kernel⟩
theorem ok_stretch_ends (T : Txt K mg CB tWs tW tR a_SIGNS_OF_FIGURE) (F : At K mg "stretch_ends" s_stretch_ends ["one", "other", "top"]) : Def P w K mg base "stretch_ends" 1 ["one", "other", "top"] spEnds := by
  refine Def.mk' F sc_stretch_ends (fun vs H Q E h => ?_) (fun f cdv Ar outer s H vs Q E hr h => ⟨_, (pss_cons (ps_set (i := 3) sc_stretch_ends.nd rfl (Or.inl rfl) (pe_callB (c_max2 rfl) rfl T.n_max (by decide +kernel) (pa_cons (pv 0) (pa_cons (pv 1) pa_nil))))
      (pss_cons (ps_set (i := 4) sc_stretch_ends.nd rfl (Or.inl rfl) (pe_callB (c_min2 rfl) rfl T.n_min (by decide +kernel) (pa_cons (pv 0) (pa_cons (pv 1) pa_nil))))
      (pss_cons (ps_set (i := 5) sc_stretch_ends.nd rfl (Or.inl rfl) (pe_callB (c_max2 rfl) rfl T.n_max (by decide +kernel) (pa_cons (pv 2) (pa_cons (pe_op op_add (pv 4) pe_int) pa_nil))))
      (pss_cons (ps_set (i := 6) sc_stretch_ends.nd rfl (Or.inl rfl) (pe_op op_sub (pe_op op_sub (pe_op op_mul pe_int (pv 3)) (pv 4)) pe_int))
      (pss_one (ps_ret (pe_ifExp (pt_cmpR op_le (pv 5) (pv 6) (nomark _)) (pe_tup (pa_cons (pv 5) (pa_cons (pv 6) pa_nil))) pe_non))))))), ?_⟩)
  · obtain ⟨a, b, t, rfl, _⟩ := h
    rfl
  · obtain ⟨a, b, t, rfl, q⟩ := h
    walk_at "go0"
    refine r_tIf ?_
    walk_at "go"
    unfold WN.stE mx mn at q
    refine r_ite (fun c => ?_) (fun c => ?_)
    · rw [if_pos c] at q
      walk_at "go"
      exact r_newT (len3 rfl) fun p H1 n1 e1 h1 => q p H1 n1 e1 h1
    · rw [if_neg c] at q
      walk_at "go"
      exact q H (Ex.refl _)
def badC (c : Int) (n : Nat) : Prop := c < 1 ∨ (n : Int) < c
instance (c : Int) (n : Nat) : Decidable (badC c n) := by unfold badC; infer_instance
def ckPart (ns : List Int) (P Q : Int) : Option Er := orEr (ckBW ns) (orEr (if badC P ns.length ∨ badC Q ns.length then some (.words (-1)) else none) (ckWs ns))
theorem bw_len {ns : List Int} (h : ckBW ns = none) : ns.length ≤ 4000 := by
  unfold ckBW ckMost at h
  by_cases c : (4000 : Int) < ns.length
  · rw [if_pos c] at h
    cases h
  · omega
def topOf (ns : List Int) (P Q : Int) : Int := mxl (ns.take (mx P Q).toNat)
def spPart (K : PySem.W.Frag) (CT CW : Addr) : Sp := fun vs H Q E => ∃ (a : Addr) (ns : List Int) (c d : Int), vs = [.ref a, .int c, .int d] ∧ SqL K H a (ns.map V.int) ∧
  match ckPart ns c d with
  | some e => Raised CT CW e H E
  | none => OptT (WN.stE (gi ns (c - 1)) (gi ns (d - 1)) (topOf ns c d)) H Q
abbrev s_parting_widths : Stmt := top 18
theorem sc_parting_widths : FnScope ["widths", "P", "Q", "cell"] ["widths", "P", "Q"] (defScope s_parting_widths) := ⟨rfl, rfl, rfl, by decide +kernel, rfl, by decide +kernel, by decide +kernel⟩
theorem ok_parting (T : Txt K mg CB tWs tW tR a_SIGNS_OF_FIGURE) (F : At K mg "parting_widths" s_parting_widths ["widths", "P", "Q"]) (x_BadWords : Exn P w K mg base "BadWords" "place" CW) (d_whole_from : Def P w K mg base "whole_from" 2 ["value", "least"] spWholeFrom)
    (d_bound_widths : Def P w K mg base "bound_widths" 5 ["widths"] (spBW K CT CW)) (d_check_widths : Def P w K mg base "check_widths" 3 ["widths"] (spWs K CT CW)) (d_stretch_ends : Def P w K mg base "stretch_ends" 1 ["one", "other", "top"] spEnds) :
    Def P w K mg base "parting_widths" 6 ["widths", "P", "Q"] (spPart K CT CW) := by
  refine Def.mk' F sc_parting_widths (fun vs H Q E h => ?_) (fun f cdv Ar outer s H vs Q E hr h => ⟨_, (pss_cons (ps_expr (pe_d d_bound_widths (hr.mono (by decide)) (passes_call (takes_of rfl rfl rfl rfl) (fun _ _ _ _ h => h)) (pa_cons (pv 0) pa_nil)))
      (pss_cons (ps_for (passes_of rfl) rfl (pi_tup (pe_tup (pa_cons (pv 1) (pa_cons (pv 2) pa_nil)))) (pg_name (i := 3) sc_parting_widths.nd rfl (Or.inl rfl)) (pss_one (ps_if (PW.pt (pw_or (pt_not (pt_val (pe_d d_whole_from (hr.mono (by decide)) (passes_call (takes_of rfl rfl rfl rfl) (fun _ _ _ _ h => h)) (pa_cons (pv 3) (pa_cons pe_int pa_nil))))) (pw_or1 (pt_cmpR op_gt (pv 3) (pe_callB (r := Lay.rLen K) c_len rfl T.n_len PySem.boot_len (pa_cons (pv 0) pa_nil)) (nomark _))))) (pss_one (ps_raiseE x_BadWords rfl (hr.mono (by decide)) (takes_of rfl rfl rfl rfl) (pe_un un_neg pe_int))) pss_nil)))
      (pss_cons (ps_expr (pe_d d_check_widths (hr.mono (by decide)) (passes_call (takes_of rfl rfl rfl rfl) (fun _ _ _ _ h => h)) (pa_cons (pv 0) pa_nil)))
      (pss_one (ps_ret (pe_d d_stretch_ends (hr.mono (by decide)) (passes_call (takes_of rfl rfl rfl rfl) (fun _ _ _ _ h => h)) (pa_cons (pe_ix (r := rIxL K) ix_list (pv 0) (pe_op op_sub (pv 1) pe_int) (fun _ _ => rfl)) (pa_cons (pe_ix (r := rIxL K) ix_list (pv 0) (pe_op op_sub (pv 2) pe_int) (fun _ _ => rfl)) (pa_cons (pe_callB (r := rMax K) (cr_max rfl) rfl T.n_max (by decide +kernel) (pa_cons (pe_slice (r := rSlL K) sl_list (pv 0) po_none (po_some (pe_callB (c_max2 rfl) rfl T.n_max (by decide +kernel) (pa_cons (pv 1) (pa_cons (pv 2) pa_nil))))) pa_nil)) pa_nil))))))))), ?_⟩)
  · obtain ⟨a, ns, c, d, rfl, _⟩ := h
    rfl
  · obtain ⟨a, ns, c, d, rfl, ha, q⟩ := h
    walk_at "go0"
    refine ⟨a, ns, rfl, ha, ?_⟩
    unfold ckPart at q
    cases c1 : ckBW ns with
    | some e =>
      rw [c1] at q
      exact q
    | none =>
      rw [c1] at q
      have hl := bw_len c1
      intro H1 e1
      walk_at "go"
      refine r_newT (len3 rfl) fun t H2 n2 e2 h2 => ?_
      refine forT (xs := [.int c, .int d]) (by walk_at "st") (fun i σ' H' => (∃ v, σ' = [some (.ref a), some (.int c), some (.int d), v]) ∧ H' = H2 ∧ (0 < i → ¬ badC c ns.length) ∧ (1 < i → ¬ badC d ns.length)) ?_ ?_ ?_ ?_
      · exact ⟨⟨_, rfl⟩, rfl, fun h => absurd h (by decide), fun h => absurd h (by decide)⟩
      · rintro i σ' H' _ ⟨_, rfl, _⟩
        walk_at "st"
      · rintro i x σ' H' hx ⟨⟨v, rfl⟩, rfl, k1, k2⟩
        obtain ⟨z, rfl, hz⟩ : ∃ z : Int, x = .int z ∧ (i = 0 ∧ z = c ∨ i = 1 ∧ z = d) := by
          match i, hx with
          | 0, hx => cases hx; exact ⟨_, rfl, .inl ⟨rfl, rfl⟩⟩
          | 1, hx => cases hx; exact ⟨_, rfl, .inr ⟨rfl, rfl⟩⟩
        have bad : badC z ns.length → Raised CT CW (.words (-1)) H' E := fun hb => by
          have hb2 : badC c ns.length ∨ badC d ns.length := by
            rcases hz with ⟨_, rfl⟩ | ⟨_, rfl⟩
            · exact .inl hb
            · exact .inr hb
          rw [if_pos hb2] at q
          have q' : Raised CT CW (.words (-1)) H E := q
          exact q'.mono (e1.trans e2)
        walk_at "go"
        refine ⟨z, 1, rfl, ?_⟩
        walk_at "go"
        have next : ¬ badC z ns.length → (∃ v, ([some (.ref a), some (.int c), some (.int d), some (.int z)] : L2.St) = [some (.ref a), some (.int c), some (.int d), v]) ∧ H' = H' ∧ (0 < i + 1 → ¬ badC c ns.length) ∧ (1 < i + 1 → ¬ badC d ns.length) := fun nb => by
          refine ⟨⟨_, rfl⟩, rfl, fun h => ?_, fun h => ?_⟩
          · rcases hz with ⟨rfl, rfl⟩ | ⟨rfl, rfl⟩
            · exact nb
            · exact k1 (by decide)
          · rcases hz with ⟨rfl, rfl⟩ | ⟨rfl, rfl⟩
            · exact absurd h (by decide)
            · exact nb
        refine r_iteN (fun c => ?_) (fun c => ?_)
        · walk_at "go"
          exact ⟨tell_int (by omega) (by omega), bad (.inl (by omega))⟩
        · walk_at "go"
          refine r_ite (fun c2 => ?_) (fun c2 => ?_)
          · walk_at "go"
            exact ⟨tell_int (by omega) (by omega), bad (.inr (by omega))⟩
          · walk_at "go"
            exact next fun z => by rcases z with z | z <;> omega
      · rintro σ' H' ⟨⟨v, rfl⟩, rfl, k1, k2⟩
        have b1 := k1 (Nat.le_of_ble_eq_true rfl)
        have b2 := k2 (Nat.le_of_ble_eq_true rfl)
        rw [if_neg (fun z => z.elim b1 b2)] at q
        have l1 : 1 ≤ c ∧ c ≤ ns.length := ⟨by unfold badC at b1; omega, by unfold badC at b1; omega⟩
        have l2 : 1 ≤ d ∧ d ≤ ns.length := ⟨by unfold badC at b2; omega, by unfold badC at b2; omega⟩
        walk_at "go"
        refine ⟨a, ns, rfl, by walk_at "sq", by omega, ?_⟩
        cases c3 : ckWs ns with
        | some e =>
          rw [c3] at q
          have q' : Raised CT CW e H E := q
          exact q'.mono (e1.trans e2)
        | none =>
          rw [c3] at q
          have q' : OptT (WN.stE (gi ns (c - 1)) (gi ns (d - 1)) (topOf ns c d)) H Q := q
          intro H3 e3
          have lm : 1 ≤ mx c d ∧ mx c d ≤ ns.length := by unfold mx; split <;> omega
          walk_at "go"
          have em : (if d > c then d else c) = (((mx c d).toNat : Nat) : Int) := by
            show mx c d = _
            omega
          refine r_slE (ns := ns) (e := (mx c d).toNat) (by walk_at "sq") em (by omega) fun p2 H4 n4 e4 h4 => ?_
          walk_at "go"
          refine r_maxI (ns := ns.take (mx c d).toNat) (by walk_at "sq") (by rw [List.length_take]; omega) ?_
          walk_at "go"
          exact ⟨_, _, _, rfl, q'.mono (by walk_at "ex")⟩
def ckParted (a b m : Int) : Option Er := orEr (ckNums "width" [a, b] 400) (orEr (ckLine m) (ckWs [a, b]))
/-- the word that shows a stretch -/
def wordOf (a b m : Int) : Int := mx 1 (m - mx a b)
def spParted (K : PySem.W.Frag) (CT CW : Addr) : Sp := fun vs H Q E => ∃ a b m : Int, vs = [.int a, .int b, .int m] ∧
  match ckParted a b m with
  | some e => Raised CT CW e H E
  | none => (WN.inS a b m ∧ mx a b ≤ m → ∀ t l r H2, Ex H H2 → H2 t = some (.tup [.ref l, .ref r]) → H2 l = some (.lst ([wordOf a b m].map V.int)) → H2 r = some (.lst ([wordOf a b m].map V.int)) → Q (.ref t) H2) ∧ (¬ (WN.inS a b m ∧ mx a b ≤ m) → ∀ H2, Ex H H2 → Q .non H2)
abbrev s_parted_words : Stmt := top 19
theorem sc_parted_words : FnScope ["a", "b", "width", "ends", "word"] ["a", "b", "width"] (defScope s_parted_words) := ⟨rfl, rfl, rfl, by decide +kernel, rfl, by decide +kernel, by decide +kernel⟩
theorem ok_parted (T : Txt K mg CB tWs tW tR a_SIGNS_OF_FIGURE) (F : At K mg "parted_words" s_parted_words ["a", "b", "width"]) (d_check_numbers : Def P w K mg base "check_numbers" 4 ["what", "numbers", "most"] (spNums K CT CW)) (d_check_line : Def P w K mg base "check_line" 3 ["width"] (spLine CT CW))
    (d_check_widths : Def P w K mg base "check_widths" 3 ["widths"] (spWs K CT CW)) (d_stretch_ends : Def P w K mg base "stretch_ends" 1 ["one", "other", "top"] spEnds) :
    Def P w K mg base "parted_words" 5 ["a", "b", "width"] (spParted K CT CW) := by
  refine Def.mk' F sc_parted_words (fun vs H Q E h => ?_) (fun f cdv Ar outer s H vs Q E hr h => ⟨_, (pss_cons (ps_expr (pe_d d_check_numbers (hr.mono (by decide)) (passes_call (takes_of rfl rfl rfl rfl) (fun _ _ _ _ h => h)) (pa_cons pe_str (pa_cons (pe_lst (pa_cons (pv 0) (pa_cons (pv 1) pa_nil))) (pa_cons (pe_glob (v := .int 400) rfl T.g_WIDTH ⟨_, rfl⟩) pa_nil)))))
      (pss_cons (ps_expr (pe_d d_check_line (hr.mono (by decide)) (passes_call (takes_of rfl rfl rfl rfl) (fun _ _ _ _ h => h)) (pa_cons (pv 2) pa_nil)))
      (pss_cons (ps_expr (pe_d d_check_widths (hr.mono (by decide)) (passes_call (takes_of rfl rfl rfl rfl) (fun _ _ _ _ h => h)) (pa_cons (pe_lst (pa_cons (pv 0) (pa_cons (pv 1) pa_nil))) pa_nil)))
      (pss_cons (ps_set (i := 3) sc_parted_words.nd rfl (Or.inl rfl) (pe_d d_stretch_ends (hr.mono (by decide)) (passes_call (takes_of rfl rfl rfl rfl) (fun _ _ _ _ h => h)) (pa_cons (pv 0) (pa_cons (pv 1) (pa_cons (pe_callB (c_max2 rfl) rfl T.n_max (by decide +kernel) (pa_cons (pv 0) (pa_cons (pv 1) pa_nil))) pa_nil)))))
      (pss_cons (ps_if (PW.pt (pw_or (pt_cmpR op_isN1 (pv 3) pe_non (nomark _)) (pw_or1 (pt_not (pt_chain op_le op_le (pe_ix (r := rIxT K) ix_tup (pv 3) pe_int (fun _ _ => rfl)) (pv 2) (pe_ix (r := rIxT K) ix_tup (pv 3) pe_int (fun _ _ => rfl))))))) (pss_one (ps_ret pe_non)) pss_nil)
      (pss_cons (ps_set (i := 4) sc_parted_words.nd rfl (Or.inl rfl) (pe_callB (c_max2 rfl) rfl T.n_max (by decide +kernel) (pa_cons pe_int (pa_cons (pe_op op_sub (pv 2) (pe_callB (c_max2 rfl) rfl T.n_max (by decide +kernel) (pa_cons (pv 0) (pa_cons (pv 1) pa_nil)))) pa_nil))))
      (pss_one (ps_ret (pe_tup (pa_cons (pe_lst (pa_cons (pv 4) pa_nil)) (pa_cons (pe_lst (pa_cons (pv 4) pa_nil)) pa_nil))))))))))), ?_⟩)
  · obtain ⟨a, b, m, rfl, _⟩ := h
    rfl
  · obtain ⟨a, b, m, rfl, q⟩ := h
    walk_at "gn0"
    refine ⟨"width", _, [a, b], 400, rfl, by decide +kernel, by walk_at "sq", ?_⟩
    unfold ckParted at q
    cases c1 : ckNums "width" [a, b] 400 with
    | some e =>
      rw [c1] at q
      exact Raised.mono q (by walk_at "ex")
    | none =>
      rw [c1] at q
      intro H1 e1
      walk_at "gn"
      refine ⟨m, rfl, ?_⟩
      cases c2 : ckLine m with
      | some e =>
        rw [c2] at q
        exact Raised.mono q (by walk_at "ex")
      | none =>
        rw [c2] at q
        intro H2 e2
        walk_at "gn"
        refine ⟨_, [a, b], rfl, by walk_at "sq", Nat.le_of_ble_eq_true rfl, ?_⟩
        cases c3 : ckWs [a, b] with
        | some e =>
          rw [c3] at q
          exact Raised.mono q (by walk_at "ex")
        | none =>
          rw [c3] at q
          obtain ⟨q1, q2⟩ := q
          intro H3 e3
          have eH : Ex H H3 := by walk_at "ex"
          walk_at "go"
          have key := WN.stE_in (a := a) (b := b) (w := m) (top := mx a b)
          refine ⟨a, b, mx a b, rfl, ?_⟩
          cases hs : WN.stE a b (mx a b) with
          | none =>
            intro H4 e4
            walk_at "go"
            refine r_yes rfl ?_
            walk_at "go"
            refine q2 (fun z => ?_) H4 (by walk_at "ex")
            obtain ⟨f', l', h', _⟩ := (key z.2).mpr z.1
            rw [hs] at h'
            cases h'
          | some x =>
            intro p4 H4 n4 e4 h4
            walk_at "go"
            refine r_no (fun z => by cases z) ?_
            walk_at "go"
            obtain ⟨f', l'⟩ := x
            have ht := WN.stE_top hs
            have no : ¬ (f' ≤ m ∧ m ≤ l') → ∀ H2, Ex H H2 → Q .non H2 := fun z => q2 fun y => by
              obtain ⟨f2, l2, h2, k1, k2⟩ := (key y.2).mpr y.1
              rw [hs] at h2
              cases h2
              exact z ⟨k1, k2⟩
            refine r_ite (fun k1 => ?_) (fun k1 => ?_)
            · walk_at "go"
              refine r_iteN (fun k2 => ?_) (fun k2 => ?_)
              · walk_at "go"
                exact no (fun z => k2 z.2) H4 (by walk_at "ex")
              · walk_at "go"
                have hm : mx a b ≤ m := by omega
                refine r_newI1 fun l1 H5 n5 e5 h5 => ?_
                walk_at "go"
                refine r_newI1 fun l2 H6 n6 e6 h6 => ?_
                walk_at "go"
                refine r_newT (len3 rfl) fun t H7 n7 e7 h7 => ?_
                exact q1 ⟨(key hm).mp ⟨f', l', hs, k1, k2⟩, hm⟩ t l1 l2 H7 (by walk_at "ex") h7 (by walk_at "hp") (by walk_at "hp")
            · walk_at "go"
              exact no (fun z => k1 z.1) H4 (by walk_at "ex")
end
end K07
namespace K07
open PySem PySem.Spec PyProof.Rows L2 Evl Lay
section
variable {P : Program} {w : World} {K : PySem.W.Frag} {mg : Str → Option Value} {base : Heap} {CB CT CW : Addr} {tWs tW tR : Tok}
variable {a_SIGNS_OF_FIGURE : Addr}
/-! ### numerals -/
def ckMany (c : Int) : Option Er := if c < 0 then some (.words (-1)) else none
def spMany (CT CW : Addr) : Sp := fun vs H Q E => ∃ c : Int, vs = [.int c] ∧ Outc CT CW (ckMany c) H Q E
abbrev s_check_many : Stmt := top 23
theorem sc_check_many : FnScope ["cells"] ["cells"] (defScope s_check_many) := ⟨rfl, rfl, rfl, by decide +kernel, rfl, by decide +kernel, by decide +kernel⟩
theorem ok_check_many (T : Txt K mg CB tWs tW tR a_SIGNS_OF_FIGURE) (F : At K mg "check_many" s_check_many ["cells"]) (x_BadWords : Exn P w K mg base "BadWords" "place" CW) (d_whole_from : Def P w K mg base "whole_from" 2 ["value", "least"] spWholeFrom) :
    Def P w K mg base "check_many" 3 ["cells"] (spMany CT CW) := by
  refine Def.mk' F sc_check_many (fun vs H Q E h => ?_) (fun f cdv Ar outer s H vs Q E hr h => ⟨_, (pss_one (ps_if (pt_not (pt_val (pe_d d_whole_from (hr.mono (by decide)) (passes_call (takes_of rfl rfl rfl rfl) (fun _ _ _ _ h => h)) (pa_cons (pv 0) (pa_cons pe_int pa_nil))))) (pss_one (ps_raiseE x_BadWords rfl (hr.mono (by decide)) (takes_of rfl rfl rfl rfl) (pe_un un_neg pe_int))) pss_nil)), ?_⟩)
  · obtain ⟨m, rfl, _⟩ := h
    rfl
  · obtain ⟨m, rfl, q⟩ := h
    walk_at "go0"
    refine ⟨m, 0, rfl, ?_⟩
    walk_at "go"
    unfold ckMany at q
    refine r_iteN (fun c => ?_) (fun c => ?_)
    · walk_at "go"
      rw [if_pos (by omega)] at q
      exact ⟨tell_int (by omega) (by omega), q⟩
    · walk_at "go"
      rw [if_neg (by omega)] at q
      exact q H (Ex.refl H)
def ckFig (c : Int) (most : Int) : Option Er := orEr (ckMost "widths" c most) (ckMany c)
def figs (c : Int) : List Int := (List.range c.toNat).map fun i => ((WN.figN (i + 1) : Nat) : Int)
def roms (c : Int) : List Int := (List.range c.toNat).map fun i => ((WN.romP (i + 1) : Nat) : Int)
def spFigs (CT CW : Addr) (most : Int) (f : Int → List Int) : Sp := fun vs H Q E => ∃ c : Int, vs = [.int c] ∧
  match ckFig c most with
  | some e => Raised CT CW e H E
  | none => ∀ p H2, H p = none → Ex H H2 → H2 p = some (.lst ((f c).map V.int)) → Q (.ref p) H2
theorem fig_in {c most : Int} (h : ckFig c most = none) : 0 ≤ c ∧ c ≤ most := by
  unfold ckFig orEr ckMost ckMany at h
  by_cases a : most < c
  · rw [if_pos a] at h
    cases h
  · rw [if_neg a] at h
    by_cases b : c < 0
    · change (if c < 0 then some (Er.words (-1)) else none) = none at h
      rw [if_pos b] at h
      cases h
    · omega
abbrev s_figure_widths : Stmt := top 24
theorem sc_figure_widths : FnScope ["cells", "number"] ["cells"] (defScope s_figure_widths) := ⟨rfl, rfl, rfl, by decide +kernel, rfl, by decide +kernel, by decide +kernel⟩
theorem ok_figures (T : Txt K mg CB tWs tW tR a_SIGNS_OF_FIGURE) (F : At K mg "figure_widths" s_figure_widths ["cells"]) (d_check_most : Def P w K mg base "check_most" 3 ["what", "many", "most"] (spMost CT CW)) (d_check_many : Def P w K mg base "check_many" 3 ["cells"] (spMany CT CW)) :
    Def P w K mg base "figure_widths" 4 ["cells"] (spFigs CT CW 4000 figs) := by
  refine Def.mk' F sc_figure_widths (fun vs H Q E h => ?_) (fun f cdv Ar outer s H vs Q E hr h => ⟨_, (pss_cons (ps_expr (pe_d d_check_most (hr.mono (by decide)) (passes_call (takes_of rfl rfl rfl rfl) (fun _ _ _ _ h => h)) (pa_cons pe_str (pa_cons (pv 0) (pa_cons (pe_glob (v := .int 4000) rfl T.g_WIDTHS ⟨_, rfl⟩) pa_nil)))))
      (pss_cons (ps_expr (pe_d d_check_many (hr.mono (by decide)) (passes_call (takes_of rfl rfl rfl rfl) (fun _ _ _ _ h => h)) (pa_cons (pv 0) pa_nil)))
      (pss_one (ps_ret (pe_lc (own := [("number", 1)]) (g := gName 1) (tt := tYes) rfl sc_figure_widths.nd (pi_range2 rfl T.n_range (pa_cons pe_int (pa_cons (pe_op op_add (pv 0) pe_int) pa_nil))) (blkOk_by (own := [("number", 1)]) (N := ["cells", "number"]) (sc := defScope s_figure_widths) (by decide +kernel)) (fun _ _ _ _ _ => (pg_name (i := 1) sc_figure_widths.nd rfl (Or.inl rfl))) (fun _ _ _ _ _ => pts_nil) (fun _ _ _ _ _ => (pe_callB c_lenS rfl T.n_len PySem.boot_len (pa_cons (pe_callTy c_str rfl T.n_str (by decide +kernel) (pa_cons (pv 1) pa_nil)) pa_nil)))))))), ?_⟩)
  · obtain ⟨c, rfl, _⟩ := h
    rfl
  · obtain ⟨c, rfl, q⟩ := h
    walk_at "go0"
    refine ⟨"widths", c, 4000, rfl, by decide +kernel, ?_⟩
    cases hc : ckFig c 4000 with
    | some e =>
      rw [hc] at q
      have q' : Outc CT CW (ckFig c 4000) H Q E := by rw [hc]; exact q
      refine Outc.or q' (Ex.refl _) fun H1 e1 c1 q => ?_
      walk_at "go"
      refine ⟨c, rfl, ?_⟩
      have h2 : ckMany c = some e := by
        unfold ckFig at hc
        rw [c1] at hc
        exact hc
      rw [h2] at q ⊢
      exact q
    | none =>
      rw [hc] at q
      obtain ⟨c0, c4⟩ := fig_in hc
      unfold ckMost
      rw [if_neg (by omega)]
      intro H1 e1
      walk_at "go"
      refine ⟨c, rfl, ?_⟩
      unfold ckMany
      rw [if_neg (by omega)]
      intro H2 e2
      walk_at "go"
      refine lcF2 (f := fun i => ((WN.figN (i + 1) : Nat) : Int)) (by omega) (by omega) (by omega) (fun k h R hk e hR => ?_) (fun p h n e hp => ?_) (fun _ => rfl)
      · walk_at "go"
        have hs : (Str.ofString (toString (1 + (k : Int)))).length = WN.figN (k + 1) := by
          rw [show (1 : Int) + (k : Int) = ((k + 1 : Nat) : Int) by omega]
          exact WN.fig_str (by omega)
        refine r_lenS (by rw [hs]; unfold WN.figN; split; decide; split; decide; split <;> decide) ?_
        rw [hs]
        exact hR h (Ex.refl _)
      · rw [show c + 1 - 1 = c by omega] at hp
        exact q p h (by walk_at "fr") (by walk_at "ex") hp
def sgs : List Int := [0, 1, 2, 3, 2, 1, 2, 3, 4, 2]
theorem sg_at {d : Nat} (h : d < 10) : atI (sgs.map V.int) (d : Int) = some (.int ((WN.sg d : Nat) : Int)) := by
  refine atI_nat ?_
  have : d = 0 ∨ d = 1 ∨ d = 2 ∨ d = 3 ∨ d = 4 ∨ d = 5 ∨ d = 6 ∨ d = 7 ∨ d = 8 ∨ d = 9 := by omega
  rcases this with rfl | rfl | rfl | rfl | rfl | rfl | rfl | rfl | rfl | rfl <;> rfl
def rs (n : Nat) : Nat → Nat
  | 0 => n / 1000
  | 1 => n / 1000 + WN.sg (n % 10)
  | 2 => n / 1000 + WN.sg (n % 10) + WN.sg (n / 10 % 10)
  | _ => WN.romP n
theorem rs_step {n i : Nat} {x : V} (h : ([.int 1, .int 10, .int 100] : List V)[i]? = some x) : ∃ z : Nat, x = .int z ∧ 1 ≤ z ∧ z ≤ 100 ∧ rs n (i + 1) = rs n i + WN.sg (n / z % 10) := by
  match i, h with
  | 0, h => cases h; exact ⟨1, rfl, by decide, by decide, by show n / 1000 + WN.sg (n % 10) = _; rw [Nat.div_one]; rfl⟩
  | 1, h => cases h; exact ⟨10, rfl, by decide, by decide, rfl⟩
  | 2, h => cases h; exact ⟨100, rfl, by decide, by decide, rfl⟩
def spRomW : Sp := fun vs H Q _ => ∃ n : Nat, vs = [.int n] ∧ n ≤ 100000 ∧ ∀ H2, Ex H H2 → Q (.int (WN.romP n : Nat)) H2
abbrev s_roman_width : Stmt := top 25
theorem sc_roman_width : FnScope ["number", "signs", "power"] ["number"] (defScope s_roman_width) := ⟨rfl, rfl, rfl, by decide +kernel, rfl, by decide +kernel, by decide +kernel⟩
theorem ok_roman_width (T : Txt K mg CB tWs tW tR a_SIGNS_OF_FIGURE) (F : At K mg "roman_width" s_roman_width ["number"]) : Def P w K mg base "roman_width" 1 ["number"] spRomW := by
  refine Def.mk' F sc_roman_width (fun vs H Q E h => ?_) (fun f cdv Ar outer s H vs Q E hr h => ⟨_, (pss_cons (ps_set (i := 1) sc_roman_width.nd rfl (Or.inl rfl) (pe_op op_fdiv (pv 0) pe_int))
      (pss_cons (ps_for (passes_of rfl) rfl (pi_tup (pe_tup (pa_cons pe_int (pa_cons pe_int (pa_cons pe_int pa_nil))))) (pg_name (i := 2) sc_roman_width.nd rfl (Or.inl rfl)) (pss_one (ps_aug (i := 1) sc_roman_width.nd rfl (Or.inl rfl) (pe_ix (r := rIxT K) ix_tup (pe_glob (v := .ref a_SIGNS_OF_FIGURE) rfl T.g_SIGNS_OF_FIGURE rfl) (pe_op op_mod (pe_op op_fdivN (pv 0) (pv 2)) pe_int) (fun _ _ => rfl)) ip_add)))
      (pss_one (ps_ret (pv 1))))), ?_⟩)
  · obtain ⟨n, rfl, _⟩ := h
    rfl
  · obtain ⟨n, rfl, hn, q⟩ := h
    walk_at "go0"
    refine r_newT (len3 rfl) fun t H2 n2 e2 h2 => ?_
    walk_at "go"
    refine forT (xs := [.int 1, .int 10, .int 100]) (by walk_at "st") (fun i σ' H' => (∃ v, σ' = [some (.int n), some (.int (rs n i : Nat)), v]) ∧ H' = H2) ⟨⟨_, rfl⟩, rfl⟩ ?_ ?_ ?_
    · rintro i σ' H' _ ⟨_, rfl⟩
      walk_at "st"
    · rintro i x σ' H' hx ⟨⟨v, rfl⟩, rfl⟩
      obtain ⟨z, rfl, z1, z2, hz⟩ := rs_step (n := n) hx
      walk_at "go"
      have ei : ((n : Int).fdiv (z : Int)) % 10 = ((n / z % 10 : Nat) : Int) := by
        rw [Int.fdiv_eq_ediv_of_nonneg _ (by omega)]
        omega
      rw [ei]
      refine r_ixT (T.q_SIGNS_OF_FIGURE _) (sg_at (by omega)) ?_
      walk_at "go"
      exact ⟨⟨_, by rw [hz]; rfl⟩, rfl⟩
    · rintro σ' H' ⟨⟨v, rfl⟩, rfl⟩
      walk_at "go"
      exact q _ (by walk_at "ex")
abbrev s_roman_widths : Stmt := top 26
theorem sc_roman_widths : FnScope ["cells", "number"] ["cells"] (defScope s_roman_widths) := ⟨rfl, rfl, rfl, by decide +kernel, rfl, by decide +kernel, by decide +kernel⟩
theorem ok_romans (T : Txt K mg CB tWs tW tR a_SIGNS_OF_FIGURE) (F : At K mg "roman_widths" s_roman_widths ["cells"]) (d_check_most : Def P w K mg base "check_most" 3 ["what", "many", "most"] (spMost CT CW)) (d_check_many : Def P w K mg base "check_many" 3 ["cells"] (spMany CT CW)) (d_roman_width : Def P w K mg base "roman_width" 1 ["number"] spRomW) :
    Def P w K mg base "roman_widths" 4 ["cells"] (spFigs CT CW 3999 roms) := by
  refine Def.mk' F sc_roman_widths (fun vs H Q E h => ?_) (fun f cdv Ar outer s H vs Q E hr h => ⟨_, (pss_cons (ps_expr (pe_d d_check_most (hr.mono (by decide)) (passes_call (takes_of rfl rfl rfl rfl) (fun _ _ _ _ h => h)) (pa_cons pe_str (pa_cons (pv 0) (pa_cons (pe_glob (v := .int 3999) rfl T.g_MOST_ROMAN ⟨_, rfl⟩) pa_nil)))))
      (pss_cons (ps_expr (pe_d d_check_many (hr.mono (by decide)) (passes_call (takes_of rfl rfl rfl rfl) (fun _ _ _ _ h => h)) (pa_cons (pv 0) pa_nil)))
      (pss_one (ps_ret (pe_lc (own := [("number", 1)]) (g := gName 1) (tt := tYes) rfl sc_roman_widths.nd (pi_range2 rfl T.n_range (pa_cons pe_int (pa_cons (pe_op op_add (pv 0) pe_int) pa_nil))) (blkOk_by (own := [("number", 1)]) (N := ["cells", "number"]) (sc := defScope s_roman_widths) (by decide +kernel)) (fun _ _ _ _ _ => (pg_name (i := 1) sc_roman_widths.nd rfl (Or.inl rfl))) (fun _ _ _ _ _ => pts_nil) (fun _ _ _ _ _ => (pe_d d_roman_width (hr.mono (by decide)) passL (pa_cons (pv 1) pa_nil)))))))), ?_⟩)
  · obtain ⟨c, rfl, _⟩ := h
    rfl
  · obtain ⟨c, rfl, q⟩ := h
    walk_at "go0"
    refine ⟨"widths", c, 3999, rfl, by decide +kernel, ?_⟩
    cases hc : ckFig c 3999 with
    | some e =>
      rw [hc] at q
      have q' : Outc CT CW (ckFig c 3999) H Q E := by rw [hc]; exact q
      refine Outc.or q' (Ex.refl _) fun H1 e1 c1 q => ?_
      walk_at "go"
      refine ⟨c, rfl, ?_⟩
      have h2 : ckMany c = some e := by
        unfold ckFig at hc
        rw [c1] at hc
        exact hc
      rw [h2] at q ⊢
      exact q
    | none =>
      rw [hc] at q
      obtain ⟨c0, c4⟩ := fig_in hc
      unfold ckMost
      rw [if_neg (by omega)]
      intro H1 e1
      walk_at "go"
      refine ⟨c, rfl, ?_⟩
      unfold ckMany
      rw [if_neg (by omega)]
      intro H2 e2
      walk_at "go"
      refine lcF2 (f := fun i => ((WN.romP (i + 1) : Nat) : Int)) (by omega) (by omega) (by omega) (fun k h R hk e hR => ?_) (fun p h n e hp => ?_) (fun _ => rfl)
      · walk_at "go"
        exact ⟨k + 1, by rw [show (1 : Int) + (k : Int) = ((k + 1 : Nat) : Int) by omega], by omega, fun h2 e2 => hR h2 e2⟩
      · rw [show c + 1 - 1 = c by omega] at hp
        exact q p h (by walk_at "fr") (by walk_at "ex") hp
/-! ### the law's own numerals -/
def spLFig : Sp := fun vs H Q _ => ∃ n : Nat, vs = [.int n] ∧ 1 ≤ n ∧ n ≤ 4000 ∧ ∀ H2, Ex H H2 → Q (.int (WN.figN n : Nat)) H2
abbrev s__law_figures : Stmt := top 36
theorem sc__law_figures : FnScope ["number", "many", "power"] ["number"] (defScope s__law_figures) := ⟨rfl, rfl, rfl, by decide +kernel, rfl, by decide +kernel, by decide +kernel⟩
theorem ok_lfigures (T : Txt K mg CB tWs tW tR a_SIGNS_OF_FIGURE) (F : At K mg "_law_figures" s__law_figures ["number"]) : Def P w K mg base "_law_figures" 1 ["number"] spLFig := by
  refine Def.mk' F sc__law_figures (fun vs H Q E h => ?_) (fun f cdv Ar outer s H vs Q E hr h => ⟨_, (pss_cons (ps_set (i := 1) sc__law_figures.nd rfl (Or.inl rfl) pe_int)
      (pss_cons (ps_set (i := 2) sc__law_figures.nd rfl (Or.inl rfl) pe_int)
      (pss_cons (ps_while (passes_of rfl) (pt_cmpR op_le (pv 2) (pv 0) (nomark _)) (pss_cons (ps_aug (i := 1) sc__law_figures.nd rfl (Or.inl rfl) pe_int ip_add)
      (pss_one (ps_set (i := 2) sc__law_figures.nd rfl (Or.inl rfl) (pe_op op_mul (pv 2) pe_int)))))
      (pss_one (ps_ret (pv 1)))))), ?_⟩)
  · obtain ⟨n, rfl, _⟩ := h
    rfl
  · obtain ⟨n, rfl, n1, n4, q⟩ := h
    walk_at "go0"
    refine r_while (fun μ σ' H' => ∃ m p : Int, σ' = [some (.int n), some (.int m), some (.int p)] ∧ H' = H ∧ ((m = 1 ∧ p = 10 ∧ μ = 4) ∨ (m = 2 ∧ p = 100 ∧ μ = 3 ∧ 10 ≤ n) ∨ (m = 3 ∧ p = 1000 ∧ μ = 2 ∧ 100 ≤ n) ∨ (m = 4 ∧ p = 10000 ∧ μ = 1 ∧ 1000 ≤ n))) 4 ⟨1, 10, rfl, rfl, .inl ⟨rfl, rfl, rfl⟩⟩ ?_
    rintro μ σ' H' ⟨m, p, rfl, rfl, hm⟩
    walk_at "go"
    refine whB (fun c => ?_) (fun c => ?_)
    · walk_at "go"
      refine ⟨μ - 1, by omega, m + 1, p * 10, rfl, rfl, by omega⟩
    · walk_at "go"
      have e : m = ((WN.figN n : Nat) : Int) := by
        unfold WN.figN
        split
        · omega
        · split
          · omega
          · split <;> omega
      rw [e]
      exact q _ (Ex.refl _)
def spLRom : Sp := fun vs H Q _ => ∃ n : Nat, vs = [.int n] ∧ 1 ≤ n ∧ n ≤ 4000 ∧ ∀ H2, Ex H H2 → Q (.int (WN.romP n : Nat)) H2
def pairV (H : Hp) (x : V) (z : Nat × Nat) : Prop := ∃ t, x = .ref t ∧ H t = some (.tup [.int z.1, .int z.2])
theorem tab_pos {i : Nat} {z : Nat × Nat} (h : WN.tab[i]? = some z) : 1 ≤ z.1 := by
  have : WN.tab.all fun z => decide (1 ≤ z.1) := by decide
  exact of_decide_eq_true (List.all_eq_true.mp this z (List.mem_of_getElem? h))
theorem dv {a v j : Nat} (hj : j * v ≤ a) : (v ≤ a - j * v → (j + 1) * v ≤ a) ∧ (¬ v ≤ a - j * v → j = a / v ∧ a - j * v = a % v) := by
  refine ⟨fun h => by rw [Nat.succ_mul]; omega, fun h => ?_⟩
  have e : a / v = j := Nat.div_eq_of_lt_le hj (by rw [Nat.succ_mul]; omega)
  have m := Nat.div_add_mod a v
  rw [e, Nat.mul_comm] at m
  exact ⟨e.symm, by omega⟩
abbrev s__law_roman : Stmt := top 37
theorem sc__law_roman : FnScope ["number", "many", "value", "signs"] ["number"] (defScope s__law_roman) := ⟨rfl, rfl, rfl, by decide +kernel, rfl, by decide +kernel, by decide +kernel⟩
theorem ok_lroman (T : Txt K mg CB tWs tW tR a_SIGNS_OF_FIGURE) (F : At K mg "_law_roman" s__law_roman ["number"]) : Def P w K mg base "_law_roman" 1 ["number"] spLRom := by
  refine Def.mk' F sc__law_roman (fun vs H Q E h => ?_) (fun f cdv Ar outer s H vs Q E hr h => ⟨_, (pss_cons (ps_set (i := 1) sc__law_roman.nd rfl (Or.inl rfl) pe_int)
      (pss_cons (ps_for (passes_of rfl) rfl (pi_list (pe_lst (pa_cons (pe_tup (pa_cons pe_int (pa_cons pe_int pa_nil))) (pa_cons (pe_tup (pa_cons pe_int (pa_cons pe_int pa_nil))) (pa_cons (pe_tup (pa_cons pe_int (pa_cons pe_int pa_nil))) (pa_cons (pe_tup (pa_cons pe_int (pa_cons pe_int pa_nil))) (pa_cons (pe_tup (pa_cons pe_int (pa_cons pe_int pa_nil))) (pa_cons (pe_tup (pa_cons pe_int (pa_cons pe_int pa_nil))) (pa_cons (pe_tup (pa_cons pe_int (pa_cons pe_int pa_nil))) (pa_cons (pe_tup (pa_cons pe_int (pa_cons pe_int pa_nil))) (pa_cons (pe_tup (pa_cons pe_int (pa_cons pe_int pa_nil))) (pa_cons (pe_tup (pa_cons pe_int (pa_cons pe_int pa_nil))) (pa_cons (pe_tup (pa_cons pe_int (pa_cons pe_int pa_nil))) (pa_cons (pe_tup (pa_cons pe_int (pa_cons pe_int pa_nil))) (pa_cons (pe_tup (pa_cons pe_int (pa_cons pe_int pa_nil))) pa_nil))))))))))))))) (pg_tup (n := 2) rfl (pgs_cons (pg_name (i := 2) sc__law_roman.nd rfl (Or.inl rfl)) (pgs_cons (pg_name (i := 3) sc__law_roman.nd rfl (Or.inl rfl)) pgs_nil))) (pss_one (ps_while (passes_of rfl) (pt_cmpR op_ge (pv 0) (pv 2) (nomark _)) (pss_cons (ps_aug (i := 0) sc__law_roman.nd rfl (Or.inl rfl) (pv 2) ip_sub)
      (pss_one (ps_aug (i := 1) sc__law_roman.nd rfl (Or.inl rfl) (pv 3) ip_add))))))
      (pss_one (ps_ret (pv 1))))), ?_⟩)
  · obtain ⟨n, rfl, _⟩ := h
    rfl
  · obtain ⟨n, rfl, n1, n4, q⟩ := h
    walk_at "go0"
    iterate 13
      refine r_newT (len3 rfl) fun _ _ _ _ _ => ?_
      walk_at "go"
    refine r_newL (len3 rfl) fun l H1 nl e1 h1 => ?_
    walk_at "go"
    refine forL (by walk_at "sq") (fun i σ' H' => (∃ v v', σ' = [some (.int (((WN.tab.take i).foldl WN.rst (n, 0)).1 : Nat)), some (.int (((WN.tab.take i).foldl WN.rst (n, 0)).2 : Nat)), v, v']) ∧ H' = H1) ⟨⟨_, _, rfl⟩, rfl⟩ ?_ ?_ ?_
    · rintro i σ' H' _ ⟨_, rfl⟩
      walk_at "sq"
    · rintro i x σ' H' hx ⟨⟨v1, v2, rfl⟩, rfl⟩
      have row : ∃ z, WN.tab[i]? = some z ∧ pairV H' x z := match i, hx with
        | 0, hx => by cases hx; exact ⟨_, rfl, _, rfl, by walk_at "hp"⟩
        | 1, hx => by cases hx; exact ⟨_, rfl, _, rfl, by walk_at "hp"⟩
        | 2, hx => by cases hx; exact ⟨_, rfl, _, rfl, by walk_at "hp"⟩
        | 3, hx => by cases hx; exact ⟨_, rfl, _, rfl, by walk_at "hp"⟩
        | 4, hx => by cases hx; exact ⟨_, rfl, _, rfl, by walk_at "hp"⟩
        | 5, hx => by cases hx; exact ⟨_, rfl, _, rfl, by walk_at "hp"⟩
        | 6, hx => by cases hx; exact ⟨_, rfl, _, rfl, by walk_at "hp"⟩
        | 7, hx => by cases hx; exact ⟨_, rfl, _, rfl, by walk_at "hp"⟩
        | 8, hx => by cases hx; exact ⟨_, rfl, _, rfl, by walk_at "hp"⟩
        | 9, hx => by cases hx; exact ⟨_, rfl, _, rfl, by walk_at "hp"⟩
        | 10, hx => by cases hx; exact ⟨_, rfl, _, rfl, by walk_at "hp"⟩
        | 11, hx => by cases hx; exact ⟨_, rfl, _, rfl, by walk_at "hp"⟩
        | 12, hx => by cases hx; exact ⟨_, rfl, _, rfl, by walk_at "hp"⟩
        | i + 13, hx => by cases hx
      obtain ⟨⟨v, sn⟩, hz, t, rfl, ht⟩ := row
      have v1 := tab_pos hz
      have st : (WN.tab.take (i + 1)).foldl WN.rst (n, 0) = WN.rst ((WN.tab.take i).foldl WN.rst (n, 0)) (v, sn) := by
        rw [List.take_succ, hz, List.foldl_append]
        rfl
      rw [st]
      generalize (WN.tab.take i).foldl WN.rst (n, 0) = ab
      obtain ⟨a, b⟩ := ab
      change 1 ≤ v at v1
      walk_at "go"
      refine r_while (fun μ σ' H2 => ∃ j : Nat, j * v ≤ a ∧ μ = a - j * v ∧ σ' = [some (.int ((a - j * v : Nat) : Int)), some (.int ((b + j * sn : Nat) : Int)), some (.int v), some (.int sn)] ∧ H2 = H') (a - 0 * v) ⟨0, by omega, rfl, by rw [Nat.zero_mul, Nat.zero_mul]; rfl, rfl⟩ ?_
      rintro μ σ' H2 ⟨j, hj, rfl, rfl, rfl⟩
      obtain ⟨d1, d2⟩ := dv hj
      walk_at "go"
      refine whB (fun c => ?_) (fun c => ?_)
      · have k1 := d1 (by omega)
        walk_at "go"
        have es : (j + 1) * v = j * v + v := Nat.succ_mul j v
        have es2 : (j + 1) * sn = j * sn + sn := Nat.succ_mul j sn
        refine ⟨a - (j + 1) * v, by omega, j + 1, k1, rfl, ?_, rfl⟩
        rw [es, es2]
        have q1 : ((a - j * v : Nat) : Int) - (v : Int) = ((a - (j * v + v) : Nat) : Int) := by omega
        have q2 : ((b + j * sn : Nat) : Int) + (sn : Int) = ((b + (j * sn + sn) : Nat) : Int) := by omega
        show [some (V.int (((a - j * v : Nat) : Int) - (v : Int))), some (V.int (((b + j * sn : Nat) : Int) + (sn : Int))), _, _] = _
        rw [q1, q2]
      · obtain ⟨k1, k2⟩ := d2 (by omega)
        exact ⟨⟨_, _, by rw [k2, k1]; rfl⟩, rfl⟩
    · rintro σ' H' ⟨⟨v, v', rfl⟩, rfl⟩
      walk_at "go"
      have e : ((WN.tab.take 13).foldl WN.rst (n, 0)).2 = WN.romP n := WN.rom_eq n4
      have q' := q H' (by walk_at "ex")
      rw [← e] at q'
      exact q'
end
end K07
namespace K07
open PySem PySem.Spec PyProof.Rows L2 Evl Lay
section
variable {P : Program} {w : World} {K : PySem.W.Frag} {mg : Str → Option Value} {base : Heap} {CB CT CW : Addr} {tWs tW tR : Tok}
variable {a_SIGNS_OF_FIGURE : Addr}
/-! ### the law's own -/
def spPurse (K : PySem.W.Frag) : Sp := fun vs H Q _ => ∃ (a : Addr) (ns : List Int) (i : Int), vs = [.ref a, .int i] ∧ SqL K H a (ns.map V.int) ∧ 0 ≤ i ∧ ns.length ≤ 63 ∧ ∀ p H2, H p = none → Ex H H2 → Pur H2 p → Q (.ref p) H2
abbrev s__law_purse : Stmt := top 28
theorem sc__law_purse : FnScope ["script", "at", "cell", "size", "one"] ["script", "at"] (defScope s__law_purse) := ⟨rfl, rfl, rfl, by decide +kernel, rfl, by decide +kernel, by decide +kernel⟩
theorem ok_purse (T : Txt K mg CB tWs tW tR a_SIGNS_OF_FIGURE) (F : At K mg "_law_purse" s__law_purse ["script", "at"]) : Def P w K mg base "_law_purse" 1 ["script", "at"] (spPurse K) := by
  refine Def.mk' F sc__law_purse (fun vs H Q E h => ?_) (fun f cdv Ar outer s H vs Q E hr h => ⟨_, (pss_cons (ps_set (i := 2) sc__law_purse.nd rfl (Or.inl rfl) (pe_ifExp (pt_cmpR op_lt (pv 1) (pe_callB (r := Lay.rLen K) c_len rfl T.n_len PySem.boot_len (pa_cons (pv 0) pa_nil)) (nomark _)) (pe_callTy c_int rfl T.n_int (by decide +kernel) (pa_cons (pe_ix (r := rIxL K) ix_list (pv 0) (pv 1) (fun _ _ => rfl)) pa_nil)) (pe_op op_mul pe_int (pe_callB (r := rSum K) (cr_sum rfl) rfl T.n_sum (by decide +kernel) (pa_cons (pe_lc (own := [("one", 4)]) (g := gName 4) (tt := tYes) rfl sc__law_purse.nd (pi_list (pe_slice (r := rSlL K) sl_list (pv 0) po_none (po_some pe_int))) (blkOk_by (own := [("one", 4)]) (N := ["script", "at", "cell", "size", "one"]) (sc := defScope s__law_purse) (by decide +kernel)) (fun _ _ _ _ _ => (pg_name (i := 4) sc__law_purse.nd rfl (Or.inl rfl))) (fun _ _ _ _ _ => pts_nil) (fun _ _ _ _ _ => (pe_callTy c_int rfl T.n_int (by decide +kernel) (pa_cons (pv 4) pa_nil)))) pa_nil)))))
      (pss_cons (ps_set (i := 3) sc__law_purse.nd rfl (Or.inl rfl) (pe_op op_add (pe_op op_mul pe_int (pe_callB c_abs rfl T.n_abs (by decide +kernel) (pa_cons (pv 2) pa_nil))) (pe_ifExp (pt_cmpR op_lt (pv 2) pe_int (nomark _)) pe_int pe_int)))
      (pss_one (ps_ret (pe_lst (pa_cons (pe_ifExp (pt_cmpR op_ge (pv 3) (pe_op op_pow pe_int pe_int) (nomark _)) (pv 3) pe_int) (pa_cons (pe_op op_mod (pe_callTy c_int rfl T.n_int (by decide +kernel) (pa_cons (pe_op op_add (pe_op op_add (pv 3) (pe_op op_mul (pv 1) pe_int)) pe_int) pa_nil)) pe_int) (pa_cons (pv 1) pa_nil)))))))), ?_⟩)
  · obtain ⟨a, ns, i, rfl, _⟩ := h
    rfl
  · obtain ⟨a, ns, i, rfl, ha, h0, hl, q⟩ := h
    walk_at "go0"
    refine r_K (fun Q' k => ?_) (fun c H1 e1 => ?_)
    · refine r_tIf ?_
      walk_at "go"
      refine r_ite (fun c => ?_) (fun c => ?_)
      · walk_at "go"
        exact k _ H (Ex.refl H)
      · walk_at "go"
        refine r_slL ha fun p H1 hp e1 h1 => ?_
        rw [cut_ints] at h1
        walk_at "go"
        refine lcI (by walk_at "sq") (fun l i h => ∃ zs : List Int, zs.length = i ∧ h l = some (.lst (zs.map V.int)) ∧ Ex H1 h ∧ H1 l = none) ?_ ?_ ?_ ?_ (fun _ => rfl)
        · exact fun l h hl e hn => ⟨[], rfl, hn, e, hl⟩
        · intro l i h _ ⟨zs, _, _, e, _⟩
          walk_at "sq"
        · intro l i z h hz ⟨zs, hi, hl, e, ln⟩
          walk_at "go"
          have hm : i < 64 := by
            have a := (List.getElem?_eq_some_iff.mp hz).1
            rw [List.length_take, List.length_drop] at a
            omega
          exact appW hl (by rw [List.length_map]; omega) fun H5 e5 h5 => ⟨zs ++ [z], by rw [List.length_append, hi]; rfl, by rw [List.map_append]; exact h5, ExB.ex e e5 ln, ln⟩
        · intro l h ⟨zs, _, hl, e, _⟩
          walk_at "go"
          refine r_sum (by walk_at "sq") ?_
          walk_at "go"
          exact k _ h (e1.trans e)
    · walk_at "go"
      refine r_K (fun Q' k => ?_) (fun c3 H3 e3 => ?_)
      · refine r_tIf ?_
        walk_at "go"
        refine r_ite (fun _ => ?_) (fun _ => ?_)
        · walk_at "go"
          exact k _ H1 (Ex.refl H1)
        · walk_at "go"
          exact k _ H1 (Ex.refl H1)
      walk_at "go"
      exact r_newL (len3 rfl) fun p H4 hp e4 h4 => q p H4 (fresh_back (e1.trans e3) hp) (e1.trans (e3.trans e4)) ⟨_, _, _, h4⟩
def spDraw : Sp := fun vs H Q _ => ∃ (p : Addr) (n : Int), vs = [.ref p, .int n] ∧ 0 < n ∧ n < 1073741824 ∧ Pur H p ∧ ∀ r H2, 0 ≤ r → r < n → ExB p H H2 → Pur H2 p → Q (.int r) H2
abbrev s__law_draw : Stmt := top 29
theorem sc__law_draw : FnScope ["purse", "many", "found"] ["purse", "many"] (defScope s__law_draw) := ⟨rfl, rfl, rfl, by decide +kernel, rfl, by decide +kernel, by decide +kernel⟩
theorem ok_draw (T : Txt K mg CB tWs tW tR a_SIGNS_OF_FIGURE) (F : At K mg "_law_draw" s__law_draw ["purse", "many"]) : Def P w K mg base "_law_draw" 1 ["purse", "many"] spDraw := by
  refine Def.mk' F sc__law_draw (fun vs H Q E h => ?_) (fun f cdv Ar outer s H vs Q E hr h => ⟨_, (pss_cons (ps_if (pt_cmpR op_gt (pe_ix (r := rIxL K) ix_list (pv 0) pe_int (fun _ _ => rfl)) pe_int (nomark _)) (pss_cons (ps_set (i := 2) sc__law_draw.nd rfl (Or.inl rfl) (pe_op op_mod (pe_callTy c_int rfl T.n_int (by decide +kernel) (pa_cons (pe_ix (r := rIxL K) ix_list (pv 0) pe_int (fun _ _ => rfl)) pa_nil)) (pv 1)))
      (pss_cons (ps_asg (pe_op op_fdivN (pe_ix (r := rIxL K) ix_list (pv 0) pe_int (fun _ _ => rfl)) (pv 1)) (pg_sub (pv 0) pe_int set_list))
      (pss_one (ps_ret (pv 2))))) pss_nil)
      (pss_cons (ps_augS (pv 0) pe_int get_list pe_int ip_add set_list)
      (pss_cons (ps_asg (pe_op op_mod (pe_callTy c_int rfl T.n_int (by decide +kernel) (pa_cons (pe_op op_add (pe_op op_mul (pe_ix (r := rIxL K) ix_list (pv 0) pe_int (fun _ _ => rfl)) pe_int) (pe_op op_mul (pe_ix (r := rIxL K) ix_list (pv 0) pe_int (fun _ _ => rfl)) pe_int)) pa_nil)) pe_int) (pg_sub (pv 0) pe_int set_list))
      (pss_one (ps_ret (pe_op op_mod (pe_op op_fdiv (pe_op op_mod (pe_callTy c_int rfl T.n_int (by decide +kernel) (pa_cons (pe_op op_add (pe_op op_mul (pe_ix (r := rIxL K) ix_list (pv 0) pe_int (fun _ _ => rfl)) pe_int) (pe_op op_mul (pe_ix (r := rIxL K) ix_list (pv 0) pe_int (fun _ _ => rfl)) pe_int)) pa_nil)) pe_int) pe_int) (pv 1))))))), ?_⟩)
  · obtain ⟨p, n, rfl, _⟩ := h
    rfl
  · obtain ⟨p, n, rfl, h0, h1, ⟨a, b, c, hp⟩, q⟩ := h
    walk_at "go0"
    refine r_ite (fun c => ?_) (fun c => ?_)
    · walk_at "go"
      refine r_setL hp (by decide) (by simp) fun H2 e2 h2 _ => ?_
      walk_at "go"
      exact q _ H2 (Int.emod_nonneg _ (by omega)) (Int.emod_lt_of_pos _ h0) e2 ⟨_, _, _, h2⟩
    · walk_at "go"
      refine r_setL hp (by decide) (by simp) fun H2 e2 h2 _ => ?_
      walk_at "go"
      refine r_setL h2 (by decide) (by simp) fun H3 e3 h3 _ => ?_
      walk_at "go"
      exact q _ H3 (Int.emod_nonneg _ (by omega)) (Int.emod_lt_of_pos _ h0) (e2.trans e3) ⟨_, _, _, h3⟩
end
end K07
namespace K07
open PySem PySem.Spec PyProof.Rows L2 Evl Lay
section
variable {P : Program} {w : World} {K : PySem.W.Frag} {mg : Str → Option Value} {base : Heap} {CB CT CW : Addr} {tWs tW tR : Tok}
variable {a_SIGNS_OF_FIGURE : Addr}
abbrev s__law_whole : Stmt := top 30
theorem sc__law_whole : FnScope ["value"] ["value"] (defScope s__law_whole) := ⟨rfl, rfl, rfl, by decide +kernel, rfl, by decide +kernel, by decide +kernel⟩
theorem ok_whole (T : Txt K mg CB tWs tW tR a_SIGNS_OF_FIGURE) (F : At K mg "_law_whole" s__law_whole ["value"]) : Def P w K mg base "_law_whole" 1 ["value"] spIsWhole := by
  refine Def.mk' F sc__law_whole (fun vs H Q E h => ?_) (fun f cdv Ar outer s H vs Q E hr h => ⟨_, (pss_one (ps_ret (pe_and (pe_callB (r := rIsi K) call_isi rfl T.n_isinstance (by decide +kernel) (pa_cons (pv 0) (pa_cons (pe_bltn (v := .ty "int") (u := .type "int") rfl T.n_int (by decide +kernel) rfl) pa_nil))) (pe_one (pe_not (pe_callB (r := rIsi K) call_isi rfl T.n_isinstance (by decide +kernel) (pa_cons (pv 0) (pa_cons (pe_bltn (v := .ty "bool") (u := .type "bool") rfl T.n_bool (by decide +kernel) rfl) pa_nil)))))))), ?_⟩)
  · obtain ⟨i, rfl, _⟩ := h
    rfl
  · obtain ⟨i, rfl, q⟩ := h
    walk_at "go0"
    exact q
theorem gi_nat (ns : List Int) (i : Nat) : gi ns (i : Int) = ns.getD i 0 := by
  unfold gi
  rw [Int.toNat_natCast]
end
end K07
namespace K07
open PySem PySem.Spec PyProof.Rows L2 Evl Lay
section
variable {P : Program} {w : World} {K : PySem.W.Frag} {mg : Str → Option Value} {base : Heap} {CB CT CW : Addr} {tWs tW tR : Tok}
variable {a_SIGNS_OF_FIGURE : Addr}
def spListIs (K : PySem.W.Frag) : Sp := fun vs H Q _ => ∃ (p q : Addr) (ns : List Int), vs = [.ref p, .ref q] ∧ H p = some (.lst (ns.map V.int)) ∧ SqL K H q (ns.map V.int) ∧ ns.length ≤ 100000 ∧ Q (.bl true) H
abbrev s__law_list_is : Stmt := top 31
theorem sc__law_list_is : FnScope ["told", "due", "place"] ["told", "due"] (defScope s__law_list_is) := ⟨rfl, rfl, rfl, by decide +kernel, rfl, by decide +kernel, by decide +kernel⟩
theorem ok_list_is (T : Txt K mg CB tWs tW tR a_SIGNS_OF_FIGURE) (F : At K mg "_law_list_is" s__law_list_is ["told", "due"]) (d__law_whole : Def P w K mg base "_law_whole" 1 ["value"] spIsWhole) : Def P w K mg base "_law_list_is" 2 ["told", "due"] (spListIs K) := by
  refine Def.mk' F sc__law_list_is (fun vs H Q E h => ?_) (fun f cdv Ar outer s H vs Q E hr h => ⟨_, (pss_cons (ps_if (PW.pt (pw_or (pt_not (pt_val (pe_callB (r := rIsi K) call_isi rfl T.n_isinstance (by decide +kernel) (pa_cons (pv 0) (pa_cons (pe_bltn (v := .ty "list") (u := .type "list") rfl T.n_list (by decide +kernel) rfl) pa_nil))))) (pw_or1 (pt_cmpR op_ne (pe_callB (r := Lay.rLen K) c_len rfl T.n_len PySem.boot_len (pa_cons (pv 0) pa_nil)) (pe_callB (r := Lay.rLen K) c_len rfl T.n_len PySem.boot_len (pa_cons (pv 1) pa_nil)) (nomark _))))) (pss_one (ps_ret pe_bl)) pss_nil)
      (pss_cons (ps_for (passes_of rfl) rfl (pi_range1 rfl T.n_range (pa_cons (pe_callB (r := Lay.rLen K) c_len rfl T.n_len PySem.boot_len (pa_cons (pv 1) pa_nil)) pa_nil)) (pg_name (i := 2) sc__law_list_is.nd rfl (Or.inl rfl)) (pss_one (ps_if (PW.pt (pw_or (pt_not (pt_val (pe_d d__law_whole (hr.mono (by decide)) (passes_call (takes_of rfl rfl rfl rfl) (fun _ _ _ _ h => h)) (pa_cons (pe_ix (r := rIxL K) ix_list (pv 0) (pv 2) (fun _ _ => rfl)) pa_nil)))) (pw_or1 (pt_cmpR op_ne (pe_ix (r := rIxL K) ix_list (pv 0) (pv 2) (fun _ _ => rfl)) (pe_ix (r := rIxL K) ix_list (pv 1) (pv 2) (fun _ _ => rfl)) (nomark _))))) (pss_one (ps_ret pe_bl)) pss_nil)))
      (pss_one (ps_ret pe_bl)))), ?_⟩)
  · obtain ⟨p, q, ns, rfl, _⟩ := h
    rfl
  · obtain ⟨p, q, ns, rfl, hp, hq, hl, k⟩ := h
    walk_at "go0"
    refine r_noN rfl ?_
    walk_at "go"
    refine forR1 (by omega) (by omega) (fun i σ' H' => (∃ v, σ' = [some (.ref p), some (.ref q), v]) ∧ H' = H) ⟨⟨none, rfl⟩, rfl⟩ ?_ ?_
    · rintro i σ' H' hi ⟨⟨v, rfl⟩, rfl⟩
      walk_at "go"
      refine ⟨_, rfl, ?_⟩
      walk_at "go"
      refine r_noN rfl ?_
      walk_at "go"
      exact ⟨⟨_, rfl⟩, rfl⟩
    · rintro σ' H' ⟨⟨v, rfl⟩, rfl⟩
      walk_at "go"
      exact k
end
end K07
namespace K07
open PySem PySem.Spec PyProof.Rows L2 Evl Lay
section
variable {P : Program} {w : World} {K : PySem.W.Frag} {mg : Str → Option Value} {base : Heap} {CB CT CW : Addr} {tWs tW tR : Tok}
variable {a_SIGNS_OF_FIGURE : Addr}
def spRoom (K : PySem.W.Frag) : Sp := fun vs H Q _ => ∃ (p : Addr) (ns : List Int) (b e : Nat) (x y : Int), vs = [.ref p, .int x, .int y] ∧ x = (b : Int) ∧ y = (e : Int) ∧ b ≤ e ∧ e ≤ ns.length ∧ SqL K H p (ns.map V.int) ∧ ∀ H2, Ex H H2 → Q (.int (WM.room ns b e)) H2
abbrev s__law_room : Stmt := top 33
theorem sc__law_room : FnScope ["words", "begin", "end"] ["words", "begin", "end"] (defScope s__law_room) := ⟨rfl, rfl, rfl, by decide +kernel, rfl, by decide +kernel, by decide +kernel⟩
theorem ok_room (T : Txt K mg CB tWs tW tR a_SIGNS_OF_FIGURE) (F : At K mg "_law_room" s__law_room ["words", "begin", "end"]) : Def P w K mg base "_law_room" 1 ["words", "begin", "end"] (spRoom K) := by
  refine Def.mk' F sc__law_room (fun vs H Q E h => ?_) (fun f cdv Ar outer s H vs Q E hr h => ⟨_, (pss_one (ps_ret (pe_op op_sub (pe_op op_sub (pe_op op_add (pe_callB (r := rSum K) (cr_sum rfl) rfl T.n_sum (by decide +kernel) (pa_cons (pe_slice (r := rSlL K) sl_list (pv 0) (po_some (pv 1)) (po_some (pv 2))) pa_nil)) (pv 2)) (pv 1)) pe_int))), ?_⟩)
  · obtain ⟨p, ns, b, e, x, y, rfl, _⟩ := h
    rfl
  · obtain ⟨p, ns, b, e, x, y, rfl, rfl, rfl, h1, h2, hp, q⟩ := h
    walk_at "go0"
    refine r_slL hp fun p2 H1 hp2 e1 hh => ?_
    rw [cut_ints, HT.sIx_nat, HT.sIx_nat, Nat.min_eq_left (by omega), Nat.min_eq_left (by omega)] at hh
    walk_at "go"
    refine r_sum (by walk_at "sq") ?_
    walk_at "go"
    rw [WM.cut_sum h1]
    exact q H1 e1
end
end K07
namespace K07
open PySem PySem.Spec PyProof.Rows L2 Evl Lay
section
variable {P : Program} {w : World} {K : PySem.W.Frag} {mg : Str → Option Value} {base : Heap} {CB CT CW : Addr} {tWs tW tR : Tok}
variable {a_SIGNS_OF_FIGURE : Addr}
theorem fs_len {ns : List Int} {m : Int} : ∀ i : Nat, (WM.fsAt ns m i).1.length ≤ i
  | 0 => Nat.le_refl _
  | i + 1 => by
    have ih := fs_len (ns := ns) (m := m) i
    rw [WM.fsAt]
    split
    · rw [List.length_append]
      show _ + 1 ≤ _
      omega
    · exact Nat.le_succ_of_le ih
end
end K07
namespace K07
open PySem PySem.Spec PyProof.Rows L2 Evl Lay
section
variable {P : Program} {w : World} {K : PySem.W.Frag} {mg : Str → Option Value} {base : Heap} {CB CT CW : Addr} {tWs tW tR : Tok}
variable {a_SIGNS_OF_FIGURE : Addr}
def spLFilled (K : PySem.W.Frag) : Sp := fun vs H Q _ => ∃ (a : Addr) (ns : List Int) (m : Int), vs = [.ref a, .int m] ∧ SqL K H a (ns.map V.int) ∧ ns.length ≤ 1000 ∧
  ∀ p H2, H p = none → Ex H H2 → H2 p = some (.lst ((WM.fs ns m).map V.int)) → Q (.ref p) H2
abbrev s__law_filled : Stmt := top 34
theorem sc__law_filled : FnScope ["words", "width", "starts", "begin", "end"] ["words", "width"] (defScope s__law_filled) := ⟨rfl, rfl, rfl, by decide +kernel, rfl, by decide +kernel, by decide +kernel⟩
theorem ok_lfilled (T : Txt K mg CB tWs tW tR a_SIGNS_OF_FIGURE) (F : At K mg "_law_filled" s__law_filled ["words", "width"]) (d__law_room : Def P w K mg base "_law_room" 1 ["words", "begin", "end"] (spRoom K)) : Def P w K mg base "_law_filled" 2 ["words", "width"] (spLFilled K) := by
  refine Def.mk' F sc__law_filled (fun vs H Q E h => ?_) (fun f cdv Ar outer s H vs Q E hr h => ⟨_, (pss_cons (ps_set (i := 2) sc__law_filled.nd rfl (Or.inl rfl) (pe_lst pa_nil))
      (pss_cons (ps_set (i := 3) sc__law_filled.nd rfl (Or.inl rfl) pe_int)
      (pss_cons (ps_while (passes_of rfl) (pt_cmpR op_lt (pv 3) (pe_callB (r := Lay.rLen K) c_len rfl T.n_len PySem.boot_len (pa_cons (pv 0) pa_nil)) (nomark _)) (pss_cons (ps_expr (pe_bm PySem.F.plainAttrs_list PySem.F.slot_list_append PySem.F.type_list_append mt_append (pv 2) (pa_cons (pv 3) pa_nil)))
      (pss_cons (ps_set (i := 4) sc__law_filled.nd rfl (Or.inl rfl) (pe_op op_add (pv 3) pe_int))
      (pss_cons (ps_while (passes_of rfl) (PW.pt (pw_and (pt_cmpR op_lt (pv 4) (pe_callB (r := Lay.rLen K) c_len rfl T.n_len PySem.boot_len (pa_cons (pv 0) pa_nil)) (nomark _)) (pw_and1 (pt_cmpR op_le (pe_d d__law_room (hr.mono (by decide)) (passes_call (takes_of rfl rfl rfl rfl) (fun _ _ _ _ h => h)) (pa_cons (pv 0) (pa_cons (pv 3) (pa_cons (pe_op op_add (pv 4) pe_int) pa_nil)))) (pv 1) (nomark _))))) (pss_one (ps_aug (i := 4) sc__law_filled.nd rfl (Or.inl rfl) pe_int ip_add)))
      (pss_one (ps_set (i := 3) sc__law_filled.nd rfl (Or.inl rfl) (pv 4)))))))
      (pss_one (ps_ret (pv 2)))))), ?_⟩)
  · obtain ⟨a, ns, m, rfl, _⟩ := h
    rfl
  · obtain ⟨a, ns, m, rfl, ha, hl, q⟩ := h
    walk_at "go0"
    refine r_newL (len3 rfl) fun p H1 hp e1 h1 => ?_
    walk_at "go"
    refine r_while (fun k σ' H' => ∃ b : Nat, b ≤ ns.length ∧ k = ns.length - b ∧ (∃ v, σ' = [some (.ref a), some (.int m), some (.ref p), some (.int b), v]) ∧ Ex H H' ∧ H' p = some (.lst ((WM.fsAt ns m b).1.map V.int)) ∧
      (b < ns.length → (WM.fsAt ns m b).1 = [] ∨ m < (WM.fsAt ns m b).2 + 1 + ns.getD b 0)) (ns.length - 0) ⟨0, Nat.zero_le _, rfl, ⟨none, rfl⟩, e1, h1, fun _ => .inl rfl⟩ ?_
    rintro k σ' H' ⟨b, hb, rfl, ⟨v, rfl⟩, e, hh, hs⟩
    walk_at "go"
    refine whB (fun c => ?_) (fun c => ?_)
    · have hb2 : b < ns.length := by omega
      have st := WM.fsAt_start (hs hb2)
      have hlen := fs_len (ns := ns) (m := m) b
      walk_at "go"
      refine r_bmL (by walk_at "sq") ?_ rfl
      walk_at "go"
      refine r_app (by walk_at "hp") (by rw [List.length_map]; omega) fun H2 e2 h2 _ => ?_
      walk_at "go"
      refine r_while (fun k σ' H' => ∃ x : Nat, b < x ∧ x ≤ ns.length ∧ k = ns.length - x ∧ σ' = [some (.ref a), some (.int m), some (.ref p), some (.int b), some (.int x)] ∧ Ex H H' ∧ H' p = some (.lst ((WM.fsAt ns m x).1.map V.int)) ∧ (WM.fsAt ns m x).2 = WM.room ns b x)
        (ns.length - (b + 1)) ⟨b + 1, by omega, by omega, rfl, rfl, ExB.ex e e2 hp, by rw [st, List.map_append]; exact h2, by rw [st, WM.room_one]⟩ ?_
      rintro k σ' H' ⟨x, hx, hx2, rfl, rfl, e3, hh3, hr3⟩
      have hne : (WM.fsAt ns m x).1 ≠ [] := by
        obtain ⟨_, _, _, _, _, _, z⟩ := WM.last_line (ws := ns) (width := m) (e := x) (by omega)
        exact z
      walk_at "go"
      refine r_ite (fun c1 => ?_) (fun c1 => ?_)
      · walk_at "go"
        refine ⟨a, ns, b, x + 1, _, _, rfl, rfl, rfl, by omega, by omega, by walk_at "sq", fun H4 e4 => ?_⟩
        walk_at "go"
        have rs := WM.room_succ (ws := ns) b x
        refine whB (fun c2 => ?_) (fun c2 => ?_)
        · walk_at "go"
          have on := WM.fsAt_on (ws := ns) (width := m) (i := x) (by intro z; rcases z with z | z; exact hne z; omega)
          exact ⟨ns.length - (x + 1), by omega, x + 1, by omega, by omega, rfl, rfl, e3.trans e4, by rw [on]; exact e4 _ _ hh3, by rw [on]; omega⟩
        · walk_at "go"
          exact ⟨ns.length - x, by omega, x, by omega, rfl, ⟨_, rfl⟩, e3.trans e4, e4 _ _ hh3, fun _ => .inr (by omega)⟩
      · refine whB_no ?_
        walk_at "go"
        exact ⟨ns.length - x, by omega, x, by omega, rfl, ⟨_, rfl⟩, e3, hh3, fun _ => by omega⟩
    · walk_at "go"
      have z : b = ns.length := by omega
      subst z
      exact q p H' hp e hh
end
end K07
namespace K07
open PySem PySem.Spec PyProof.Rows L2 Evl Lay
section
variable {P : Program} {w : World} {K : PySem.W.Frag} {mg : Str → Option Value} {base : Heap} {CB CT CW : Addr} {tWs tW tR : Tok}
variable {a_SIGNS_OF_FIGURE : Addr}
/-! ### what is refused, as the law tells it -/
def erV : Er → List V
  | .many s => [.str "many", .str s]
  | .words p => [.str "words", .int p]
def erD : Er → List PyData
  | .many s => [.str "many", .str s]
  | .words p => [.str "words", .int p]
def erOk : Er → Prop
  | .many s => PyData.strOk s = true
  | .words _ => True
theorem er_shaped {e : Er} (h : erOk e) : SeqAt.shaped (.tuple (erD e)) = true := by
  cases e with
  | many s =>
    have h' : PyData.strOk s = true := h
    refine shape_of ?_ ?_
    · simp only [erD, PyData.canLay0, PyData.canLayAll0, h', Bool.and_true]
      decide +kernel
    · simp only [erD, PyData.depth, PyData.depthAll]
      omega
  | words p =>
    refine shape_of ?_ ?_
    · simp only [erD, PyData.canLay0, PyData.canLayAll0, Bool.and_true]
      decide +kernel
    · simp only [erD, PyData.depth, PyData.depthAll]
      omega
theorem er_dp {K : PySem.W.Frag} {H : Hp} {t : Addr} {e : Er} (h : SqT K H t (erV e)) : Dp K H (.ref t) (.tuple (erD e)) := by
  cases e with
  | many s => exact .tup h (.cons (.str _) (.cons (.str _) .nil))
  | words p => exact .tup h (.cons (.str _) (.cons (.int _) .nil))
theorem r_neEr {K : PySem.W.Frag} {H : Hp} {Q : VK} {t t2 : Addr} (e : Er) (h1 : SqT K H t (erV e)) (h2 : SqT K H t2 (erV e)) (ho : erOk e) (k : Q (.bl false) H) : rNeD K (.ref t) (.ref t2) H Q := r_neSame (er_dp h1) (er_dp h2) (er_shaped ho) k
/-- the law's own except clauses -/
theorem caught {K : PySem.W.Frag} {CT CW : Addr} {e : Er} {H : Hp} {D : Ends} {σ : L2.St} {W0 : WX} {n : Nat} (hn : n < σ.length) (xTW : PySem.W.exmOne K (.ref CT) (.ref CW) = some false) (teT : PySem.W.exmOne K (.ref CT) (.ref CT) = some true) (teW : PySem.W.exmOne K (.ref CW) (.ref CW) = some true)
    (q : ∀ t H2, Ex H H2 → H2 t = some (.tup (erV e)) → D.rt (.ref t) H2) :
    Raised CT CW e H (WE (wManyA K W0 D [(Value.ref CW, n, fun a cls d => tRet (tTup (tCons (tC (V.str "words")) (tCons (tXf a cls d CW "place" (tVar n)) tNil)))), (Value.ref CT, n, fun a cls d => tRet (tTup (tCons (tC (V.str "many")) (tCons (tXf a cls d CT "what" (tVar n)) tNil))))]) σ) := by
  have hset : ∀ t : Addr, (σ.set n (some (.ref t)))[n]? = some (some (.ref t)) := fun t => List.getElem?_set_self hn
  cases e with
  | many s =>
    intro d H2 e2 hd
    refine ⟨false, xTW, fun z => Bool.noConfusion z, fun _ => ⟨true, teT, fun _ t ht => ?_, fun z => Bool.noConfusion z⟩⟩
    walk_at "go"
    refine r_xf (hset t) hd ?_
    walk_at "go"
    refine r_newT (len3 rfl) fun t2 H3 n3 e3 h3 => ?_
    exact q t2 H3 (e2.trans e3) h3
  | words p =>
    intro d H2 e2 hd
    refine ⟨true, teW, fun _ t ht => ?_, fun z => Bool.noConfusion z⟩
    walk_at "go"
    refine r_xf (hset t) hd ?_
    walk_at "go"
    refine r_newT (len3 rfl) fun t2 H3 n3 e3 h3 => ?_
    exact q t2 H3 (e2.trans e3) h3
end
end K07
namespace K07
open PySem PySem.Spec PyProof.Rows L2 Evl Lay
section
variable {P : Program} {w : World} {K : PySem.W.Frag} {mg : Str → Option Value} {base : Heap} {CB CT CW : Addr} {tWs tW tR : Tok}
variable {a_SIGNS_OF_FIGURE : Addr}
/-! ### the law's own: stretches, refusals -/
/-- the same: None, or tuples of the same two ints -/
def Same2 (K : PySem.W.Frag) (H : Hp) (x y : V) : Prop := (x = .non ∧ y = .non) ∨ ∃ (p q : Addr) (ns : List Int), x = .ref p ∧ y = .ref q ∧ H p = some (.tup (ns.map V.int)) ∧ SqT K H q (ns.map V.int) ∧ ns.length ≤ 1000
def spTupleIs (K : PySem.W.Frag) : Sp := fun vs H Q _ => ∃ x y : V, vs = [x, y] ∧ Same2 K H x y ∧ ∀ H2, Ex H H2 → Q (.bl true) H2
abbrev s__law_tuple_is : Stmt := top 32
theorem sc__law_tuple_is : FnScope ["told", "due", "one"] ["told", "due"] (defScope s__law_tuple_is) := ⟨rfl, rfl, rfl, by decide +kernel, rfl, by decide +kernel, by decide +kernel⟩
theorem ok_tuple_is (T : Txt K mg CB tWs tW tR a_SIGNS_OF_FIGURE) (F : At K mg "_law_tuple_is" s__law_tuple_is ["told", "due"]) (d__law_list_is : Def P w K mg base "_law_list_is" 2 ["told", "due"] (spListIs K)) : Def P w K mg base "_law_tuple_is" 3 ["told", "due"] (spTupleIs K) := by
  refine Def.mk' F sc__law_tuple_is (fun vs H Q E h => ?_) (fun f cdv Ar outer s H vs Q E hr h => ⟨_, (pss_cons (ps_if (pt_cmpR op_isN1 (pv 1) pe_non (nomark _)) (pss_one (ps_ret (pe_cmpR op_isN1 (pv 0) pe_non (nomark _)))) pss_nil)
      (pss_cons (ps_if (PW.pt (pw_or (pt_not (pt_val (pe_callB (r := rIsi K) call_isi rfl T.n_isinstance (by decide +kernel) (pa_cons (pv 0) (pa_cons (pe_bltn (v := .ty "tuple") (u := .type "tuple") rfl T.n_tuple (by decide +kernel) rfl) pa_nil))))) (pw_or1 (pt_cmpR op_ne (pe_callB (r := Lay.rLen K) c_len rfl T.n_len PySem.boot_len (pa_cons (pv 0) pa_nil)) (pe_callB (r := Lay.rLen K) c_len rfl T.n_len PySem.boot_len (pa_cons (pv 1) pa_nil)) (nomark _))))) (pss_one (ps_ret pe_bl)) pss_nil)
      (pss_one (ps_ret (pe_d d__law_list_is (hr.mono (by decide)) (passes_call (takes_of rfl rfl rfl rfl) (fun _ _ _ _ h => h)) (pa_cons (pe_lc (own := [("one", 2)]) (g := gName 2) (tt := tYes) rfl sc__law_tuple_is.nd (pi_tup (pv 0)) (blkOk_by (own := [("one", 2)]) (N := ["told", "due", "one"]) (sc := defScope s__law_tuple_is) (by decide +kernel)) (fun _ _ _ _ _ => (pg_name (i := 2) sc__law_tuple_is.nd rfl (Or.inl rfl))) (fun _ _ _ _ _ => pts_nil) (fun _ _ _ _ _ => (pv 2))) (pa_cons (pe_lc (own := [("one", 2)]) (g := gName 2) (tt := tYes) rfl sc__law_tuple_is.nd (pi_tup (pv 1)) (blkOk_by (own := [("one", 2)]) (N := ["told", "due", "one"]) (sc := defScope s__law_tuple_is) (by decide +kernel)) (fun _ _ _ _ _ => (pg_name (i := 2) sc__law_tuple_is.nd rfl (Or.inl rfl))) (fun _ _ _ _ _ => pts_nil) (fun _ _ _ _ _ => (pv 2))) pa_nil))))))), ?_⟩)
  · obtain ⟨x, y, rfl, _⟩ := h
    rfl
  · obtain ⟨x, y, rfl, hs, k⟩ := h
    rcases hs with ⟨rfl, rfl⟩ | ⟨p, q, ns, rfl, rfl, hp, hq, hl⟩
    · walk_at "go0"
      refine r_yes rfl ?_
      walk_at "go"
      exact k H (Ex.refl _)
    · walk_at "go0"
      refine r_no (fun z => by cases z) ?_
      walk_at "go"
      refine r_lenT (SqT.of hp) ?_
      walk_at "go"
      refine r_lenT hq ?_
      walk_at "go"
      refine r_noN rfl ?_
      walk_at "go"
      refine lcTcopy (SqT.of hp) (by rw [List.length_map]; omega) (Nat.le_of_ble_eq_true rfl) (fun p1 H1 n1 e1 h1 => ?_) (fun _ => rfl)
      walk_at "go"
      refine lcTcopy (ex_t e1 hq) (by rw [List.length_map]; omega) (Nat.le_of_ble_eq_true rfl) (fun p2 H2 n2 e2 h2 => ?_) (fun _ => rfl)
      walk_at "go"
      exact ⟨_, _, ns, rfl, by walk_at "hp", by walk_at "sq", by omega, k H2 (by walk_at "ex")⟩
def spLStretch (K : PySem.W.Frag) : Sp := fun vs H Q _ => ∃ (a : Addr) (ns : List Int) (c d : Int), vs = [.ref a, .int c, .int d] ∧ SqL K H a (ns.map V.int) ∧ ns.length ≤ 50000 ∧ 1 ≤ c ∧ c ≤ ns.length ∧ 1 ≤ d ∧ d ≤ ns.length ∧ OptT (WN.stE (gi ns (c - 1)) (gi ns (d - 1)) (topOf ns c d)) H Q
abbrev s__law_stretch : Stmt := top 35
theorem sc__law_stretch : FnScope ["widths", "P", "Q", "more", "less", "first", "last"] ["widths", "P", "Q"] (defScope s__law_stretch) := ⟨rfl, rfl, rfl, by decide +kernel, rfl, by decide +kernel, by decide +kernel⟩
theorem ok_lstretch (T : Txt K mg CB tWs tW tR a_SIGNS_OF_FIGURE) (F : At K mg "_law_stretch" s__law_stretch ["widths", "P", "Q"]) : Def P w K mg base "_law_stretch" 1 ["widths", "P", "Q"] (spLStretch K) := by
  refine Def.mk' F sc__law_stretch (fun vs H Q E h => ?_) (fun f cdv Ar outer s H vs Q E hr h => ⟨_, (pss_cons (ps_set (i := 3) sc__law_stretch.nd rfl (Or.inl rfl) (pe_callB (c_max2 rfl) rfl T.n_max (by decide +kernel) (pa_cons (pe_ix (r := rIxL K) ix_list (pv 0) (pe_op op_sub (pv 1) pe_int) (fun _ _ => rfl)) (pa_cons (pe_ix (r := rIxL K) ix_list (pv 0) (pe_op op_sub (pv 2) pe_int) (fun _ _ => rfl)) pa_nil))))
      (pss_cons (ps_set (i := 4) sc__law_stretch.nd rfl (Or.inl rfl) (pe_callB (c_min2 rfl) rfl T.n_min (by decide +kernel) (pa_cons (pe_ix (r := rIxL K) ix_list (pv 0) (pe_op op_sub (pv 1) pe_int) (fun _ _ => rfl)) (pa_cons (pe_ix (r := rIxL K) ix_list (pv 0) (pe_op op_sub (pv 2) pe_int) (fun _ _ => rfl)) pa_nil))))
      (pss_cons (ps_set (i := 5) sc__law_stretch.nd rfl (Or.inl rfl) (pe_callB (c_max2 rfl) rfl T.n_max (by decide +kernel) (pa_cons (pe_callB (r := rMax K) (cr_max rfl) rfl T.n_max (by decide +kernel) (pa_cons (pe_slice (r := rSlL K) sl_list (pv 0) po_none (po_some (pe_callB (c_max2 rfl) rfl T.n_max (by decide +kernel) (pa_cons (pv 1) (pa_cons (pv 2) pa_nil))))) pa_nil)) (pa_cons (pe_op op_add (pv 4) pe_int) pa_nil))))
      (pss_cons (ps_set (i := 6) sc__law_stretch.nd rfl (Or.inl rfl) (pe_op op_sub (pe_op op_sub (pe_op op_mul pe_int (pv 3)) (pv 4)) pe_int))
      (pss_one (ps_ret (pe_ifExp (pt_cmpR op_le (pv 5) (pv 6) (nomark _)) (pe_tup (pa_cons (pv 5) (pa_cons (pv 6) pa_nil))) pe_non))))))), ?_⟩)
  · obtain ⟨a, ns, c, d, rfl, _⟩ := h
    rfl
  · obtain ⟨a, ns, c, d, rfl, ha, hl, c1, c2, d1, d2, q⟩ := h
    have lm : 1 ≤ mx c d ∧ mx c d ≤ ns.length := by unfold mx; split <;> omega
    have em : (if d > c then d else c) = (((mx c d).toNat : Nat) : Int) := by
      show mx c d = _
      omega
    walk_at "go0"
    refine r_slE (ns := ns) (e := (mx c d).toNat) (by walk_at "sq") em (by omega) fun p2 H4 n4 e4 h4 => ?_
    walk_at "go"
    refine r_maxI (ns := ns.take (mx c d).toNat) (by walk_at "sq") (by rw [List.length_take]; omega) ?_
    walk_at "go"
    have q := q.mono e4
    refine r_tIf ?_
    walk_at "go"
    unfold WN.stE mx mn topOf at q
    refine r_ite (fun c => ?_) (fun c => ?_)
    · have q := (if_pos c).symm ▸ q
      walk_at "go"
      exact r_newT (len3 rfl) fun p H1 n1 e1 h1 => q p H1 n1 e1 h1
    · have q := (if_neg c).symm ▸ q
      walk_at "go"
      exact q _ (Ex.refl _)
/-- what the law's four calls refuse -/
def rk (k : Int) (T : List Int) (c d : Int) : Option Er :=
  if k = 0 then ckFig c 4000 else if k = 1 then ckFig c 3999 else if k = 2 then ckPart T c d else ckParted (gi T 0) (gi T 1) c
def spRefusal (K : PySem.W.Frag) : Sp := fun vs H Q _ => ∃ (k : Int) (t : Addr) (T : List Int) (c d : Int), vs = [.int k, .ref t, .int c, .int d] ∧ SqL K H t (T.map V.int) ∧ 0 ≤ k ∧ k ≤ 3 ∧ (k = 3 → T.length = 2) ∧
  match rk k T c d with
  | some e => ∀ t H2, Ex H H2 → H2 t = some (.tup (erV e)) → Q (.ref t) H2
  | none => ∀ H2, Ex H H2 → Q .non H2
abbrev s__law_refusal : Stmt := top 38
theorem sc__law_refusal : FnScope ["kind", "told", "P", "Q", "asked", "raised"] ["kind", "told", "P", "Q"] (defScope s__law_refusal) := ⟨rfl, rfl, rfl, by decide +kernel, rfl, by decide +kernel, by decide +kernel⟩
theorem ok_refusal (T : Txt K mg CB tWs tW tR a_SIGNS_OF_FIGURE) (F : At K mg "_law_refusal" s__law_refusal ["kind", "told", "P", "Q"]) (x_TooMany : Exn P w K mg base "TooMany" "what" CT) (x_BadWords : Exn P w K mg base "BadWords" "place" CW) (x_TW : PySem.W.exmOne K (.ref CT) (.ref CW) = some false)
    (d_figure_widths : Def P w K mg base "figure_widths" 4 ["cells"] (spFigs CT CW 4000 figs)) (d_roman_widths : Def P w K mg base "roman_widths" 4 ["cells"] (spFigs CT CW 3999 roms))
    (d_parting_widths : Def P w K mg base "parting_widths" 6 ["widths", "P", "Q"] (spPart K CT CW)) (d_parted_words : Def P w K mg base "parted_words" 5 ["a", "b", "width"] (spParted K CT CW)) :
    Def P w K mg base "_law_refusal" 7 ["kind", "told", "P", "Q"] (spRefusal K) := by
  refine Def.mk' F sc__law_refusal (fun vs H Q E h => ?_) (fun f cdv Ar outer s H vs Q E hr h => ⟨_, (pss_cons (ps_tryA rfl rfl sc__law_refusal.nd takes0 (fun W pn xe tk po => (pss_one (ps_if (pt_cmpR op_eq (pv 0) pe_int (nomark _)) (pss_one (ps_set (i := 4) sc__law_refusal.nd rfl (Or.inl rfl) (pe_dT d_figure_widths (hr.mono (by decide)) tk (pa_cons (pv 2) pa_nil)))) (pss_one (ps_if (pt_cmpR op_eq (pv 0) pe_int (nomark _)) (pss_one (ps_set (i := 4) sc__law_refusal.nd rfl (Or.inl rfl) (pe_dT d_roman_widths (hr.mono (by decide)) tk (pa_cons (pv 2) pa_nil)))) (pss_one (ps_if (pt_cmpR op_eq (pv 0) pe_int (nomark _)) (pss_one (ps_set (i := 4) sc__law_refusal.nd rfl (Or.inl rfl) (pe_dT d_parting_widths (hr.mono (by decide)) tk (pa_cons (pv 1) (pa_cons (pv 2) (pa_cons (pv 3) pa_nil)))))) (pss_one (ps_set (i := 4) sc__law_refusal.nd rfl (Or.inl rfl) (pe_dT d_parted_words (hr.mono (by decide)) tk (pa_cons (pe_ix (r := rIxL K) ix_list (pv 1) pe_int (fun _ _ => rfl)) (pa_cons (pe_ix (r := rIxL K) ix_list (pv 1) pe_int (fun _ _ => rfl)) (pa_cons (pv 2) pa_nil))))))))))))) (HdsA.cons ⟨rfl, by decide, Or.inl x_BadWords.g⟩ (i := 5) rfl rfl (fun a oe cls d pn hz hf => (pss_one (ps_ret (pe_tup (pa_cons pe_str (pa_cons (pe_xf x_BadWords.xf x_BadWords.no hz hf (pv 5)) pa_nil)))))) (HdsA.cons ⟨rfl, by decide, Or.inl x_TooMany.g⟩ (i := 5) rfl rfl (fun a oe cls d pn hz hf => (pss_one (ps_ret (pe_tup (pa_cons pe_str (pa_cons (pe_xf x_TooMany.xf x_TooMany.no hz hf (pv 5)) pa_nil)))))) HdsA.nil)))
      (pss_one (ps_ret pe_non))), ?_⟩)
  · obtain ⟨k, t, T, c, d, rfl, _⟩ := h
    rfl
  · obtain ⟨k, t, T, c, d, rfl, ht, k0, k3, l2, q⟩ := h
    walk_at "go0"
    unfold rk at q
    refine r_ite (fun z => ?_) (fun z => ?_)
    · rw [if_pos z] at q
      walk_at "go"
      refine ⟨c, rfl, ?_⟩
      cases hc : ckFig c 4000 with
      | none =>
        rw [hc] at q
        intro p H2 n2 e2 h2
        walk_at "go"
        exact q H2 e2
      | some e =>
        rw [hc] at q
        exact caught (Nat.le_of_ble_eq_true rfl) x_TW x_TooMany.te x_BadWords.te q
    rw [if_neg z] at q
    walk_at "go"
    refine r_ite (fun z1 => ?_) (fun z1 => ?_)
    · rw [if_pos z1] at q
      walk_at "go"
      refine ⟨c, rfl, ?_⟩
      cases hc : ckFig c 3999 with
      | none =>
        rw [hc] at q
        intro p H2 n2 e2 h2
        walk_at "go"
        exact q H2 e2
      | some e =>
        rw [hc] at q
        exact caught (Nat.le_of_ble_eq_true rfl) x_TW x_TooMany.te x_BadWords.te q
    rw [if_neg z1] at q
    walk_at "go"
    refine r_ite (fun z2 => ?_) (fun z2 => ?_)
    · rw [if_pos z2] at q
      walk_at "go"
      refine ⟨t, T, c, d, rfl, ht, ?_⟩
      cases hc : ckPart T c d with
      | none =>
        rw [hc] at q
        show OptT (WN.stE (gi T (c - 1)) (gi T (d - 1)) (topOf T c d)) H _
        cases WN.stE (gi T (c - 1)) (gi T (d - 1)) (topOf T c d) with
        | none =>
          intro H2 e2
          walk_at "go"
          exact q H2 e2
        | some x =>
          intro p H2 n2 e2 h2
          walk_at "go"
          exact q H2 e2
      | some e =>
        rw [hc] at q
        exact caught (Nat.le_of_ble_eq_true rfl) x_TW x_TooMany.te x_BadWords.te q
    · rw [if_neg z2] at q
      have l2' := l2 (by omega)
      walk_at "go"
      refine ⟨gi T 0, gi T 1, c, rfl, ?_⟩
      cases hc : ckParted (gi T 0) (gi T 1) c with
      | none =>
        rw [hc] at q
        refine ⟨fun _ t l r H2 e2 h2 hl hr => ?_, fun _ H2 e2 => ?_⟩
        · walk_at "go"
          exact q H2 e2
        · walk_at "go"
          exact q H2 e2
      | some e =>
        rw [hc] at q
        exact caught (Nat.le_of_ble_eq_true rfl) x_TW x_TooMany.te x_BadWords.te q
end
end K07
namespace K07
open PySem PySem.Spec PyProof.Rows L2 Evl Lay
section
variable {P : Program} {w : World} {K : PySem.W.Frag} {mg : Str → Option Value} {base : Heap} {CB CT CW : Addr} {tWs tW tR : Tok}
variable {a_SIGNS_OF_FIGURE : Addr}
theorem mk_figs {n : Nat} : figs (n : Int) = (List.range n).map fun i => ((WN.figN (i + 1) : Nat) : Int) := by
  unfold figs
  rw [Int.toNat_natCast]
theorem fig_none {c most : Int} (h0 : 0 ≤ c) (h1 : c ≤ most) : ckFig c most = none := by
  unfold ckFig ckMost ckMany
  rw [if_neg (by omega), if_neg (by omega)]
  rfl
theorem figs_len {c : Int} : (figs c).length = c.toNat := by unfold figs; rw [List.length_map, List.length_range]
theorem roms_len {c : Int} : (roms c).length = c.toNat := by unfold roms; rw [List.length_map, List.length_range]
def spNumerals : Sp := fun vs H Q _ => ∃ (p : Addr) (c : Int), vs = [.ref p, .int c] ∧ Pur H p ∧ 0 ≤ c ∧ c ≤ 3999 ∧ ∀ H2, ExB p H H2 → Pur H2 p → Q (.bl true) H2
abbrev s__law_numerals : Stmt := top 39
theorem sc__law_numerals : FnScope ["purse", "cells", "figures", "roman", "kind", "number"] ["purse", "cells"] (defScope s__law_numerals) := ⟨rfl, rfl, rfl, by decide +kernel, rfl, by decide +kernel, by decide +kernel⟩
theorem ok_numerals (T : Txt K mg CB tWs tW tR a_SIGNS_OF_FIGURE) (F : At K mg "_law_numerals" s__law_numerals ["purse", "cells"]) (d__law_draw : Def P w K mg base "_law_draw" 1 ["purse", "many"] spDraw) (d__law_list_is : Def P w K mg base "_law_list_is" 2 ["told", "due"] (spListIs K))
    (d__law_figures : Def P w K mg base "_law_figures" 1 ["number"] spLFig) (d__law_roman : Def P w K mg base "_law_roman" 1 ["number"] spLRom)
    (d_figure_widths : Def P w K mg base "figure_widths" 4 ["cells"] (spFigs CT CW 4000 figs)) (d_roman_widths : Def P w K mg base "roman_widths" 4 ["cells"] (spFigs CT CW 3999 roms))
    (d__law_refusal : Def P w K mg base "_law_refusal" 7 ["kind", "told", "P", "Q"] (spRefusal K)) : Def P w K mg base "_law_numerals" 8 ["purse", "cells"] spNumerals := by
  refine Def.mk' F sc__law_numerals (fun vs H Q E h => ?_) (fun f cdv Ar outer s H vs Q E hr h => ⟨_, (pss_cons (ps_set (i := 2) sc__law_numerals.nd rfl (Or.inl rfl) (pe_d d_figure_widths (hr.mono (by decide)) (passes_call (takes_of rfl rfl rfl rfl) (fun _ _ _ _ h => h)) (pa_cons (pv 1) pa_nil)))
      (pss_cons (ps_set (i := 3) sc__law_numerals.nd rfl (Or.inl rfl) (pe_d d_roman_widths (hr.mono (by decide)) (passes_call (takes_of rfl rfl rfl rfl) (fun _ _ _ _ h => h)) (pa_cons (pv 1) pa_nil)))
      (pss_cons (ps_if (pt_not (pt_val (pe_d d__law_list_is (hr.mono (by decide)) (passes_call (takes_of rfl rfl rfl rfl) (fun _ _ _ _ h => h)) (pa_cons (pv 2) (pa_cons (pe_lc (own := [("number", 5)]) (g := gName 5) (tt := tYes) rfl sc__law_numerals.nd (pi_range1 rfl T.n_range (pa_cons (pv 1) pa_nil)) (blkOk_by (own := [("number", 5)]) (N := ["purse", "cells", "figures", "roman", "kind", "number"]) (sc := defScope s__law_numerals) (by decide +kernel)) (fun _ _ _ _ _ => (pg_name (i := 5) sc__law_numerals.nd rfl (Or.inl rfl))) (fun _ _ _ _ _ => pts_nil) (fun _ _ _ _ _ => (pe_d d__law_figures (hr.mono (by decide)) passL (pa_cons (pe_op op_add (pv 5) pe_int) pa_nil)))) pa_nil))))) (pss_one (ps_ret pe_bl)) pss_nil)
      (pss_cons (ps_if (pt_not (pt_val (pe_d d__law_list_is (hr.mono (by decide)) (passes_call (takes_of rfl rfl rfl rfl) (fun _ _ _ _ h => h)) (pa_cons (pv 3) (pa_cons (pe_lc (own := [("number", 5)]) (g := gName 5) (tt := tYes) rfl sc__law_numerals.nd (pi_range1 rfl T.n_range (pa_cons (pv 1) pa_nil)) (blkOk_by (own := [("number", 5)]) (N := ["purse", "cells", "figures", "roman", "kind", "number"]) (sc := defScope s__law_numerals) (by decide +kernel)) (fun _ _ _ _ _ => (pg_name (i := 5) sc__law_numerals.nd rfl (Or.inl rfl))) (fun _ _ _ _ _ => pts_nil) (fun _ _ _ _ _ => (pe_d d__law_roman (hr.mono (by decide)) passL (pa_cons (pe_op op_add (pv 5) pe_int) pa_nil)))) pa_nil))))) (pss_one (ps_ret pe_bl)) pss_nil)
      (pss_cons (ps_expr (pe_bm PySem.F.plainAttrs_list PySem.F.slot_list_append PySem.F.type_list_append mt_append (pv 2) (pa_cons pe_int pa_nil)))
      (pss_cons (ps_expr (pe_bm PySem.F.plainAttrs_list PySem.F.slot_list_append PySem.F.type_list_append mt_append (pv 3) (pa_cons pe_int pa_nil)))
      (pss_cons (ps_if (PW.pt (pw_or (pt_cmpR op_ne (pe_callB (r := Lay.rLen K) c_len rfl T.n_len PySem.boot_len (pa_cons (pe_d d_figure_widths (hr.mono (by decide)) (passes_call (takes_of rfl rfl rfl rfl) (fun _ _ _ _ h => h)) (pa_cons (pv 1) pa_nil)) pa_nil)) (pv 1) (nomark _)) (pw_or1 (pt_cmpR op_ne (pe_callB (r := Lay.rLen K) c_len rfl T.n_len PySem.boot_len (pa_cons (pe_d d_roman_widths (hr.mono (by decide)) (passes_call (takes_of rfl rfl rfl rfl) (fun _ _ _ _ h => h)) (pa_cons (pv 1) pa_nil)) pa_nil)) (pv 1) (nomark _))))) (pss_one (ps_ret pe_bl)) pss_nil)
      (pss_cons (ps_for (passes_of rfl) rfl (pi_range1 rfl T.n_range (pa_cons pe_int pa_nil)) (pg_name (i := 4) sc__law_numerals.nd rfl (Or.inl rfl)) (pss_cons (ps_if (pt_cmpR (r := rNeD K) (op_neD hr.units) (pe_d d__law_refusal (hr.mono (by decide)) (passes_call (takes_of rfl rfl rfl rfl) (fun _ _ _ _ h => h)) (pa_cons (pv 4) (pa_cons (pe_lst pa_nil) (pa_cons (pe_op op_sub (pe_un un_neg pe_int) (pe_d d__law_draw (hr.mono (by decide)) (passes_call (takes_of rfl rfl rfl rfl) (fun _ _ _ _ h => h)) (pa_cons (pv 0) (pa_cons (pe_op op_pow pe_int pe_int) pa_nil)))) (pa_cons pe_int pa_nil))))) (pe_tup (pa_cons pe_str (pa_cons (pe_un un_neg pe_int) pa_nil))) (nomark _)) (pss_one (ps_ret pe_bl)) pss_nil)
      (pss_one (ps_if (pt_cmpR op_notN1 (pe_d d__law_refusal (hr.mono (by decide)) (passes_call (takes_of rfl rfl rfl rfl) (fun _ _ _ _ h => h)) (pa_cons (pv 4) (pa_cons (pe_lst pa_nil) (pa_cons pe_int (pa_cons pe_int pa_nil))))) pe_non (nomark _)) (pss_one (ps_ret pe_bl)) pss_nil))))
      (pss_one (ps_ret pe_bl)))))))))), ?_⟩)
  · obtain ⟨p, c, rfl, _⟩ := h
    rfl
  · obtain ⟨p, c, rfl, hp, c0, c9, q⟩ := h
    have f0 := fig_none (c := c) (most := 4000) c0 (by omega)
    have f1 := fig_none (c := c) (most := 3999) c0 (by omega)
    walk_at "go0"
    refine ⟨c, rfl, ?_⟩
    rw [f0]
    intro a H1 n1 e1 h1
    walk_at "go"
    refine ⟨c, rfl, ?_⟩
    rw [f1]
    intro b H2 n2 e2 h2
    walk_at "go"
    refine lcF1 (f := fun i => ((WN.figN (i + 1) : Nat) : Int)) (by omega) (by omega) (fun k h R hk e hR => ?_) (fun l H3 n3 e3 h3 => ?_) (fun _ => rfl)
    · walk_at "go"
      exact ⟨k + 1, by rw [show (k : Int) + 1 = ((k + 1 : Nat) : Int) by omega], by omega, by omega, fun h2 e2 => hR h2 e2⟩
    walk_at "go"
    refine ⟨a, l, figs c, rfl, by walk_at "hp", by walk_at "sq", by rw [figs_len]; omega, ?_⟩
    walk_at "go"
    refine lcF1 (f := fun i => ((WN.romP (i + 1) : Nat) : Int)) (by omega) (by omega) (fun k h R hk e hR => ?_) (fun l2 H4 n4 e4 h4 => ?_) (fun _ => rfl)
    · walk_at "go"
      exact ⟨k + 1, by rw [show (k : Int) + 1 = ((k + 1 : Nat) : Int) by omega], by omega, by omega, fun h2 e2 => hR h2 e2⟩
    walk_at "go"
    refine ⟨b, l2, roms c, rfl, by walk_at "hp", by walk_at "sq", by rw [roms_len]; omega, ?_⟩
    walk_at "go"
    refine r_bmL (by walk_at "sq") ?_ rfl
    walk_at "go"
    refine r_appI (ns := figs c) (by walk_at "hp") (by rw [figs_len]; omega) fun H5 e5 h5 _ => ?_
    walk_at "go"
    have nab : b ≠ a := by walk_at "ne"
    refine r_bmL (xs := (roms c).map V.int) (by walk_at "sq") ?_ rfl
    walk_at "go"
    refine r_appI (ns := roms c) (by walk_at "hp") (by rw [roms_len]; omega) fun H6 e6 h6 _ => ?_
    walk_at "go"
    have hp6 : Pur H6 p := by walk_at "pu"
    have ep6 : ExB p H H6 := by walk_at "ex"
    clear h5 e5 h6 e6
    refine ⟨c, rfl, ?_⟩
    rw [f0]
    intro a2 H7 n7 e7 h7
    walk_at "go"
    refine r_noN (by rw [figs_len]; omega) ?_
    walk_at "go"
    refine ⟨c, rfl, ?_⟩
    rw [f1]
    intro b2 H8 n8 e8 h8
    walk_at "go"
    refine r_noN (by rw [roms_len]; omega) ?_
    walk_at "go"
    have hp8 : Pur H8 p := by walk_at "pu"
    refine forR1 (by decide) (by decide) (fun i σ' H' => (∃ v, σ' = [some (.ref p), some (.int c), some (.ref a), some (.ref b), v, none]) ∧ ExB p H8 H' ∧ Pur H' p) ⟨⟨_, rfl⟩, ExB.refl _ _, hp8⟩ ?_ ?_
    · rintro i σ' H' hi ⟨⟨v, rfl⟩, e, hpp⟩
      have ik : (i : Int) = 0 ∨ (i : Int) = 1 := by omega
      walk_at "gn"
      refine ⟨p, _, rfl, by decide, by decide, by walk_at "pu", fun x H9 x0 x1 e9 hp9 => ?_⟩
      walk_at "gn"
      refine ⟨i, _, [], -1 - x, 0, rfl, by walk_at "sq", by omega, by omega, fun z => by omega, ?_⟩
      have hk : rk i [] (-1 - x) 0 = some (.words (-1)) := by
        have hf : ∀ m : Int, 0 ≤ m → ckFig (-1 - x) m = some (.words (-1)) := fun m hm => by
          unfold ckFig ckMost ckMany
          rw [if_neg (by omega), if_pos (by omega)]
          rfl
        unfold rk
        rcases ik with z | z
        · rw [if_pos z]; exact hf 4000 (by decide)
        · rw [if_neg (by omega), if_pos z]; exact hf 3999 (by decide)
      rw [hk]
      intro t H10 e10 h10
      walk_at "gn"
      refine r_neEr (.words (-1)) (by walk_at "st") (by walk_at "st") trivial ?_
      walk_at "gn"
      refine ⟨i, _, [], 0, 0, rfl, by walk_at "sq", by omega, by omega, fun z => by omega, ?_⟩
      have hk2 : rk i [] 0 0 = none := by
        unfold rk
        rcases ik with z | z
        · rw [if_pos z]; exact fig_none (by decide) (by decide)
        · rw [if_neg (by omega), if_pos z]; exact fig_none (by decide) (by decide)
      rw [hk2]
      intro H11 e11
      walk_at "gn"
      refine r_noN rfl ?_
      walk_at "gn"
      exact ⟨⟨_, rfl⟩, by walk_at "ex", by walk_at "pu"⟩
    · rintro σ' H' ⟨⟨v, rfl⟩, e, hpp⟩
      walk_at "gn"
      exact q H' (by walk_at "ex") hpp
end
end K07
namespace K07
open PySem PySem.Spec PyProof.Rows L2 Evl Lay
section
variable {P : Program} {w : World} {K : PySem.W.Frag} {mg : Str → Option Value} {base : Heap} {CB CT CW : Addr} {tWs tW tR : Tok}
variable {a_SIGNS_OF_FIGURE : Addr}
def AllIn (ns : List Int) (lo hi : Int) : Prop := ∀ z ∈ ns, lo ≤ z ∧ z ≤ hi
end
end K07
namespace K07
open PySem PySem.Spec PyProof.Rows L2 Evl Lay
section
variable {P : Program} {w : World} {K : PySem.W.Frag} {mg : Str → Option Value} {base : Heap} {CB CT CW : Addr} {tWs tW tR : Tok}
variable {a_SIGNS_OF_FIGURE : Addr}
/-! ### the great numerals -/
theorem gi_figs {c i : Int} (h0 : 0 ≤ i) (h1 : i < c) : gi (figs c) i = ((WN.figN (i.toNat + 1) : Nat) : Int) := by
  unfold gi figs
  rw [List.getD_eq_getElem?_getD, List.getElem?_map, List.getElem?_range (by omega)]
  rfl
theorem gi_roms {c i : Int} (h0 : 0 ≤ i) (h1 : i < c) : gi (roms c) i = ((WN.romP (i.toNat + 1) : Nat) : Int) := by
  unfold gi roms
  rw [List.getD_eq_getElem?_getD, List.getElem?_map, List.getElem?_range (by omega)]
  rfl
theorem all_snoc {zs : List Int} {lo hi z : Int} (h : AllIn zs lo hi) (h0 : lo ≤ z) (h1 : z ≤ hi) : AllIn (zs ++ [z]) lo hi := fun u hu => by
  rcases List.mem_append.mp hu with q | q
  · exact h u q
  · rw [List.mem_singleton.mp q]
    exact ⟨h0, h1⟩
theorem all_nil {lo hi : Int} : AllIn [] lo hi := fun z hz => (List.not_mem_nil hz).elim
theorem ck_widths {c m : Int} (h : m < c) : ckFig c m = some (.many "widths") := by
  unfold ckFig ckMost
  rw [if_pos h]
  rfl
def spGreatN : Sp := fun vs H Q _ => ∃ (p : Addr), vs = [.ref p] ∧ Pur H p ∧ ∀ H2, ExB p H H2 → Pur H2 p → Q (.bl true) H2
abbrev s__law_great_numerals : Stmt := top 40
theorem sc__law_great_numerals : FnScope ["purse", "figures", "roman", "places", "place", "beyond", "turn"] ["purse"] (defScope s__law_great_numerals) := ⟨rfl, rfl, rfl, by decide +kernel, rfl, by decide +kernel, by decide +kernel⟩
theorem ok_great_numerals (T : Txt K mg CB tWs tW tR a_SIGNS_OF_FIGURE) (F : At K mg "_law_great_numerals" s__law_great_numerals ["purse"]) (d__law_draw : Def P w K mg base "_law_draw" 1 ["purse", "many"] spDraw) (d__law_whole : Def P w K mg base "_law_whole" 1 ["value"] spIsWhole)
    (d__law_figures : Def P w K mg base "_law_figures" 1 ["number"] spLFig) (d__law_roman : Def P w K mg base "_law_roman" 1 ["number"] spLRom)
    (d_figure_widths : Def P w K mg base "figure_widths" 4 ["cells"] (spFigs CT CW 4000 figs)) (d_roman_widths : Def P w K mg base "roman_widths" 4 ["cells"] (spFigs CT CW 3999 roms))
    (d__law_refusal : Def P w K mg base "_law_refusal" 7 ["kind", "told", "P", "Q"] (spRefusal K)) : Def P w K mg base "_law_great_numerals" 8 ["purse"] spGreatN := by
  refine Def.mk' F sc__law_great_numerals (fun vs H Q E h => ?_) (fun f cdv Ar outer s H vs Q E hr h => ⟨_, (pss_cons (ps_set (i := 1) sc__law_great_numerals.nd rfl (Or.inl rfl) (pe_d d_figure_widths (hr.mono (by decide)) (passes_call (takes_of rfl rfl rfl rfl) (fun _ _ _ _ h => h)) (pa_cons pe_int pa_nil)))
      (pss_cons (ps_set (i := 2) sc__law_great_numerals.nd rfl (Or.inl rfl) (pe_d d_roman_widths (hr.mono (by decide)) (passes_call (takes_of rfl rfl rfl rfl) (fun _ _ _ _ h => h)) (pa_cons pe_int pa_nil)))
      (pss_cons (ps_if (PW.pt (pw_or (pt_cmpR op_ne (pe_callB (r := Lay.rLen K) c_len rfl T.n_len PySem.boot_len (pa_cons (pv 1) pa_nil)) pe_int (nomark _)) (pw_or1 (pt_cmpR op_ne (pe_callB (r := Lay.rLen K) c_len rfl T.n_len PySem.boot_len (pa_cons (pv 2) pa_nil)) pe_int (nomark _))))) (pss_one (ps_ret pe_bl)) pss_nil)
      (pss_cons (ps_setLc (i := 3) (own := [("turn", 6)]) (g := gName 6) (tt := tYes) rfl sc__law_great_numerals.nd rfl rfl (sw_true rfl rfl rfl (by decide +kernel)) (pi_range1 rfl T.n_range (pa_cons pe_int pa_nil)) (blkOk_by (own := [("turn", 6)]) (N := ["purse", "figures", "roman", "places", "place", "beyond", "turn"]) (sc := defScope s__law_great_numerals) (by decide +kernel)) (fun _ _ _ _ _ => (pg_name (i := 6) sc__law_great_numerals.nd rfl (Or.inl rfl))) (fun _ _ _ _ _ => pts_nil) (fun _ _ _ _ _ => (pe_d d__law_draw (hr.mono (by decide)) passL (pa_cons (pv 0) (pa_cons pe_int pa_nil)))))
      (pss_cons (ps_for (passes_of rfl) rfl (pi_list (pe_op op_cat (pv 3) (pe_lst (pa_cons pe_int (pa_cons pe_int (pa_cons pe_int (pa_cons pe_int (pa_cons pe_int (pa_cons pe_int (pa_cons pe_int pa_nil)))))))))) (pg_name (i := 4) sc__law_great_numerals.nd rfl (Or.inl rfl)) (pss_cons (ps_if (PW.pt (pw_or (pt_not (pt_val (pe_d d__law_whole (hr.mono (by decide)) (passes_call (takes_of rfl rfl rfl rfl) (fun _ _ _ _ h => h)) (pa_cons (pe_ix (r := rIxL K) ix_list (pv 1) (pv 4) (fun _ _ => rfl)) pa_nil)))) (pw_or1 (pt_cmpR op_ne (pe_ix (r := rIxL K) ix_list (pv 1) (pv 4) (fun _ _ => rfl)) (pe_d d__law_figures (hr.mono (by decide)) (passes_call (takes_of rfl rfl rfl rfl) (fun _ _ _ _ h => h)) (pa_cons (pe_op op_add (pv 4) pe_int) pa_nil)) (nomark _))))) (pss_one (ps_ret pe_bl)) pss_nil)
      (pss_one (ps_if (PW.pt (pw_or (pt_not (pt_val (pe_d d__law_whole (hr.mono (by decide)) (passes_call (takes_of rfl rfl rfl rfl) (fun _ _ _ _ h => h)) (pa_cons (pe_ix (r := rIxL K) ix_list (pv 2) (pv 4) (fun _ _ => rfl)) pa_nil)))) (pw_or1 (pt_cmpR op_ne (pe_ix (r := rIxL K) ix_list (pv 2) (pv 4) (fun _ _ => rfl)) (pe_d d__law_roman (hr.mono (by decide)) (passes_call (takes_of rfl rfl rfl rfl) (fun _ _ _ _ h => h)) (pa_cons (pe_op op_add (pv 4) pe_int) pa_nil)) (nomark _))))) (pss_one (ps_ret pe_bl)) pss_nil))))
      (pss_cons (ps_for (passes_of rfl) rfl (pi_list (pe_lst (pa_cons pe_int (pa_cons (pe_op op_add pe_int (pe_d d__law_draw (hr.mono (by decide)) (passes_call (takes_of rfl rfl rfl rfl) (fun _ _ _ _ h => h)) (pa_cons (pv 0) (pa_cons (pe_op op_pow pe_int pe_int) pa_nil)))) pa_nil)))) (pg_name (i := 5) sc__law_great_numerals.nd rfl (Or.inl rfl)) (pss_cons (ps_if (pt_cmpR (r := rNeD K) (op_neD hr.units) (pe_d d__law_refusal (hr.mono (by decide)) (passes_call (takes_of rfl rfl rfl rfl) (fun _ _ _ _ h => h)) (pa_cons pe_int (pa_cons (pe_lst pa_nil) (pa_cons (pe_op op_add pe_int (pv 5)) (pa_cons pe_int pa_nil))))) (pe_tup (pa_cons pe_str (pa_cons pe_str pa_nil))) (nomark _)) (pss_one (ps_ret pe_bl)) pss_nil)
      (pss_one (ps_if (pt_cmpR (r := rNeD K) (op_neD hr.units) (pe_d d__law_refusal (hr.mono (by decide)) (passes_call (takes_of rfl rfl rfl rfl) (fun _ _ _ _ h => h)) (pa_cons pe_int (pa_cons (pe_lst pa_nil) (pa_cons (pe_op op_add pe_int (pv 5)) (pa_cons pe_int pa_nil))))) (pe_tup (pa_cons pe_str (pa_cons pe_str pa_nil))) (nomark _)) (pss_one (ps_ret pe_bl)) pss_nil))))
      (pss_one (ps_ret pe_bl)))))))), ?_⟩)
  · obtain ⟨p, rfl, _⟩ := h
    rfl
  · obtain ⟨p, rfl, hp, q⟩ := h
    have f0 := fig_none (c := 4000) (most := 4000) (by decide) (by decide)
    have f1 := fig_none (c := 3999) (most := 3999) (by decide) (by decide)
    walk_at "go0"
    refine ⟨4000, rfl, ?_⟩
    rw [f0]
    intro a H1 n1 e1 h1
    walk_at "go"
    refine ⟨3999, rfl, ?_⟩
    rw [f1]
    intro b H2 n2 e2 h2
    walk_at "go"
    refine r_noN (by rw [figs_len]; rfl) ?_
    walk_at "go"
    refine r_noN (by rw [roms_len]; rfl) ?_
    walk_at "go"
    have hp2 : Pur H2 p := by walk_at "pu"
    refine lcR1 (by omega) (by omega) (fun l i h => ∃ zs : List Int, zs.length = i ∧ AllIn zs 0 3998 ∧ h l = some (.lst (zs.map V.int)) ∧ ExB p H2 h ∧ Pur h p ∧ H2 l = none) ?_ ?_ ?_ (fun _ => rfl)
    · exact fun l h hl e hn => ⟨[], rfl, all_nil, hn, Lay.Ex.b e, hp2.ex e, hl⟩
    · intro l i h hi ⟨zs, hz, hall, hl, e, hp3, ln⟩
      walk_at "go"
      refine ⟨p, 3999, rfl, by omega, by omega, hp3, fun r H4 r0 r1 e4 hp4 => ?_⟩
      walk_at "go"
      have nlp : l ≠ p := hp2.ne ln
      exact appW (e4 _ _ nlp hl) (by rw [List.length_map]; omega) fun H5 e5 h5 => ⟨zs ++ [r], by rw [List.length_append, hz]; rfl, all_snoc hall (by omega) (by omega), by rw [List.map_append]; exact h5, ExB.exB (e.trans e4) e5 ln, hp4.upd e5 nlp.symm, ln⟩
    intro l H3 ⟨zs, lz, iz, hl3, e3, hp3, nl⟩
    walk_at "go"
    refine r_newL (xs := ([887, 899, 998, 999, 1887, 3887, 3998] : List Int).map V.int) (len3 rfl) fun l2 H4 n4 e4 h4 => ?_
    walk_at "gn"
    have hall : AllIn (zs ++ [887, 899, 998, 999, 1887, 3887, 3998]) 0 3998 := fun z hz => by
      rcases List.mem_append.mp hz with q | q
      · exact iz z q
      · simp only [List.mem_cons, List.not_mem_nil, or_false] at q
        omega
    generalize zs ++ [887, 899, 998, 999, 1887, 3887, 3998] = ws at *
    have nap : a ≠ p := by walk_at "ne"
    have nbp : b ≠ p := by walk_at "ne"
    have ha2 : H2 a = some (.lst ((figs 4000).map V.int)) := by walk_at "hp"
    have ha3 := e3 _ _ nap ha2
    have hb3 := e3 _ _ nbp h2
    rename_i l3 H5 n5 e5 h5
    refine forI (ns := ws) (by walk_at "sq") (fun i σ' H' => (∃ v1 v2 v3, σ' = [some (.ref p), some (.ref a), some (.ref b), some (.ref l), v1, v2, v3]) ∧ Ex H5 H') ⟨⟨_, _, _, rfl⟩, Ex.refl _⟩ ?_ ?_ ?_
    · rintro i σ' H' _ ⟨_, e⟩
      walk_at "sq"
    · rintro i z σ' H' hz ⟨⟨v1, v2, v3, rfl⟩, e⟩
      have hzb := hall z (List.mem_of_getElem? hz)
      walk_at "go"
      refine r_ixI (ns := figs 4000) (by walk_at "sq") (by omega) (by rw [figs_len]; omega) ?_
      walk_at "go"
      refine ⟨_, rfl, ?_⟩
      walk_at "go"
      refine r_ixI (ns := figs 4000) (by walk_at "sq") (by omega) (by rw [figs_len]; omega) ?_
      walk_at "go"
      refine ⟨z.toNat + 1, by rw [show z + 1 = ((z.toNat + 1 : Nat) : Int) by omega], by omega, by omega, fun H6 e6 => ?_⟩
      walk_at "go"
      refine r_noN (gi_figs (by omega) (by omega)) ?_
      walk_at "go"
      refine r_ixI (ns := roms 3999) (by walk_at "sq") (by omega) (by rw [roms_len]; omega) ?_
      walk_at "go"
      refine ⟨_, rfl, ?_⟩
      walk_at "go"
      refine r_ixI (ns := roms 3999) (by walk_at "sq") (by omega) (by rw [roms_len]; omega) ?_
      walk_at "go"
      refine ⟨z.toNat + 1, by rw [show z + 1 = ((z.toNat + 1 : Nat) : Int) by omega], by omega, by omega, fun H7 e7 => ?_⟩
      walk_at "go"
      refine r_noN (gi_roms (by omega) (by omega)) ?_
      walk_at "go"
      exact ⟨⟨_, _, _, rfl⟩, by walk_at "ex"⟩
    rintro σ' H6 ⟨⟨v1, v2, v3, rfl⟩, e6⟩
    have okw : PyData.strOk "widths" = true := by decide +kernel
    have ep6 : ExB p H H6 := by walk_at "ex"
    walk_at "go"
    refine ⟨p, _, rfl, by decide, by decide, by walk_at "pu", fun x H7 x0 x1 e7 hp7 => ?_⟩
    walk_at "go"
    refine r_newI2 fun l4 H8 n8 e8 h8 => ?_
    walk_at "go"
    refine forI (ns := [1, 2 + x]) (by walk_at "sq") (fun i σ' H' => (∃ v1 v2 v3, σ' = [some (.ref p), some (.ref a), some (.ref b), some (.ref l), v1, v2, v3]) ∧ Ex H8 H') ⟨⟨_, _, _, rfl⟩, Ex.refl _⟩ ?_ ?_ ?_
    · rintro i σ' H' _ ⟨_, e⟩
      walk_at "sq"
    · rintro i z σ' H' hz ⟨⟨v1, v2, v3, rfl⟩, e⟩
      have hzb : 1 ≤ z := by
        have := List.mem_of_getElem? hz
        simp only [List.mem_cons, List.not_mem_nil, or_false] at this
        omega
      walk_at "gn"
      refine ⟨0, _, [], 4000 + z, 0, rfl, by walk_at "sq", by decide, by decide, fun z => by omega, ?_⟩
      rw [show rk 0 [] (4000 + z) 0 = some (.many "widths") from ck_widths (by omega)]
      intro t H10 e10 h10
      walk_at "gn"
      refine r_neEr (.many "widths") (by walk_at "st") (by walk_at "st") okw ?_
      walk_at "gn"
      refine ⟨1, _, [], 3999 + z, 0, rfl, by walk_at "sq", by decide, by decide, fun z => by omega, ?_⟩
      rw [show rk 1 [] (3999 + z) 0 = some (.many "widths") from ck_widths (by omega)]
      intro t H11 e11 h11
      walk_at "gn"
      refine r_neEr (.many "widths") (by walk_at "st") (by walk_at "st") okw ?_
      walk_at "gn"
      exact ⟨⟨_, _, _, rfl⟩, by walk_at "ex"⟩
    · rintro σ' H9 ⟨⟨v1, v2, v3, rfl⟩, e9⟩
      walk_at "gn"
      exact q H9 (by walk_at "ex") (by walk_at "pu")
end
end K07
namespace K07
open PySem PySem.Spec PyProof.Rows L2 Evl Lay
section
variable {P : Program} {w : World} {K : PySem.W.Frag} {mg : Str → Option Value} {base : Heap} {CB CT CW : Addr} {tWs tW tR : Tok}
variable {a_SIGNS_OF_FIGURE : Addr}
/-! ### the words that part -/
def spBetween : Sp := fun vs H Q _ => ∃ u t v m : Int, vs = [.int u, .int t, .int v, .int m] ∧ Q (.int (WN.btw u t v m)) H
abbrev s__law_between : Stmt := top 41
theorem sc__law_between : FnScope ["u", "told", "v", "width"] ["u", "told", "v", "width"] (defScope s__law_between) := ⟨rfl, rfl, rfl, by decide +kernel, rfl, by decide +kernel, by decide +kernel⟩
theorem ok_between (T : Txt K mg CB tWs tW tR a_SIGNS_OF_FIGURE) (F : At K mg "_law_between" s__law_between ["u", "told", "v", "width"]) : Def P w K mg base "_law_between" 1 ["u", "told", "v", "width"] spBetween := by
  refine Def.mk' F sc__law_between (fun vs H Q E h => ?_) (fun f cdv Ar outer s H vs Q E hr h => ⟨_, (pss_cons (ps_if (pt_cmpR op_le (pe_op op_add (pe_op op_add (pe_op op_add (pv 0) (pv 1)) (pv 2)) pe_int) (pv 3) (nomark _)) (pss_one (ps_ret pe_int)) pss_nil)
      (pss_one (ps_ret (pe_ifExp (pt_cmpR op_le (pe_op op_add (pe_op op_add (pe_callB (c_min2 rfl) rfl T.n_min (by decide +kernel) (pa_cons (pv 0) (pa_cons (pv 2) pa_nil))) pe_int) (pv 1)) (pv 3) (nomark _)) pe_int pe_int)))), ?_⟩)
  · obtain ⟨u, t, v, m, rfl, _⟩ := h
    rfl
  · obtain ⟨u, t, v, m, rfl, q⟩ := h
    unfold WN.btw mn at q
    walk_at "go0"
    refine r_ite (fun c => ?_) (fun c => ?_)
    · rw [if_pos (by omega)] at q
      walk_at "go"
      exact q
    · rw [if_neg (by omega)] at q
      walk_at "go"
      exact q
def spParts : Sp := fun vs H Q _ => ∃ a b m : Int, vs = [.int a, .int b, .int m] ∧ 1 ≤ a ∧ 1 ≤ b ∧ mx a b ≤ m ∧ m ≤ 1000 ∧ Q (.bl (decide (WN.inS a b m))) H
abbrev s__law_parts : Stmt := top 42
theorem sc__law_parts : FnScope ["one", "other", "width", "u", "v"] ["one", "other", "width"] (defScope s__law_parts) := ⟨rfl, rfl, rfl, by decide +kernel, rfl, by decide +kernel, by decide +kernel⟩
theorem ok_parts (T : Txt K mg CB tWs tW tR a_SIGNS_OF_FIGURE) (F : At K mg "_law_parts" s__law_parts ["one", "other", "width"]) (d__law_between : Def P w K mg base "_law_between" 1 ["u", "told", "v", "width"] spBetween) : Def P w K mg base "_law_parts" 2 ["one", "other", "width"] spParts := by
  refine Def.mk' F sc__law_parts (fun vs H Q E h => ?_) (fun f cdv Ar outer s H vs Q E hr h => ⟨_, (pss_cons (ps_for (passes_of rfl) rfl (pi_range2 rfl T.n_range (pa_cons pe_int (pa_cons (pe_op op_add (pv 2) pe_int) pa_nil))) (pg_name (i := 3) sc__law_parts.nd rfl (Or.inl rfl)) (pss_one (ps_for (passes_of rfl) rfl (pi_range2 rfl T.n_range (pa_cons (pv 3) (pa_cons (pe_op op_add (pv 2) pe_int) pa_nil))) (pg_name (i := 4) sc__law_parts.nd rfl (Or.inl rfl)) (pss_one (ps_if (pt_cmpR op_eq (pe_op op_sub (pe_d d__law_between (hr.mono (by decide)) (passes_call (takes_of rfl rfl rfl rfl) (fun _ _ _ _ h => h)) (pa_cons (pv 3) (pa_cons (pe_callB (c_max2 rfl) rfl T.n_max (by decide +kernel) (pa_cons (pv 0) (pa_cons (pv 1) pa_nil))) (pa_cons (pv 4) (pa_cons (pv 2) pa_nil))))) (pe_d d__law_between (hr.mono (by decide)) (passes_call (takes_of rfl rfl rfl rfl) (fun _ _ _ _ h => h)) (pa_cons (pv 3) (pa_cons (pe_callB (c_min2 rfl) rfl T.n_min (by decide +kernel) (pa_cons (pv 0) (pa_cons (pv 1) pa_nil))) (pa_cons (pv 4) (pa_cons (pv 2) pa_nil)))))) pe_int (nomark _)) (pss_one (ps_ret pe_bl)) pss_nil)))))
      (pss_one (ps_ret pe_bl))), ?_⟩)
  · obtain ⟨a, b, m, rfl, _⟩ := h
    rfl
  · obtain ⟨a, b, m, rfl, a1, b1, hm, m1, q⟩ := h
    have n1 : 1 ≤ mn a b := by unfold mn; split <;> omega
    have m0 : 1 ≤ m := by unfold mx at hm; split at hm <;> omega
    walk_at "go0"
    refine forR2 (by omega) (by omega) (fun k σ' H' => (∃ v1 v2, σ' = [some (.int a), some (.int b), some (.int m), v1, v2]) ∧ H' = H ∧ ∀ u v : Int, 1 ≤ u → u < 1 + k → u ≤ v → v ≤ m → ¬ WN.btw u (mx a b) v m - WN.btw u (mn a b) v m = 2) ⟨⟨_, _, rfl⟩, rfl, fun u v h1 h2 => absurd h2 (by omega)⟩ ?_ ?_
    · rintro k σ' H' hk ⟨⟨v1, v2, rfl⟩, rfl, hn⟩
      walk_at "go"
      refine forR2 (by omega) (by omega) (fun j σ' H2 => (∃ v2, σ' = [some (.int a), some (.int b), some (.int m), some (.int (1 + (k : Int))), v2]) ∧ H2 = H' ∧ ∀ v : Int, 1 + (k : Int) ≤ v → v < 1 + (k : Int) + j → ¬ WN.btw (1 + (k : Int)) (mx a b) v m - WN.btw (1 + (k : Int)) (mn a b) v m = 2) ⟨⟨_, rfl⟩, rfl, fun v h1 h2 => absurd h2 (by omega)⟩ ?_ ?_
      · rintro j σ' H2 hj ⟨⟨v2, rfl⟩, rfl, hn2⟩
        walk_at "go"
        refine ⟨_, mx a b, _, m, rfl, ?_⟩
        walk_at "go"
        refine ⟨_, mn a b, _, m, rfl, ?_⟩
        walk_at "go"
        refine r_ite (fun c => ?_) (fun c => ?_)
        · walk_at "go"
          have h : WN.inS a b m := WN.btw_in (u := 1 + (k : Int)) (v := 1 + (k : Int) + (j : Int)) (by omega) (by omega) (by omega) c
          rw [decide_eq_true h] at q
          exact q
        · walk_at "go"
          refine ⟨⟨_, rfl⟩, rfl, fun v h1 h2 => ?_⟩
          by_cases e : v = 1 + (k : Int) + (j : Int)
          · rw [e]; exact c
          · exact hn2 v h1 (by omega)
      · rintro σ' H2 ⟨⟨v2, rfl⟩, rfl, hn2⟩
        walk_at "go"
        refine ⟨⟨_, _, rfl⟩, rfl, fun u v h1 h2 h3 h4 => ?_⟩
        by_cases e : u = 1 + (k : Int)
        · rw [e]
          exact hn2 v (by omega) (by omega)
        · exact hn u v h1 (by omega) h3 h4
    · rintro σ' H' ⟨⟨v1, v2, rfl⟩, rfl, hn⟩
      walk_at "go"
      have h : ¬ WN.inS a b m := fun z => by
        obtain ⟨u, u1, u2, hu⟩ := WN.in_btw n1 hm z
        exact hn u u u1 (by omega) (by omega) u2 hu
      rw [decide_eq_false h] at q
      exact q
/-- widths that are let -/
def Wok (ns : List Int) : Prop := ns.length ≤ 4000 ∧ AllIn ns 1 400
theorem ws_none {ns : List Int} (h : ∀ z ∈ ns, 1 ≤ z) : ckWs ns = none := by
  unfold ckWs
  rw [List.findIdx?_eq_none_iff.mpr fun y hy => decide_eq_false (by have := h y hy; omega)]
  rfl
theorem nums_none {s : Str} {ns : List Int} {m : Int} (h : ∀ z ∈ ns, z ≤ m) : ckNums s ns m = none := by
  unfold ckNums
  rw [if_neg]
  intro q
  obtain ⟨z, hz, hd⟩ := List.any_eq_true.mp q
  have := h z hz
  have := of_decide_eq_true hd
  omega
theorem orN {a b : Option Er} (h : a = none) : orEr a b = b := by
  rw [h]
  rfl
theorem orS {a b : Option Er} {e : Er} (h : a = some e) : orEr a b = some e := by
  rw [h]
  rfl
theorem bw_none {ns : List Int} (hl : ns.length ≤ 4000) (h : ∀ z ∈ ns, z ≤ 400) : ckBW ns = none := by
  unfold ckBW ckMost
  rw [if_neg (by omega), orN rfl, nums_none h]
theorem part_none {ns : List Int} {c d : Int} (h : Wok ns) (c1 : 1 ≤ c) (c2 : c ≤ ns.length) (d1 : 1 ≤ d) (d2 : d ≤ ns.length) : ckPart ns c d = none := by
  unfold ckPart
  rw [orN (bw_none h.1 fun z hz => (h.2 z hz).2), if_neg (by unfold badC; omega), orN rfl, ws_none fun z hz => (h.2 z hz).1]
theorem parted_none {a b m : Int} (ha : 1 ≤ a ∧ a ≤ 400) (hb : 1 ≤ b ∧ b ≤ 400) (hm : 1 ≤ m) : ckParted a b m = none := by
  have h : ∀ z ∈ [a, b], 1 ≤ z ∧ z ≤ 400 := fun z hz => by
    simp only [List.mem_cons, List.not_mem_nil, or_false] at hz
    omega
  unfold ckParted
  rw [orN (nums_none fun z hz => (h z hz).2)]
  unfold ckLine
  rw [if_neg (by omega), orN rfl, ws_none fun z hz => (h z hz).1]
theorem gi_mem {ns : List Int} {i : Int} (h0 : 0 ≤ i) (h1 : i < ns.length) : gi ns i ∈ ns := by
  unfold gi
  rw [List.getD_eq_getElem?_getD, List.getElem?_eq_getElem (by omega)]
  exact List.getElem_mem _
theorem top_ge {ns : List Int} {c d : Int} (c1 : 1 ≤ c) (c2 : c ≤ ns.length) (d1 : 1 ≤ d) (d2 : d ≤ ns.length) : gi ns (c - 1) ≤ topOf ns c d ∧ gi ns (d - 1) ≤ topOf ns c d := by
  have hm : c ≤ mx c d ∧ d ≤ mx c d ∧ mx c d ≤ ns.length := by unfold mx; split <;> omega
  have key : ∀ i : Int, 1 ≤ i → i ≤ mx c d → gi ns (i - 1) ≤ topOf ns c d := fun i i1 i2 => by
    refine mxl_ge (List.mem_of_getElem? (i := (i - 1).toNat) ?_)
    rw [List.getElem?_take_of_lt (by omega), List.getElem?_eq_getElem (by omega)]
    unfold gi
    rw [List.getD_eq_getElem?_getD, List.getElem?_eq_getElem (by omega)]
    rfl
  exact ⟨key c c1 hm.1, key d d1 hm.2.1⟩
theorem top_mem {ns : List Int} {c d : Int} (c1 : 1 ≤ c) (c2 : c ≤ ns.length) (d2 : d ≤ ns.length) : topOf ns c d ∈ ns := by
  have hm : 1 ≤ mx c d ∧ mx c d ≤ ns.length := by unfold mx; split <;> omega
  exact List.mem_of_mem_take (mxl_mem (by rw [List.length_take]; omega))
def spShown : Sp := fun vs H Q _ => ∃ a b m : Int, vs = [.int a, .int b, .int m] ∧ 1 ≤ a ∧ a ≤ 400 ∧ 1 ≤ b ∧ b ≤ 400 ∧ 1 ≤ m ∧ ∀ H2, Ex H H2 → Q (.bl true) H2
abbrev s__law_shown : Stmt := top 44
theorem sc__law_shown : FnScope ["one", "other", "width", "told", "more", "less", "word", "side"] ["one", "other", "width"] (defScope s__law_shown) := ⟨rfl, rfl, rfl, by decide +kernel, rfl, by decide +kernel, by decide +kernel⟩
theorem ok_shown (T : Txt K mg CB tWs tW tR a_SIGNS_OF_FIGURE) (F : At K mg "_law_shown" s__law_shown ["one", "other", "width"]) (d__law_list_is : Def P w K mg base "_law_list_is" 2 ["told", "due"] (spListIs K)) (d__law_filled : Def P w K mg base "_law_filled" 2 ["words", "width"] (spLFilled K))
    (d_parted_words : Def P w K mg base "parted_words" 5 ["a", "b", "width"] (spParted K CT CW)) : Def P w K mg base "_law_shown" 6 ["one", "other", "width"] spShown := by
  refine Def.mk' F sc__law_shown (fun vs H Q E h => ?_) (fun f cdv Ar outer s H vs Q E hr h => ⟨_, (pss_cons (ps_set (i := 3) sc__law_shown.nd rfl (Or.inl rfl) (pe_d d_parted_words (hr.mono (by decide)) (passes_call (takes_of rfl rfl rfl rfl) (fun _ _ _ _ h => h)) (pa_cons (pv 0) (pa_cons (pv 1) (pa_cons (pv 2) pa_nil)))))
      (pss_cons (ps_set (i := 4) sc__law_shown.nd rfl (Or.inl rfl) (pe_callB (c_max2 rfl) rfl T.n_max (by decide +kernel) (pa_cons (pv 0) (pa_cons (pv 1) pa_nil))))
      (pss_cons (ps_set (i := 5) sc__law_shown.nd rfl (Or.inl rfl) (pe_callB (c_min2 rfl) rfl T.n_min (by decide +kernel) (pa_cons (pv 0) (pa_cons (pv 1) pa_nil))))
      (pss_cons (ps_if (PW.pt (pw_or (pt_cmpR op_lt (pv 2) (pe_callB (c_max2 rfl) rfl T.n_max (by decide +kernel) (pa_cons (pv 4) (pa_cons (pe_op op_add (pv 5) pe_int) pa_nil))) (nomark _)) (pw_or1 (pt_cmpR op_gt (pv 2) (pe_op op_sub (pe_op op_sub (pe_op op_mul pe_int (pv 4)) (pv 5)) pe_int) (nomark _))))) (pss_one (ps_ret (pe_cmpR op_isN1 (pv 3) pe_non (nomark _)))) pss_nil)
      (pss_cons (ps_if (PW.pt (pw_or (pt_not (pt_val (pe_callB (r := rIsi K) call_isi rfl T.n_isinstance (by decide +kernel) (pa_cons (pv 3) (pa_cons (pe_bltn (v := .ty "tuple") (u := .type "tuple") rfl T.n_tuple (by decide +kernel) rfl) pa_nil))))) (pw_or1 (pt_cmpR op_ne (pe_callB (r := Lay.rLen K) c_len rfl T.n_len PySem.boot_len (pa_cons (pv 3) pa_nil)) pe_int (nomark _))))) (pss_one (ps_ret pe_bl)) pss_nil)
      (pss_cons (ps_set (i := 6) sc__law_shown.nd rfl (Or.inl rfl) (pe_callB (c_max2 rfl) rfl T.n_max (by decide +kernel) (pa_cons pe_int (pa_cons (pe_op op_sub (pv 2) (pv 4)) pa_nil))))
      (pss_cons (ps_for (passes_of rfl) rfl (pi_tup (pv 3)) (pg_name (i := 7) sc__law_shown.nd rfl (Or.inl rfl)) (pss_one (ps_if (pt_not (pt_val (pe_d d__law_list_is (hr.mono (by decide)) (passes_call (takes_of rfl rfl rfl rfl) (fun _ _ _ _ h => h)) (pa_cons (pv 7) (pa_cons (pe_lst (pa_cons (pv 6) pa_nil)) pa_nil))))) (pss_one (ps_ret pe_bl)) pss_nil)))
      (pss_one (ps_ret (pe_and (pe_cmpR op_eq (pe_callB (r := Lay.rLen K) c_len rfl T.n_len PySem.boot_len (pa_cons (pe_d d__law_filled (hr.mono (by decide)) (passes_call (takes_of rfl rfl rfl rfl) (fun _ _ _ _ h => h)) (pa_cons (pe_lst (pa_cons (pv 6) (pa_cons (pv 4) (pa_cons (pv 6) pa_nil)))) (pa_cons (pv 2) pa_nil))) pa_nil)) pe_int (nomark _)) (pe_one (pe_cmpR op_eq (pe_callB (r := Lay.rLen K) c_len rfl T.n_len PySem.boot_len (pa_cons (pe_d d__law_filled (hr.mono (by decide)) (passes_call (takes_of rfl rfl rfl rfl) (fun _ _ _ _ h => h)) (pa_cons (pe_lst (pa_cons (pv 6) (pa_cons (pv 5) (pa_cons (pv 6) pa_nil)))) (pa_cons (pv 2) pa_nil))) pa_nil)) pe_int (nomark _))))))))))))), ?_⟩)
  · obtain ⟨a, b, m, rfl, _⟩ := h
    rfl
  · obtain ⟨a, b, m, rfl, a1, a2, b1, b2, m1, q⟩ := h
    have cond : (WN.inS a b m ∧ mx a b ≤ m) ↔ ¬ m < mx (mx a b) (mn a b + 4) ∧ ¬ 2 * mx a b - mn a b - 2 < m := by
      unfold WN.inS
      have : mx (mx a b) (mn a b + 4) = mx a b ∧ mn a b + 4 ≤ mx a b ∨ mx (mx a b) (mn a b + 4) = mn a b + 4 ∧ mx a b < mn a b + 4 := by
        generalize mn a b + 4 = y
        generalize mx a b = x
        unfold mx
        split
        · exact .inr ⟨rfl, by omega⟩
        · exact .inl ⟨rfl, by omega⟩
      generalize mx (mx a b) (mn a b + 4) = z at *
      generalize mn a b = y at *
      generalize mx a b = x at *
      omega
    walk_at "go0"
    refine ⟨a, b, m, rfl, ?_⟩
    rw [parted_none ⟨a1, a2⟩ ⟨b1, b2⟩ m1]
    refine ⟨fun hin t l r H2 e2 h2 hl hr => ?_, fun hin H2 e2 => ?_⟩
    · obtain ⟨c1, c2⟩ := cond.mp hin
      walk_at "go"
      refine r_no c1 ?_
      walk_at "go"
      refine r_no c2 ?_
      walk_at "go"
      refine r_lenT (SqT.of h2) ?_
      walk_at "go"
      refine r_noN rfl ?_
      walk_at "go"
      refine forT (xs := [.ref l, .ref r]) (SqT.of h2) (fun i σ' H' => (∃ v, σ' = [some (.int a), some (.int b), some (.int m), some (.ref t), some (.int (mx a b)), some (.int (mn a b)), some (.int (wordOf a b m)), v]) ∧ Ex H2 H') ⟨⟨_, rfl⟩, Ex.refl _⟩ ?_ ?_ ?_
      · rintro i σ' H' _ ⟨_, e⟩
        exact ex_t e (SqT.of h2)
      · rintro i x σ' H' hx ⟨⟨v, rfl⟩, e⟩
        obtain ⟨y, rfl, hy⟩ : ∃ y : Addr, x = .ref y ∧ H2 y = some (.lst ([wordOf a b m].map V.int)) := by
          match i, hx with
          | 0, hx => cases hx; exact ⟨_, rfl, hl⟩
          | 1, hx => cases hx; exact ⟨_, rfl, hr⟩
        walk_at "gn"
        refine ⟨_, _, [wordOf a b m], rfl, by walk_at "hp", by walk_at "sq", Nat.le_of_ble_eq_true rfl, ?_⟩
        walk_at "go"
        exact ⟨⟨_, rfl⟩, by walk_at "ex"⟩
      rintro σ' H3 ⟨⟨v, rfl⟩, e3⟩
      have hi := hin.1
      have w1 : 1 ≤ wordOf a b m ∧ (wordOf a b m = 1 ∨ wordOf a b m = m - mx a b) ∧ m - mx a b ≤ wordOf a b m := by
        unfold wordOf
        generalize m - mx a b = z
        unfold mx
        split <;> omega
      have n1 : 1 ≤ mn a b ∧ 1 ≤ mx a b := by unfold mn mx; split <;> split <;> omega
      unfold WN.inS at hi
      walk_at "gn"
      refine ⟨_, [wordOf a b m, mx a b, wordOf a b m], m, rfl, by walk_at "sq", Nat.le_of_ble_eq_true rfl, fun p4 H4 n4 e4 h4 => ?_⟩
      walk_at "gn"
      rw [WN.fs3 w1.1 n1.2 (by omega)]
      walk_at "gn"
      refine r_yes rfl ?_
      walk_at "gn"
      refine ⟨_, [wordOf a b m, mn a b, wordOf a b m], m, rfl, by walk_at "sq", Nat.le_of_ble_eq_true rfl, fun p5 H5 n5 e5 h5 => ?_⟩
      walk_at "gn"
      rw [WN.fs1 (by omega) w1.1 n1.1]
      exact q H5 (by walk_at "ex")
    · walk_at "go"
      by_cases c1 : m < mx (mx a b) (mn a b + 4)
      · refine r_yes c1 ?_
        walk_at "go"
        exact q H2 e2
      · refine r_no c1 ?_
        walk_at "go"
        have c2 : 2 * mx a b - mn a b - 2 < m := by
          by_cases c2 : 2 * mx a b - mn a b - 2 < m
          · exact c2
          · exact absurd (cond.mpr ⟨c1, c2⟩) hin
        refine r_yes c2 ?_
        walk_at "go"
        exact q H2 e2
end
end K07
namespace K07
open PySem PySem.Spec PyProof.Rows L2 Evl Lay
section
variable {P : Program} {w : World} {K : PySem.W.Frag} {mg : Str → Option Value} {base : Heap} {CB CT CW : Addr} {tWs tW tR : Tok}
variable {a_SIGNS_OF_FIGURE : Addr}
/-- program and law tell the same stretch -/
theorem same_opt {K : PySem.W.Frag} {H : Hp} {p q : Addr} {f l : Int} (h1 : H p = some (.tup [.int f, .int l])) (h2 : SqT K H q [.int f, .int l]) : Same2 K H (.ref p) (.ref q) := .inr ⟨p, q, [f, l], rfl, rfl, h1, h2, Nat.le_of_ble_eq_true rfl⟩
def spSearched (K : PySem.W.Frag) : Sp := fun vs H Q _ => ∃ (a : Addr) (ns : List Int) (c d : Int), vs = [.ref a, .int c, .int d] ∧ SqL K H a (ns.map V.int) ∧ Wok ns ∧ 1 ≤ c ∧ c ≤ ns.length ∧ 1 ≤ d ∧ d ≤ ns.length ∧ ∀ H2, Ex H H2 → Q (.bl true) H2
abbrev s__law_searched : Stmt := top 43
theorem sc__law_searched : FnScope ["widths", "P", "Q", "told", "top", "width", "inside"] ["widths", "P", "Q"] (defScope s__law_searched) := ⟨rfl, rfl, rfl, by decide +kernel, rfl, by decide +kernel, by decide +kernel⟩
theorem ok_searched (T : Txt K mg CB tWs tW tR a_SIGNS_OF_FIGURE) (F : At K mg "_law_searched" s__law_searched ["widths", "P", "Q"]) (d__law_tuple_is : Def P w K mg base "_law_tuple_is" 3 ["told", "due"] (spTupleIs K)) (d__law_stretch : Def P w K mg base "_law_stretch" 1 ["widths", "P", "Q"] (spLStretch K))
    (d_parting_widths : Def P w K mg base "parting_widths" 6 ["widths", "P", "Q"] (spPart K CT CW)) (d__law_parts : Def P w K mg base "_law_parts" 2 ["one", "other", "width"] spParts) : Def P w K mg base "_law_searched" 7 ["widths", "P", "Q"] (spSearched K) := by
  refine Def.mk' F sc__law_searched (fun vs H Q E h => ?_) (fun f cdv Ar outer s H vs Q E hr h => ⟨_, (pss_cons (ps_set (i := 3) sc__law_searched.nd rfl (Or.inl rfl) (pe_d d_parting_widths (hr.mono (by decide)) (passes_call (takes_of rfl rfl rfl rfl) (fun _ _ _ _ h => h)) (pa_cons (pv 0) (pa_cons (pv 1) (pa_cons (pv 2) pa_nil)))))
      (pss_cons (ps_if (pt_not (pt_val (pe_d d__law_tuple_is (hr.mono (by decide)) (passes_call (takes_of rfl rfl rfl rfl) (fun _ _ _ _ h => h)) (pa_cons (pv 3) (pa_cons (pe_d d__law_stretch (hr.mono (by decide)) (passes_call (takes_of rfl rfl rfl rfl) (fun _ _ _ _ h => h)) (pa_cons (pv 0) (pa_cons (pv 1) (pa_cons (pv 2) pa_nil)))) pa_nil))))) (pss_one (ps_ret pe_bl)) pss_nil)
      (pss_cons (ps_set (i := 4) sc__law_searched.nd rfl (Or.inl rfl) (pe_callB (r := rMax K) (cr_max rfl) rfl T.n_max (by decide +kernel) (pa_cons (pe_slice (r := rSlL K) sl_list (pv 0) po_none (po_some (pe_callB (c_max2 rfl) rfl T.n_max (by decide +kernel) (pa_cons (pv 1) (pa_cons (pv 2) pa_nil))))) pa_nil)))
      (pss_cons (ps_for (passes_of rfl) rfl (pi_range2 rfl T.n_range (pa_cons (pv 4) (pa_cons pe_int pa_nil))) (pg_name (i := 5) sc__law_searched.nd rfl (Or.inl rfl)) (pss_cons (ps_set (i := 6) sc__law_searched.nd rfl (Or.inl rfl) (pe_and (pe_cmpR op_notN1 (pv 3) pe_non (nomark _)) (pe_one (pe_chain op_le op_le (pe_ix (r := rIxT K) ix_tup (pv 3) pe_int (fun _ _ => rfl)) (pv 5) (pe_ix (r := rIxT K) ix_tup (pv 3) pe_int (fun _ _ => rfl))))))
      (pss_one (ps_if (pt_cmpR op_ne (pe_d d__law_parts (hr.mono (by decide)) (passes_call (takes_of rfl rfl rfl rfl) (fun _ _ _ _ h => h)) (pa_cons (pe_ix (r := rIxL K) ix_list (pv 0) (pe_op op_sub (pv 1) pe_int) (fun _ _ => rfl)) (pa_cons (pe_ix (r := rIxL K) ix_list (pv 0) (pe_op op_sub (pv 2) pe_int) (fun _ _ => rfl)) (pa_cons (pv 5) pa_nil)))) (pv 6) (nomark _)) (pss_one (ps_ret pe_bl)) pss_nil))))
      (pss_one (ps_ret (pe_or (pe_cmpR op_isN1 (pv 3) pe_non (nomark _)) (pe_one (pe_cmpR op_ge (pe_ix (r := rIxT K) ix_tup (pv 3) pe_int (fun _ _ => rfl)) (pv 4) (nomark _)))))))))), ?_⟩)
  · obtain ⟨a, ns, c, d, rfl, _⟩ := h
    rfl
  · obtain ⟨a, ns, c, d, rfl, ha, hw, c1, c2, d1, d2, q⟩ := h
    have lm : 1 ≤ mx c d ∧ mx c d ≤ ns.length := by unfold mx; split <;> omega
    have em : (if d > c then d else c) = (((mx c d).toNat : Nat) : Int) := by
      show mx c d = _
      omega
    have hl := hw.1
    obtain ⟨t1, t2⟩ := top_ge c1 c2 d1 d2
    have g1 := hw.2 _ (gi_mem (ns := ns) (i := c - 1) (by omega) (by omega))
    have g2 := hw.2 _ (gi_mem (ns := ns) (i := d - 1) (by omega) (by omega))
    have g3 := hw.2 _ (top_mem c1 c2 d2)
    have tm : mx (gi ns (c - 1)) (gi ns (d - 1)) ≤ topOf ns c d := by unfold mx; split <;> omega
    have key := fun m => WN.stE_in (a := gi ns (c - 1)) (b := gi ns (d - 1)) (w := m) (top := topOf ns c d)
    walk_at "go0"
    refine ⟨a, ns, c, d, rfl, ha, ?_⟩
    rw [part_none hw c1 c2 d1 d2]
    show OptT (WN.stE (gi ns (c - 1)) (gi ns (d - 1)) (topOf ns c d)) H _
    cases hs : WN.stE (gi ns (c - 1)) (gi ns (d - 1)) (topOf ns c d) with
    | none =>
      intro H1 e1
      walk_at "go"
      refine ⟨a, ns, c, d, rfl, by walk_at "sq", by omega, c1, c2, d1, d2, ?_⟩
      rw [hs]
      intro H2 e2
      walk_at "go"
      refine ⟨_, _, rfl, .inl ⟨rfl, rfl⟩, fun H3 e3 => ?_⟩
      walk_at "go"
      refine r_slE (ns := ns) (e := (mx c d).toNat) (by walk_at "sq") em (by omega) fun p4 H4 n4 e4 h4 => ?_
      walk_at "go"
      refine r_maxI (ns := ns.take (mx c d).toNat) (by walk_at "sq") (by rw [List.length_take]; omega) ?_
      walk_at "go"
      change 1 ≤ mxl (ns.take (mx c d).toNat) ∧ mxl (ns.take (mx c d).toNat) ≤ 400 at g3
      refine forR2 (by omega) (by omega) (fun k σ' H' => (∃ v1 v2, σ' = [some (.ref a), some (.int c), some (.int d), some .non, some (.int (topOf ns c d)), v1, v2]) ∧ Ex H4 H') ⟨⟨_, _, rfl⟩, Ex.refl _⟩ ?_ ?_
      · rintro k σ' H' hk ⟨⟨v1, v2, rfl⟩, e⟩
        change topOf ns c d + (k : Int) < 15 at hk
        walk_at "go"
        refine r_noN rfl ?_
        walk_at "go"
        refine ⟨_, _, topOf ns c d + (k : Int), rfl, by omega, by omega, by omega, by omega, ?_⟩
        have no : ¬ WN.inS (gi ns (c - 1)) (gi ns (d - 1)) (topOf ns c d + (k : Int)) := fun z => by
          obtain ⟨f, l, h, _⟩ := (key (topOf ns c d + (k : Int)) (by omega)).mpr z
          rw [hs] at h
          cases h
        rw [decide_eq_false no]
        walk_at "go"
        exact ⟨⟨_, _, rfl⟩, e⟩
      · rintro σ' H' ⟨⟨v1, v2, rfl⟩, e⟩
        walk_at "go"
        refine r_yes rfl ?_
        exact q H' (by walk_at "ex")
    | some x =>
      obtain ⟨f, l⟩ := x
      have ht := WN.stE_top hs
      intro p1 H1 n1 e1 h1
      walk_at "go"
      refine ⟨a, ns, c, d, rfl, by walk_at "sq", by omega, c1, c2, d1, d2, ?_⟩
      rw [hs]
      intro p2 H2 n2 e2 h2
      walk_at "go"
      refine ⟨_, _, rfl, same_opt (f := f) (l := l) (by walk_at "hp") (by walk_at "st"), fun H3 e3 => ?_⟩
      walk_at "go"
      refine r_slE (ns := ns) (e := (mx c d).toNat) (by walk_at "sq") em (by omega) fun p4 H4 n4 e4 h4 => ?_
      walk_at "go"
      refine r_maxI (ns := ns.take (mx c d).toNat) (by walk_at "sq") (by rw [List.length_take]; omega) ?_
      walk_at "go"
      change 1 ≤ mxl (ns.take (mx c d).toNat) ∧ mxl (ns.take (mx c d).toNat) ≤ 400 at g3
      refine forR2 (by omega) (by omega) (fun k σ' H' => (∃ v1 v2, σ' = [some (.ref a), some (.int c), some (.int d), some (.ref p1), some (.int (topOf ns c d)), v1, v2]) ∧ Ex H4 H') ⟨⟨_, _, rfl⟩, Ex.refl _⟩ ?_ ?_
      · rintro k σ' H' hk ⟨⟨v1, v2, rfl⟩, e⟩
        change topOf ns c d + (k : Int) < 15 at hk
        have kk := key (topOf ns c d + (k : Int)) (by omega)
        have iff : (f ≤ topOf ns c d + (k : Int) ∧ topOf ns c d + (k : Int) ≤ l) ↔ WN.inS (gi ns (c - 1)) (gi ns (d - 1)) (topOf ns c d + (k : Int)) := by
          rw [← kk]
          constructor
          · rintro ⟨k1, k2⟩
            exact ⟨f, l, hs, k1, k2⟩
          · rintro ⟨f', l', h, k1, k2⟩
            rw [hs] at h
            cases h
            exact ⟨k1, k2⟩
        walk_at "go"
        refine r_yesN (fun z => by cases z) ?_
        walk_at "go"
        refine r_ite (fun k1 => ?_) (fun k1 => ?_)
        · walk_at "go"
          refine ⟨_, _, topOf ns c d + (k : Int), rfl, by omega, by omega, by omega, by omega, ?_⟩
          walk_at "go"
          have eqv : decide (WN.inS (gi ns (c - 1)) (gi ns (d - 1)) (topOf ns c d + (k : Int))) = decide (topOf ns c d + (k : Int) ≤ l) := by
            rw [decide_eq_decide, ← iff]
            exact ⟨fun z => z.2, fun z => ⟨k1, z⟩⟩
          refine r_noN eqv ?_
          walk_at "go"
          exact ⟨⟨_, _, rfl⟩, e⟩
        · walk_at "go"
          refine ⟨_, _, topOf ns c d + (k : Int), rfl, by omega, by omega, by omega, by omega, ?_⟩
          rw [decide_eq_false (fun z => k1 (iff.mpr z).1)]
          walk_at "go"
          exact ⟨⟨_, _, rfl⟩, e⟩
      · rintro σ' H' ⟨⟨v1, v2, rfl⟩, e⟩
        walk_at "go"
        refine r_no (fun z => by cases z) ?_
        walk_at "go"
        have hd : decide (topOf ns c d ≤ f) = true := decide_eq_true ht
        rw [hd]
        exact q H' (by walk_at "ex")
def spCouples (K : PySem.W.Frag) : Sp := fun vs H Q _ => ∃ (a : Addr) (ns : List Int), vs = [.ref a] ∧ SqL K H a (ns.map V.int) ∧ Wok ns ∧ ∀ H2, Ex H H2 → Q (.bl true) H2
abbrev s__law_couples : Stmt := top 45
theorem sc__law_couples : FnScope ["widths", "given", "P", "Q"] ["widths"] (defScope s__law_couples) := ⟨rfl, rfl, rfl, by decide +kernel, rfl, by decide +kernel, by decide +kernel⟩
theorem ok_couples (T : Txt K mg CB tWs tW tR a_SIGNS_OF_FIGURE) (F : At K mg "_law_couples" s__law_couples ["widths"]) (d__law_tuple_is : Def P w K mg base "_law_tuple_is" 3 ["told", "due"] (spTupleIs K)) (d__law_stretch : Def P w K mg base "_law_stretch" 1 ["widths", "P", "Q"] (spLStretch K))
    (d_parting_widths : Def P w K mg base "parting_widths" 6 ["widths", "P", "Q"] (spPart K CT CW)) : Def P w K mg base "_law_couples" 7 ["widths"] (spCouples K) := by
  refine Def.mk' F sc__law_couples (fun vs H Q E h => ?_) (fun f cdv Ar outer s H vs Q E hr h => ⟨_, (pss_cons (ps_set (i := 1) sc__law_couples.nd rfl (Or.inl rfl) (pe_callTy (r := Lay.rList K) c_list rfl T.n_list (by decide +kernel) (pa_cons (pv 0) pa_nil)))
      (pss_cons (ps_for (passes_of rfl) rfl (pi_range2 rfl T.n_range (pa_cons pe_int (pa_cons (pe_op op_add (pe_callB (r := Lay.rLen K) c_len rfl T.n_len PySem.boot_len (pa_cons (pv 0) pa_nil)) pe_int) pa_nil))) (pg_name (i := 2) sc__law_couples.nd rfl (Or.inl rfl)) (pss_one (ps_for (passes_of rfl) rfl (pi_range2 rfl T.n_range (pa_cons pe_int (pa_cons (pe_op op_add (pe_callB (r := Lay.rLen K) c_len rfl T.n_len PySem.boot_len (pa_cons (pv 0) pa_nil)) pe_int) pa_nil))) (pg_name (i := 3) sc__law_couples.nd rfl (Or.inl rfl)) (pss_one (ps_if (pt_not (pt_val (pe_d d__law_tuple_is (hr.mono (by decide)) (passes_call (takes_of rfl rfl rfl rfl) (fun _ _ _ _ h => h)) (pa_cons (pe_d d_parting_widths (hr.mono (by decide)) (passes_call (takes_of rfl rfl rfl rfl) (fun _ _ _ _ h => h)) (pa_cons (pv 1) (pa_cons (pv 2) (pa_cons (pv 3) pa_nil)))) (pa_cons (pe_d d__law_stretch (hr.mono (by decide)) (passes_call (takes_of rfl rfl rfl rfl) (fun _ _ _ _ h => h)) (pa_cons (pv 0) (pa_cons (pv 2) (pa_cons (pv 3) pa_nil)))) pa_nil))))) (pss_one (ps_ret pe_bl)) pss_nil)))))
      (pss_one (ps_ret (pe_cmpR (r := rEqD K) (op_eqD hr.units) (pv 1) (pv 0) (nomark _)))))), ?_⟩)
  · obtain ⟨a, ns, rfl, _⟩ := h
    rfl
  · obtain ⟨a, ns, rfl, ha, hw, q⟩ := h
    have hl := hw.1
    walk_at "go0"
    refine r_listI (ns := ns) ha fun g H1 n1 e1 h1 => ?_
    walk_at "go"
    refine forR2 (by omega) (by omega) (fun k σ' H' => (∃ v1 v2, σ' = [some (.ref a), some (.ref g), v1, v2]) ∧ Ex H1 H') ⟨⟨_, _, rfl⟩, Ex.refl _⟩ ?_ ?_
    · rintro k σ' H' hk ⟨⟨v1, v2, rfl⟩, e⟩
      walk_at "go"
      refine forR2 (by omega) (by omega) (fun j σ' H' => (∃ v2, σ' = [some (.ref a), some (.ref g), some (.int (1 + (k : Int))), v2]) ∧ Ex H1 H') ⟨⟨_, rfl⟩, e⟩ ?_ ?_
      · rintro j σ' H' hj ⟨⟨v2, rfl⟩, e⟩
        walk_at "go"
        refine ⟨g, ns, _, _, rfl, by walk_at "sq", ?_⟩
        rw [part_none hw (by omega) (by omega) (by omega) (by omega)]
        show OptT (WN.stE _ _ _) _ _
        cases hs : WN.stE (gi ns (1 + (k : Int) - 1)) (gi ns (1 + (j : Int) - 1)) (topOf ns (1 + (k : Int)) (1 + (j : Int))) with
        | none =>
          intro H2 e2
          walk_at "go"
          refine ⟨a, ns, _, _, rfl, by walk_at "sq", by omega, by omega, by omega, by omega, by omega, ?_⟩
          rw [hs]
          intro H3 e3
          walk_at "go"
          refine ⟨_, _, rfl, .inl ⟨rfl, rfl⟩, fun H4 e4 => ?_⟩
          walk_at "go"
          exact ⟨⟨_, rfl⟩, by walk_at "ex"⟩
        | some x =>
          obtain ⟨f, l⟩ := x
          intro p2 H2 n2 e2 h2
          walk_at "go"
          refine ⟨a, ns, _, _, rfl, by walk_at "sq", by omega, by omega, by omega, by omega, by omega, ?_⟩
          rw [hs]
          intro p3 H3 n3 e3 h3
          walk_at "go"
          refine ⟨_, _, rfl, same_opt (f := f) (l := l) (by walk_at "hp") (by walk_at "st"), fun H4 e4 => ?_⟩
          walk_at "go"
          exact ⟨⟨_, rfl⟩, by walk_at "ex"⟩
      · rintro σ' H' ⟨⟨v2, rfl⟩, e⟩
        exact ⟨⟨_, _, rfl⟩, e⟩
    · rintro σ' H' ⟨⟨v1, v2, rfl⟩, e⟩
      walk_at "go"
      refine r_eqT (ns := ns) (by walk_at "sq") (by walk_at "sq") ?_
      exact q H' (by walk_at "ex")
end
end K07
namespace K07
open PySem PySem.Spec PyProof.Rows L2 Evl Lay
section
variable {P : Program} {w : World} {K : PySem.W.Frag} {mg : Str → Option Value} {base : Heap} {CB CT CW : Addr} {tWs tW tR : Tok}
variable {a_SIGNS_OF_FIGURE : Addr}
theorem bw_width {ns : List Int} {z : Int} (hl : ns.length ≤ 4000) (hz : z ∈ ns) (h : 400 < z) : ckBW ns = some (.many "width") := by
  unfold ckBW ckMost
  rw [if_neg (by omega), orN rfl]
  unfold ckNums
  rw [if_pos (List.any_eq_true.mpr ⟨z, hz, decide_eq_true h⟩)]
theorem part_cell {ns : List Int} {c d : Int} (hl : ns.length ≤ 4000) (h : ∀ z ∈ ns, z ≤ 400) (hb : badC c ns.length ∨ badC d ns.length) : ckPart ns c d = some (.words (-1)) := by
  unfold ckPart
  rw [orN (bw_none hl h), if_pos hb]
  rfl
theorem ws_bad {ns : List Int} {i : Nat} {z : Int} (hz : ns[i]? = some z) (h : z < 1) (hn : ∀ (j : Nat) (y : Int), j < i → ns[j]? = some y → 1 ≤ y) : ckWs ns = some (.words i) := by
  obtain ⟨hi, e⟩ := List.getElem?_eq_some_iff.mp hz
  unfold ckWs
  rw [List.findIdx?_eq_some_iff_getElem.mpr ⟨hi, by rw [e]; exact decide_eq_true h, fun j hj => by
    have := hn j ns[j] hj (List.getElem?_eq_getElem (by omega))
    rw [decide_eq_false (by omega)]
    exact Bool.false_ne_true⟩]
  rfl
theorem part_ws {ns : List Int} {c d : Int} {e : Er} (hl : ns.length ≤ 4000) (h : ∀ z ∈ ns, z ≤ 400) (hb : ¬ (badC c ns.length ∨ badC d ns.length)) (hw : ckWs ns = some e) : ckPart ns c d = some e := by
  unfold ckPart
  rw [orN (bw_none hl h), if_neg hb, orN rfl, hw]
theorem parted_ws {a b m : Int} {e : Er} (ha : a ≤ 400) (hb : b ≤ 400) (hm : 1 ≤ m) (hw : ckWs [a, b] = some e) : ckParted a b m = some e := by
  unfold ckParted
  rw [orN (nums_none fun z hz => by simp only [List.mem_cons, List.not_mem_nil, or_false] at hz; omega)]
  unfold ckLine
  rw [if_neg (by omega), orN rfl, hw]
theorem parted_line {a b m : Int} (ha : a ≤ 400) (hb : b ≤ 400) (hm : m < 1) : ckParted a b m = some (.words (-1)) := by
  unfold ckParted
  rw [orN (nums_none fun z hz => by simp only [List.mem_cons, List.not_mem_nil, or_false] at hz; omega)]
  unfold ckLine
  rw [if_pos (by omega)]
  rfl
theorem parted_many {a b m : Int} (hb : 400 < b) : ckParted a b m = some (.many "width") := by
  unfold ckParted ckNums
  rw [if_pos (List.any_eq_true.mpr ⟨b, by simp, decide_eq_true hb⟩)]
  rfl
def spWrong (K : PySem.W.Frag) : Sp := fun vs H Q _ => ∃ (p a : Addr) (ns : List Int), vs = [.ref p, .ref a] ∧ Pur H p ∧ H a = some (.lst (ns.map V.int)) ∧ a ≠ p ∧ 2 ≤ ns.length ∧ ns.length ≤ 6 ∧ AllIn ns 1 7 ∧ ∀ H2, ExB p H H2 → Pur H2 p → Q (.bl true) H2
abbrev s__law_wrong : Stmt := top 46
theorem sc__law_wrong : FnScope ["purse", "widths", "many", "cell", "place", "spoilt", "low", "beyond"] ["purse", "widths"] (defScope s__law_wrong) := ⟨rfl, rfl, rfl, by decide +kernel, rfl, by decide +kernel, by decide +kernel⟩
theorem ok_wrong (T : Txt K mg CB tWs tW tR a_SIGNS_OF_FIGURE) (F : At K mg "_law_wrong" s__law_wrong ["purse", "widths"]) (d__law_draw : Def P w K mg base "_law_draw" 1 ["purse", "many"] spDraw) (d__law_refusal : Def P w K mg base "_law_refusal" 7 ["kind", "told", "P", "Q"] (spRefusal K)) :
    Def P w K mg base "_law_wrong" 8 ["purse", "widths"] (spWrong K) := by
  refine Def.mk' F sc__law_wrong (fun vs H Q E h => ?_) (fun f cdv Ar outer s H vs Q E hr h => ⟨_, (pss_cons (ps_set (i := 2) sc__law_wrong.nd rfl (Or.inl rfl) (pe_callB (r := Lay.rLen K) c_len rfl T.n_len PySem.boot_len (pa_cons (pv 1) pa_nil)))
      (pss_cons (ps_for (passes_of rfl) rfl (pi_list (pe_lst (pa_cons pe_int (pa_cons (pe_op op_add (pv 2) pe_int) (pa_cons (pe_op op_sub (pe_un un_neg pe_int) (pe_d d__law_draw (hr.mono (by decide)) (passes_call (takes_of rfl rfl rfl rfl) (fun _ _ _ _ h => h)) (pa_cons (pv 0) (pa_cons pe_int pa_nil)))) (pa_cons (pe_op op_add (pe_op op_add (pv 2) pe_int) (pe_d d__law_draw (hr.mono (by decide)) (passes_call (takes_of rfl rfl rfl rfl) (fun _ _ _ _ h => h)) (pa_cons (pv 0) (pa_cons pe_int pa_nil)))) pa_nil)))))) (pg_name (i := 3) sc__law_wrong.nd rfl (Or.inl rfl)) (pss_cons (ps_if (pt_cmpR (r := rNeD K) (op_neD hr.units) (pe_d d__law_refusal (hr.mono (by decide)) (passes_call (takes_of rfl rfl rfl rfl) (fun _ _ _ _ h => h)) (pa_cons pe_int (pa_cons (pe_op op_cat (pe_lst (pa_cons pe_int pa_nil)) (pe_slice (r := rSlL K) sl_list (pv 1) (po_some pe_int) po_none)) (pa_cons (pv 3) (pa_cons pe_int pa_nil))))) (pe_tup (pa_cons pe_str (pa_cons (pe_un un_neg pe_int) pa_nil))) (nomark _)) (pss_one (ps_ret pe_bl)) pss_nil)
      (pss_one (ps_if (pt_cmpR (r := rNeD K) (op_neD hr.units) (pe_d d__law_refusal (hr.mono (by decide)) (passes_call (takes_of rfl rfl rfl rfl) (fun _ _ _ _ h => h)) (pa_cons pe_int (pa_cons (pv 1) (pa_cons pe_int (pa_cons (pv 3) pa_nil))))) (pe_tup (pa_cons pe_str (pa_cons (pe_un un_neg pe_int) pa_nil))) (nomark _)) (pss_one (ps_ret pe_bl)) pss_nil))))
      (pss_cons (ps_set (i := 4) sc__law_wrong.nd rfl (Or.inl rfl) (pe_d d__law_draw (hr.mono (by decide)) (passes_call (takes_of rfl rfl rfl rfl) (fun _ _ _ _ h => h)) (pa_cons (pv 0) (pa_cons (pv 2) pa_nil))))
      (pss_cons (ps_set (i := 5) sc__law_wrong.nd rfl (Or.inl rfl) (pe_callTy (r := Lay.rList K) c_list rfl T.n_list (by decide +kernel) (pa_cons (pv 1) pa_nil)))
      (pss_cons (ps_asg (pe_op op_sub pe_int (pe_d d__law_draw (hr.mono (by decide)) (passes_call (takes_of rfl rfl rfl rfl) (fun _ _ _ _ h => h)) (pa_cons (pv 0) (pa_cons pe_int pa_nil)))) (pg_sub (pv 5) (pv 4) set_list))
      (pss_cons (ps_if (pt_cmpR (r := rNeD K) (op_neD hr.units) (pe_d d__law_refusal (hr.mono (by decide)) (passes_call (takes_of rfl rfl rfl rfl) (fun _ _ _ _ h => h)) (pa_cons pe_int (pa_cons (pe_op op_cat (pv 5) (pe_lst (pa_cons pe_int pa_nil))) (pa_cons pe_int (pa_cons (pv 2) pa_nil))))) (pe_tup (pa_cons pe_str (pa_cons (pv 4) pa_nil))) (nomark _)) (pss_one (ps_ret pe_bl)) pss_nil)
      (pss_cons (ps_for (passes_of rfl) rfl (pi_list (pe_lst (pa_cons pe_int (pa_cons (pe_op op_sub (pe_un un_neg pe_int) (pe_d d__law_draw (hr.mono (by decide)) (passes_call (takes_of rfl rfl rfl rfl) (fun _ _ _ _ h => h)) (pa_cons (pv 0) (pa_cons pe_int pa_nil)))) pa_nil)))) (pg_name (i := 6) sc__law_wrong.nd rfl (Or.inl rfl)) (pss_cons (ps_if (PW.pt (pw_or (pt_cmpR (r := rNeD K) (op_neD hr.units) (pe_d d__law_refusal (hr.mono (by decide)) (passes_call (takes_of rfl rfl rfl rfl) (fun _ _ _ _ h => h)) (pa_cons pe_int (pa_cons (pe_lst (pa_cons (pe_ix (r := rIxL K) ix_list (pv 1) pe_int (fun _ _ => rfl)) (pa_cons (pv 6) pa_nil))) (pa_cons pe_int (pa_cons pe_int pa_nil))))) (pe_tup (pa_cons pe_str (pa_cons pe_int pa_nil))) (nomark _)) (pw_or1 (pt_cmpR (r := rNeD K) (op_neD hr.units) (pe_d d__law_refusal (hr.mono (by decide)) (passes_call (takes_of rfl rfl rfl rfl) (fun _ _ _ _ h => h)) (pa_cons pe_int (pa_cons (pe_lst (pa_cons (pv 6) (pa_cons pe_int pa_nil))) (pa_cons pe_int (pa_cons pe_int pa_nil))))) (pe_tup (pa_cons pe_str (pa_cons pe_int pa_nil))) (nomark _))))) (pss_one (ps_ret pe_bl)) pss_nil)
      (pss_one (ps_if (pt_cmpR (r := rNeD K) (op_neD hr.units) (pe_d d__law_refusal (hr.mono (by decide)) (passes_call (takes_of rfl rfl rfl rfl) (fun _ _ _ _ h => h)) (pa_cons pe_int (pa_cons (pe_lst (pa_cons (pv 6) (pa_cons pe_int pa_nil))) (pa_cons (pv 6) (pa_cons pe_int pa_nil))))) (pe_tup (pa_cons pe_str (pa_cons (pe_un un_neg pe_int) pa_nil))) (nomark _)) (pss_one (ps_ret pe_bl)) pss_nil))))
      (pss_cons (ps_set (i := 7) sc__law_wrong.nd rfl (Or.inl rfl) (pe_op op_add pe_int (pe_d d__law_draw (hr.mono (by decide)) (passes_call (takes_of rfl rfl rfl rfl) (fun _ _ _ _ h => h)) (pa_cons (pv 0) (pa_cons (pe_op op_pow pe_int pe_int) pa_nil)))))
      (pss_cons (ps_if (pt_cmpR (r := rNeD K) (op_neD hr.units) (pe_d d__law_refusal (hr.mono (by decide)) (passes_call (takes_of rfl rfl rfl rfl) (fun _ _ _ _ h => h)) (pa_cons pe_int (pa_cons (pe_op op_cat (pv 1) (pe_lst (pa_cons (pv 7) pa_nil))) (pa_cons pe_int (pa_cons pe_int pa_nil))))) (pe_tup (pa_cons pe_str (pa_cons pe_str pa_nil))) (nomark _)) (pss_one (ps_ret pe_bl)) pss_nil)
      (pss_one (ps_ret (pe_cmpR (r := rEqD K) (op_eqD hr.units) (pe_d d__law_refusal (hr.mono (by decide)) (passes_call (takes_of rfl rfl rfl rfl) (fun _ _ _ _ h => h)) (pa_cons pe_int (pa_cons (pe_lst (pa_cons pe_int (pa_cons (pv 7) pa_nil))) (pa_cons pe_int (pa_cons pe_int pa_nil))))) (pe_tup (pa_cons pe_str (pa_cons pe_str pa_nil))) (nomark _))))))))))))), ?_⟩)
  · obtain ⟨p, a, ns, rfl, _⟩ := h
    rfl
  · obtain ⟨p, a, ns, rfl, hp, ha, nap, l2, l6, hin, q⟩ := h
    have okw : PyData.strOk "width" = true := by decide +kernel
    have h4 : ∀ z ∈ ns, z ≤ 400 := fun z hz => by have := hin z hz; omega
    walk_at "go0"
    refine ⟨p, 99, rfl, by decide, by decide, hp, fun x H1 x0 x1 e1 hp1 => ?_⟩
    walk_at "go"
    refine ⟨p, 99, rfl, by decide, by decide, hp1, fun y H2 y0 y1 e2 hp2 => ?_⟩
    walk_at "go"
    refine r_newI4 fun l H3 n3 e3 h3 => ?_
    have ha3 : H3 a = some (.lst (ns.map V.int)) := by walk_at "hp"
    walk_at "go"
    refine forI (ns := [0, (ns.length : Int) + 1, -1 - x, (ns.length : Int) + 2 + y]) (by walk_at "sq") (fun i σ' H' => (∃ v1 v2 v3 v4 v5, σ' = [some (.ref p), some (.ref a), some (.int ns.length), v1, v2, v3, v4, v5]) ∧ Ex H3 H') ⟨⟨_, _, _, _, _, rfl⟩, Ex.refl _⟩ ?_ ?_ ?_
    · rintro i σ' H' _ ⟨_, e⟩
      walk_at "sq"
    · rintro i c σ' H' hz ⟨⟨v1, v2, v3, v4, v5, rfl⟩, e⟩
      have hc : badC c ns.length := by
        have := List.mem_of_getElem? hz
        simp only [List.mem_cons, List.not_mem_nil, or_false] at this
        unfold badC
        omega
      walk_at "gn"
      refine r_slB (ns := ns) (b := 1) (by walk_at "sq") rfl (by omega) fun p4 H4 n4 e4 h4' => ?_
      walk_at "gn"
      have lz : ([0] ++ ns.drop 1).length = ns.length := by rw [List.length_append, List.length_drop]; show 1 + _ = _; omega
      refine ⟨2, _, [0] ++ ns.drop 1, c, 1, rfl, by walk_at "sq", by decide, by decide, fun z => by omega, ?_⟩
      rw [show rk 2 ([0] ++ ns.drop 1) c 1 = some (.words (-1)) from part_cell (by omega) (fun z hz => by
        rcases List.mem_append.mp hz with q | q
        · rw [List.mem_singleton.mp q]; decide
        · exact h4 z (List.mem_of_mem_drop q)) (by rw [lz]; exact .inl hc)]
      intro t H5 e5 h5
      walk_at "gn"
      refine r_neEr (.words (-1)) (by walk_at "st") (by walk_at "st") trivial ?_
      walk_at "gn"
      refine ⟨2, _, ns, 1, c, rfl, by walk_at "sq", by decide, by decide, fun z => by omega, ?_⟩
      rw [show rk 2 ns 1 c = some (.words (-1)) from part_cell (by omega) h4 (.inr hc)]
      intro t H6 e6 h6
      walk_at "gn"
      refine r_neEr (.words (-1)) (by walk_at "st") (by walk_at "st") trivial ?_
      walk_at "gn"
      exact ⟨⟨_, _, _, _, _, rfl⟩, by walk_at "ex"⟩
    rintro σ' H4 ⟨⟨v1, v2, v3, v4, v5, rfl⟩, e4⟩
    walk_at "go"
    refine ⟨p, ns.length, rfl, by omega, by omega, by walk_at "pu", fun pl H5 pl0 pl1 e5 hp5 => ?_⟩
    walk_at "go"
    refine r_listI (ns := ns) (by walk_at "sq") fun sp H6 n6 e6 h6 => ?_
    walk_at "go"
    refine ⟨p, 9, rfl, by decide, by decide, by walk_at "pu", fun g H7 g0 g1 e7 hp7 => ?_⟩
    walk_at "go"
    have nsp : sp ≠ p := by walk_at "ne"
    have nspa : sp ≠ a := by walk_at "ne"
    refine r_setI (ns := ns) (by walk_at "hp") pl0 pl1 fun H8 e8 h8 _ => ?_
    have hp8 : Pur H8 p := by walk_at "pu"
    have ha8 : H8 a = some (.lst (ns.map V.int)) := by walk_at "hp"
    have ep8 : ExB p H H8 := by walk_at "ex"
    clear e7 e8
    walk_at "gn"
    have hws : ckWs (ns.set pl.toNat (0 - g) ++ [0]) = some (.words pl) := by
      have := ws_bad (ns := ns.set pl.toNat (0 - g) ++ [0]) (i := pl.toNat) (z := 0 - g) (by rw [List.getElem?_append_left (by rw [List.length_set]; omega), List.getElem?_set_self (by omega)]) (by omega) fun j y hj hy => by
        rw [List.getElem?_append_left (by rw [List.length_set]; omega), List.getElem?_set_ne (by omega)] at hy
        exact (hin y (List.mem_of_getElem? hy)).1
      rw [this, show ((pl.toNat : Nat) : Int) = pl by omega]
    refine ⟨2, _, ns.set pl.toNat (0 - g) ++ [0], 1, ns.length, rfl, by walk_at "sq", by decide, by decide, fun z => by omega, ?_⟩
    rw [show rk 2 (ns.set pl.toNat (0 - g) ++ [0]) 1 ns.length = some (.words pl) from part_ws (by rw [List.length_append, List.length_set]; show _ + 1 ≤ _; omega) (fun z hz => by
        rcases List.mem_append.mp hz with q | q
        · rcases List.mem_or_eq_of_mem_set q with q | q
          · exact h4 z q
          · omega
        · rw [List.mem_singleton.mp q]; decide) (by rw [List.length_append, List.length_set]; unfold badC; show ¬ _; simp only [List.length_cons, List.length_nil]; omega) hws]
    intro t H9 e9 h9
    walk_at "gn"
    refine r_neEr (.words pl) (by walk_at "st") (by walk_at "st") trivial ?_
    walk_at "gn"
    refine ⟨p, 99, rfl, by decide, by decide, by walk_at "pu", fun u H10 u0 u1 e10 hp10 => ?_⟩
    have ha10 : H10 a = some (.lst (ns.map V.int)) := by walk_at "hp"
    walk_at "go"
    refine r_newI2 fun l2 H11 n11 e11 h11 => ?_
    have g0b := hin _ (gi_mem (ns := ns) (i := 0) (by decide) (by omega))
    walk_at "go"
    refine forI (ns := [0, -1 - u]) (by walk_at "sq") (fun i σ' H' => (∃ v1 v5 v6, σ' = [some (.ref p), some (.ref a), some (.int ns.length), v1, some (.int pl), some (.ref sp), v5, v6]) ∧ Ex H11 H') ⟨⟨_, _, _, rfl⟩, Ex.refl _⟩ ?_ ?_ ?_
    · rintro i σ' H' _ ⟨_, e⟩
      walk_at "sq"
    · rintro i low σ' H' hz ⟨⟨v1, v5, v6, rfl⟩, e⟩
      have hlow : low < 1 := by
        have := List.mem_of_getElem? hz
        simp only [List.mem_cons, List.not_mem_nil, or_false] at this
        omega
      walk_at "gn"
      refine ⟨3, _, [gi ns 0, low], 5, 0, rfl, by walk_at "sq", by decide, by decide, fun _ => rfl, ?_⟩
      rw [show rk 3 [gi ns 0, low] 5 0 = some (.words 1) from parted_ws (a := gi ns 0) (b := low) (by omega) (by omega) (by decide) (ws_bad (i := 1) rfl hlow fun j y hj hy => by
        have : j = 0 := by omega
        subst this
        cases hy
        exact g0b.1)]
      intro t H12 e12 h12
      walk_at "gn"
      refine r_neEr (.words 1) (by walk_at "st") (by walk_at "st") trivial ?_
      walk_at "gn"
      refine ⟨3, _, [low, 0], 5, 0, rfl, by walk_at "sq", by decide, by decide, fun _ => rfl, ?_⟩
      rw [show rk 3 [low, 0] 5 0 = some (.words 0) from parted_ws (a := low) (b := 0) (by omega) (by decide) (by decide) (ws_bad (i := 0) rfl hlow fun j y hj hy => absurd hj (Nat.not_lt_zero _))]
      intro t H13 e13 h13
      walk_at "gn"
      refine r_neEr (.words 0) (by walk_at "st") (by walk_at "st") trivial ?_
      walk_at "gn"
      refine ⟨3, _, [low, 1], low, 0, rfl, by walk_at "sq", by decide, by decide, fun _ => rfl, ?_⟩
      rw [show rk 3 [low, 1] low 0 = some (.words (-1)) from parted_line (a := low) (b := 1) (by omega) (by decide) hlow]
      intro t H14 e14 h14
      walk_at "gn"
      refine r_neEr (.words (-1)) (by walk_at "st") (by walk_at "st") trivial ?_
      walk_at "gn"
      exact ⟨⟨_, _, _, rfl⟩, by walk_at "ex"⟩
    rintro σ' H12 ⟨⟨v1, v5, v6, rfl⟩, e12⟩
    walk_at "go"
    refine ⟨p, _, rfl, by decide, by decide, by walk_at "pu", fun b H13 b0 b1 e13 hp13 => ?_⟩
    have ha13 : H13 a = some (.lst (ns.map V.int)) := by walk_at "hp"
    walk_at "gn"
    refine ⟨2, _, ns ++ [401 + b], 0, 0, rfl, by walk_at "sq", by decide, by decide, fun z => by omega, ?_⟩
    rw [show rk 2 (ns ++ [401 + b]) 0 0 = some (.many "width") from orS (bw_width (z := 401 + b) (by walk_at "ln") (by simp) (by omega))]
    intro t H14 e14 h14
    walk_at "gn"
    refine r_neEr (.many "width") (by walk_at "st") (by walk_at "st") okw ?_
    walk_at "gn"
    refine ⟨3, _, [1, 401 + b], 0, 0, rfl, by walk_at "sq", by decide, by decide, fun _ => rfl, ?_⟩
    rw [show rk 3 [1, 401 + b] 0 0 = some (.many "width") from parted_many (a := 1) (b := 401 + b) (by omega)]
    intro t H15 e15 h15
    walk_at "gn"
    refine r_eqSame (er_dp (e := .many "width") (by walk_at "st")) (er_dp (e := .many "width") (by walk_at "st")) (er_shaped okw) ?_
    exact q _ (by walk_at "ex") (by walk_at "pu")
end
end K07
namespace K07
open PySem PySem.Spec PyProof.Rows L2 Evl Lay
section
variable {P : Program} {w : World} {K : PySem.W.Frag} {mg : Str → Option Value} {base : Heap} {CB CT CW : Addr} {tWs tW tR : Tok}
variable {a_SIGNS_OF_FIGURE : Addr}
theorem r_KB {te : TE} {σ : L2.St} {H : Hp} {Q : VK} (Z : Int → Hp → Prop) (h1 : ∀ Q' : VK, (∀ i H1, Z i H1 → Q' (.int i) H1) → te σ H Q') (h2 : ∀ i H1, Z i H1 → Q (.int i) H1) : te σ H Q := h1 Q h2
theorem rep_ints (zs : List Int) (n : Nat) : (List.replicate n (zs.map V.int)).flatten = ((List.replicate n zs).flatten).map V.int := by
  rw [List.map_flatten, List.map_replicate]
theorem rep_len (zs : List Int) (n : Nat) : (List.replicate n zs).flatten.length = n * zs.length := by
  rw [List.length_flatten, List.map_replicate, List.sum_replicate_nat]
theorem rep_in {zs : List Int} {n : Nat} {lo hi : Int} (h : AllIn zs lo hi) : AllIn (List.replicate n zs).flatten lo hi := fun z hz => by
  obtain ⟨l, hl, hz⟩ := List.mem_flatten.mp hz
  rw [(List.mem_replicate.mp hl).2] at hz
  exact h z hz
def spGreat : Sp := fun vs H Q _ => ∃ p : Addr, vs = [.ref p] ∧ Pur H p ∧ ∀ H2, ExB p H H2 → Q (.bl true) H2
abbrev s__law_great : Stmt := top 47
theorem sc__law_great : FnScope ["purse", "many", "widths", "turn", "P", "Q", "one", "other", "width"] ["purse"] (defScope s__law_great) := ⟨rfl, rfl, rfl, by decide +kernel, rfl, by decide +kernel, by decide +kernel⟩
theorem ok_great (T : Txt K mg CB tWs tW tR a_SIGNS_OF_FIGURE) (F : At K mg "_law_great" s__law_great ["purse"]) (d__law_draw : Def P w K mg base "_law_draw" 1 ["purse", "many"] spDraw) (d__law_tuple_is : Def P w K mg base "_law_tuple_is" 3 ["told", "due"] (spTupleIs K)) (d__law_stretch : Def P w K mg base "_law_stretch" 1 ["widths", "P", "Q"] (spLStretch K))
    (d_parting_widths : Def P w K mg base "parting_widths" 6 ["widths", "P", "Q"] (spPart K CT CW)) (d__law_shown : Def P w K mg base "_law_shown" 6 ["one", "other", "width"] spShown)
    (d__law_refusal : Def P w K mg base "_law_refusal" 7 ["kind", "told", "P", "Q"] (spRefusal K)) : Def P w K mg base "_law_great" 8 ["purse"] spGreat := by
  refine Def.mk' F sc__law_great (fun vs H Q E h => ?_) (fun f cdv Ar outer s H vs Q E hr h => ⟨_, (pss_cons (ps_set (i := 1) sc__law_great.nd rfl (Or.inl rfl) (pe_op op_add pe_int (pe_d d__law_draw (hr.mono (by decide)) (passes_call (takes_of rfl rfl rfl rfl) (fun _ _ _ _ h => h)) (pa_cons (pv 0) (pa_cons pe_int pa_nil)))))
      (pss_cons (ps_set (i := 2) sc__law_great.nd rfl (Or.inl rfl) (pe_op op_rep (pe_lc (own := [("turn", 3)]) (g := gName 3) (tt := tYes) rfl sc__law_great.nd (pi_range1 rfl T.n_range (pa_cons pe_int pa_nil)) (blkOk_by (own := [("turn", 3)]) (N := ["purse", "many", "widths", "turn", "P", "Q", "one", "other", "width"]) (sc := defScope s__law_great) (by decide +kernel)) (fun _ _ _ _ _ => (pg_name (i := 3) sc__law_great.nd rfl (Or.inl rfl))) (fun _ _ _ _ _ => pts_nil) (fun _ _ _ _ _ => (pe_op op_add pe_int (pe_d d__law_draw (hr.mono (by decide)) passL (pa_cons (pv 0) (pa_cons pe_int pa_nil)))))) pe_int))
      (pss_cons (ps_set (i := 2) sc__law_great.nd rfl (Or.inl rfl) (pe_slice (r := rSlL K) sl_list (pv 2) po_none (po_some (pv 1))))
      (pss_cons (ps_for (passes_of rfl) rfl (pi_range1 rfl T.n_range (pa_cons pe_int pa_nil)) (pg_name (i := 3) sc__law_great.nd rfl (Or.inl rfl)) (pss_cons (ps_set (i := 4) sc__law_great.nd rfl (Or.inl rfl) (pe_op op_add pe_int (pe_d d__law_draw (hr.mono (by decide)) (passes_call (takes_of rfl rfl rfl rfl) (fun _ _ _ _ h => h)) (pa_cons (pv 0) (pa_cons (pv 1) pa_nil)))))
      (pss_cons (ps_set (i := 5) sc__law_great.nd rfl (Or.inl rfl) (pe_ifExp (pt_cmpR op_lt (pv 3) pe_int (nomark _)) (pe_op op_add pe_int (pe_d d__law_draw (hr.mono (by decide)) (passes_call (takes_of rfl rfl rfl rfl) (fun _ _ _ _ h => h)) (pa_cons (pv 0) (pa_cons pe_int pa_nil)))) (pe_op op_sub (pv 1) (pe_d d__law_draw (hr.mono (by decide)) (passes_call (takes_of rfl rfl rfl rfl) (fun _ _ _ _ h => h)) (pa_cons (pv 0) (pa_cons pe_int pa_nil))))))
      (pss_one (ps_if (pt_not (pt_val (pe_d d__law_tuple_is (hr.mono (by decide)) (passes_call (takes_of rfl rfl rfl rfl) (fun _ _ _ _ h => h)) (pa_cons (pe_d d_parting_widths (hr.mono (by decide)) (passes_call (takes_of rfl rfl rfl rfl) (fun _ _ _ _ h => h)) (pa_cons (pv 2) (pa_cons (pv 4) (pa_cons (pv 5) pa_nil)))) (pa_cons (pe_d d__law_stretch (hr.mono (by decide)) (passes_call (takes_of rfl rfl rfl rfl) (fun _ _ _ _ h => h)) (pa_cons (pv 2) (pa_cons (pv 4) (pa_cons (pv 5) pa_nil)))) pa_nil))))) (pss_one (ps_ret pe_bl)) pss_nil)))))
      (pss_cons (ps_for (passes_of rfl) rfl (pi_range1 rfl T.n_range (pa_cons pe_int pa_nil)) (pg_name (i := 3) sc__law_great.nd rfl (Or.inl rfl)) (pss_cons (ps_set (i := 6) sc__law_great.nd rfl (Or.inl rfl) (pe_op op_add pe_int (pe_d d__law_draw (hr.mono (by decide)) (passes_call (takes_of rfl rfl rfl rfl) (fun _ _ _ _ h => h)) (pa_cons (pv 0) (pa_cons pe_int pa_nil)))))
      (pss_cons (ps_set (i := 7) sc__law_great.nd rfl (Or.inl rfl) (pe_op op_add pe_int (pe_d d__law_draw (hr.mono (by decide)) (passes_call (takes_of rfl rfl rfl rfl) (fun _ _ _ _ h => h)) (pa_cons (pv 0) (pa_cons pe_int pa_nil)))))
      (pss_one (ps_for (passes_of rfl) rfl (pi_list (pe_lst (pa_cons (pe_op op_sub (pv 6) pe_int) (pa_cons (pe_op op_add (pv 6) (pe_d d__law_draw (hr.mono (by decide)) (passes_call (takes_of rfl rfl rfl rfl) (fun _ _ _ _ h => h)) (pa_cons (pv 0) (pa_cons pe_int pa_nil)))) (pa_cons (pe_op op_sub (pe_op op_sub (pe_op op_mul pe_int (pv 6)) (pv 7)) pe_int) (pa_cons (pe_op op_sub (pe_op op_sub (pe_op op_mul pe_int (pv 6)) (pv 7)) pe_int) pa_nil)))))) (pg_name (i := 8) sc__law_great.nd rfl (Or.inl rfl)) (pss_one (ps_if (PW.pt (pw_or (pt_not (pt_val (pe_d d__law_shown (hr.mono (by decide)) (passes_call (takes_of rfl rfl rfl rfl) (fun _ _ _ _ h => h)) (pa_cons (pv 6) (pa_cons (pv 7) (pa_cons (pv 8) pa_nil)))))) (pw_or1 (pt_not (pt_val (pe_d d__law_shown (hr.mono (by decide)) (passes_call (takes_of rfl rfl rfl rfl) (fun _ _ _ _ h => h)) (pa_cons (pv 7) (pa_cons (pv 6) (pa_cons (pv 8) pa_nil))))))))) (pss_one (ps_ret pe_bl)) pss_nil)))))))
      (pss_one (ps_ret (pe_cmpR (r := rEqD K) (op_eqD hr.units) (pe_d d__law_refusal (hr.mono (by decide)) (passes_call (takes_of rfl rfl rfl rfl) (fun _ _ _ _ h => h)) (pa_cons pe_int (pa_cons (pe_op op_cat (pe_op op_rep (pe_lst (pa_cons pe_int pa_nil)) pe_int) (pe_lst (pa_cons pe_int pa_nil))) (pa_cons pe_int (pa_cons pe_int pa_nil))))) (pe_tup (pa_cons pe_str (pa_cons pe_str pa_nil))) (nomark _))))))))), ?_⟩)
  · obtain ⟨p, rfl, _⟩ := h
    rfl
  · obtain ⟨p, rfl, hp, q⟩ := h
    walk_at "go0"
    refine ⟨p, 11, rfl, by decide, by decide, hp, fun n H1 n0 n1 e1 hp1 => ?_⟩
    walk_at "go"
    refine lcR1 (by omega) (by omega) (fun l i h => ∃ zs : List Int, zs.length = i ∧ AllIn zs 1 400 ∧ h l = some (.lst (zs.map V.int)) ∧ ExB p H1 h ∧ Pur h p ∧ H1 l = none) ?_ ?_ ?_ (fun _ => rfl)
    · exact fun l h hl e hn => ⟨[], rfl, all_nil, hn, Lay.Ex.b e, hp1.ex e, hl⟩
    · intro l i h hi ⟨zs, hz, hall, hl, e, hp3, ln⟩
      walk_at "go"
      refine ⟨p, 400, rfl, by omega, by omega, hp3, fun r H4 r0 r1 e4 hp4 => ?_⟩
      walk_at "go"
      have nlp : l ≠ p := hp1.ne ln
      exact appW (e4 _ _ nlp hl) (by rw [List.length_map]; omega) fun H5 e5 h5 => ⟨zs ++ [1 + r], by rw [List.length_append, hz]; rfl, all_snoc hall (by omega) (by omega), by rw [List.map_append]; exact h5, ExB.exB (e.trans e4) e5 ln, hp4.upd e5 nlp.symm, ln⟩
    intro b H2 ⟨zs, lz, iz, hb, e2, hp2, nb⟩
    change zs.length = 50 at lz
    walk_at "go"
    refine r_repG hb (by decide) (by rw [List.length_map, lz]; decide) (by decide) fun b2 H3 n3 e3 h3 => ?_
    rw [rep_ints] at h3
    walk_at "go"
    have wl := rep_len zs (80 : Int).toNat
    have wi := rep_in (n := (80 : Int).toNat) iz
    rw [lz] at wl
    change _ = 4000 at wl
    generalize (List.replicate (80 : Int).toNat zs).flatten = ws at h3 wl wi
    refine r_slE (ns := ws) (e := (3990 + n).toNat) (by walk_at "sq") (by omega) (by omega) fun a H4 n4 e4 h4 => ?_
    have wl2 : ((ws.take (3990 + n).toNat).length : Int) = 3990 + n := by rw [List.length_take]; omega
    have wi2 : AllIn (ws.take (3990 + n).toNat) 1 400 := fun z hz => wi z (List.mem_of_mem_take hz)
    generalize ws.take (3990 + n).toNat = us at h4 wl2 wi2
    have hok : Wok us := ⟨by omega, wi2⟩
    have hp4 : Pur H4 p := by walk_at "pu"
    have ep4 : ExB p H H4 := by walk_at "ex"
    have nap : a ≠ p := by walk_at "ne"
    walk_at "go"
    refine forR1 (by decide) (by decide) (fun i σ' H' => (∃ v1 v2 v3, σ' = [some (.ref p), some (.int (3990 + n)), some (.ref a), v1, v2, v3, none, none, none]) ∧ ExB p H4 H' ∧ Pur H' p) ⟨⟨_, _, _, rfl⟩, ExB.refl _ _, hp4⟩ ?_ ?_
    · rintro i σ' H' hi ⟨⟨v1, v2, v3, rfl⟩, e, hpp⟩
      walk_at "go"
      refine ⟨p, 3990 + n, rfl, by omega, by omega, hpp, fun c H5 c0 c1 e5 hp5 => ?_⟩
      walk_at "go"
      refine r_KB (fun d H6 => 1 ≤ d ∧ d ≤ 3990 + n ∧ ExB p H5 H6 ∧ Pur H6 p) (fun Q' k => ?_) (fun d H6 ⟨d1, d2, e6, hp6⟩ => ?_)
      · refine r_tIf ?_
        walk_at "go"
        refine r_ite (fun z => ?_) (fun z => ?_)
        · walk_at "go"
          refine ⟨p, 30, rfl, by decide, by decide, hp5, fun g H6 g0 g1 e6 hp6 => ?_⟩
          walk_at "go"
          exact k _ H6 ⟨by omega, by omega, e6, hp6⟩
        · walk_at "go"
          refine ⟨p, 30, rfl, by decide, by decide, hp5, fun g H6 g0 g1 e6 hp6 => ?_⟩
          walk_at "go"
          exact k _ H6 ⟨by omega, by omega, e6, hp6⟩
      have ha6 : H6 a = some (.lst (us.map V.int)) := by walk_at "hp"
      have e46 : ExB p H4 H6 := by walk_at "ex"
      walk_at "go"
      refine ⟨a, us, 1 + c, d, rfl, by walk_at "sq", ?_⟩
      rw [part_none hok (by omega) (by omega) (by omega) (by omega)]
      show OptT (WN.stE _ _ _) _ _
      cases hs : WN.stE (gi us (1 + c - 1)) (gi us (d - 1)) (topOf us (1 + c) d) with
      | none =>
        intro H7 e7
        walk_at "go"
        refine ⟨a, us, 1 + c, d, rfl, by walk_at "sq", by omega, by omega, by omega, by omega, by omega, ?_⟩
        rw [hs]
        intro H8 e8
        walk_at "go"
        refine ⟨_, _, rfl, .inl ⟨rfl, rfl⟩, fun H9 e9 => ?_⟩
        walk_at "go"
        exact ⟨⟨_, _, _, rfl⟩, by walk_at "ex", by walk_at "pu"⟩
      | some x =>
        obtain ⟨f, l⟩ := x
        intro p7 H7 n7 e7 h7
        walk_at "go"
        refine ⟨a, us, 1 + c, d, rfl, by walk_at "sq", by omega, by omega, by omega, by omega, by omega, ?_⟩
        rw [hs]
        intro p8 H8 n8 e8 h8
        walk_at "go"
        refine ⟨_, _, rfl, same_opt (f := f) (l := l) (by walk_at "hp") (by walk_at "st"), fun H9 e9 => ?_⟩
        walk_at "go"
        exact ⟨⟨_, _, _, rfl⟩, by walk_at "ex", by walk_at "pu"⟩
    rintro σ' H5 ⟨⟨v1, v2, v3, rfl⟩, e5, hp5⟩
    walk_at "go"
    refine forR1 (by decide) (by decide) (fun i σ' H' => (∃ v1 v2 v3 v4 v5 v6, σ' = [some (.ref p), some (.int (3990 + n)), some (.ref a), v1, v2, v3, v4, v5, v6]) ∧ ExB p H5 H' ∧ Pur H' p) ⟨⟨_, _, _, _, _, _, rfl⟩, ExB.refl _ _, hp5⟩ ?_ ?_
    · rintro i σ' H' hi ⟨⟨v1, v2, v3, v4, v5, v6, rfl⟩, e, hpp⟩
      walk_at "go"
      refine ⟨p, 201, rfl, by decide, by decide, hpp, fun x H6 x0 x1 e6 hp6 => ?_⟩
      walk_at "go"
      refine ⟨p, 150, rfl, by decide, by decide, hp6, fun y H7 y0 y1 e7 hp7 => ?_⟩
      walk_at "go"
      refine ⟨p, 200, rfl, by decide, by decide, hp7, fun z H8 z0 z1 e8 hp8 => ?_⟩
      walk_at "go"
      refine r_newI4 fun l H9 n9 e9 h9 => ?_
      have e59 : ExB p H5 H9 := by walk_at "ex"
      have hp9 : Pur H9 p := by walk_at "pu"
      walk_at "go"
      refine forI (ns := [200 + x - 1, 200 + x + z, 2 * (200 + x) - (1 + y) - 2, 2 * (200 + x) - (1 + y) - 1]) (by walk_at "sq") (fun j σ' H' => (∃ v2 v3 v6, σ' = [some (.ref p), some (.int (3990 + n)), some (.ref a), some (.int i), v2, v3, some (.int (200 + x)), some (.int (1 + y)), v6]) ∧ Ex H9 H') ⟨⟨_, _, _, rfl⟩, Ex.refl _⟩ ?_ ?_ ?_
      · rintro j σ' H' _ ⟨_, e⟩
        walk_at "sq"
      · rintro j m σ' H' hz ⟨⟨v2, v3, v6, rfl⟩, e⟩
        have hm : 1 ≤ m := by
          have := List.mem_of_getElem? hz
          simp only [List.mem_cons, List.not_mem_nil, or_false] at this
          omega
        walk_at "go"
        refine ⟨_, _, m, rfl, by omega, by omega, by omega, by omega, hm, fun H10 e10 => ?_⟩
        walk_at "go"
        refine ⟨_, _, m, rfl, by omega, by omega, by omega, by omega, hm, fun H11 e11 => ?_⟩
        walk_at "go"
        exact ⟨⟨_, _, _, rfl⟩, by walk_at "ex"⟩
      · rintro σ' H' ⟨⟨v2, v3, v6, rfl⟩, e⟩
        exact ⟨⟨_, _, _, _, _, _, rfl⟩, by walk_at "ex", by walk_at "pu"⟩
    rintro σ' H6 ⟨⟨v1, v2, v3, v4, v5, v6, rfl⟩, e6, hp6⟩
    have okw : PyData.strOk "widths" = true := by decide +kernel
    walk_at "go"
    refine r_newL (len3 rfl) fun l1 H7 n7 e7 h7 => ?_
    walk_at "go"
    refine r_rep h7 (by decide) (by decide) fun l2 H8 n8 e8 h8 => ?_
    rw [show List.replicate (4001 : Int).toNat (V.int 1) = (List.replicate (4001 : Int).toNat (1 : Int)).map V.int from List.map_replicate.symm] at h8
    have ll2 : (List.replicate (4001 : Int).toNat (1 : Int)).length = 4001 := by rw [List.length_replicate]; rfl
    generalize List.replicate (4001 : Int).toNat (1 : Int) = os at h8 ll2
    walk_at "gn"
    refine ⟨2, _, os ++ [401], 0, 0, rfl, by walk_at "sq", by decide, by decide, fun z => by omega, ?_⟩
    rw [show rk 2 (os ++ [401]) 0 0 = some (.many "widths") from orS (orS (by unfold ckMost; rw [if_pos (by rw [List.length_append, ll2]; decide)]))]
    intro t H9 e9 h9
    walk_at "gn"
    refine r_eqSame (er_dp (e := .many "widths") (by walk_at "st")) (er_dp (e := .many "widths") (by walk_at "st")) (er_shaped okw) ?_
    exact q _ (by walk_at "ex")
end
end K07
namespace K07
open PySem PySem.Spec PyProof.Rows L2 Evl Lay
section
variable {P : Program} {w : World} {K : PySem.W.Frag} {mg : Str → Option Value} {base : Heap} {CB CT CW : Addr} {tWs tW tR : Tok}
variable {a_SIGNS_OF_FIGURE : Addr}
/-- a row of widths -/
def Wd (p l : Addr) (H : Hp) (x : V) : Prop := ∃ (a : Addr) (ns : List Int), x = .ref a ∧ a ≠ p ∧ a ≠ l ∧ H a = some (.lst (ns.map V.int)) ∧ 2 ≤ ns.length ∧ ns.length ≤ 6 ∧ AllIn ns 1 7
theorem Wd.mono {p l : Addr} {H H2 : Hp} {x : V} (h : Wd p l H x) (e : ExB p H H2) : Wd p l H2 x := by
  obtain ⟨a, ns, rfl, n1, n2, ha, r⟩ := h
  exact ⟨a, ns, rfl, n1, n2, e _ _ n1 ha, r⟩
theorem Wd.mono2 {p l : Addr} {H H2 : Hp} {x : V} (h : Wd p l H x) (e : ExB l H H2) : Wd p l H2 x := by
  obtain ⟨a, ns, rfl, n1, n2, ha, r⟩ := h
  exact ⟨a, ns, rfl, n1, n2, e _ _ n2 ha, r⟩
def spLaw (K : PySem.W.Frag) : Sp := fun vs H Q _ => ∃ (s : Addr) (ns : List Int), vs = [.ref s] ∧ SqL K H s (ns.map V.int) ∧ ns.length ≤ 63 ∧ ∀ H2, Q (.bl true) H2
abbrev s_law : Stmt := top 48
theorem sc_law : FnScope ["script", "purse", "worlds", "turn", "widths", "P", "Q", "width", "least", "most", "place"] ["script"] (defScope s_law) := ⟨rfl, rfl, rfl, by decide +kernel, rfl, by decide +kernel, by decide +kernel⟩
theorem ok_law {f : Addr} {fd : FuncData} (T : Txt K mg CB tWs tW tR a_SIGNS_OF_FIGURE) (F : Fun K "law" "law" s_law f fd) (d__law_purse : Def P w K mg base "_law_purse" 1 ["script", "at"] (spPurse K)) (d__law_draw : Def P w K mg base "_law_draw" 1 ["purse", "many"] spDraw) (d__law_couples : Def P w K mg base "_law_couples" 7 ["widths"] (spCouples K))
    (d__law_wrong : Def P w K mg base "_law_wrong" 8 ["purse", "widths"] (spWrong K)) (d__law_searched : Def P w K mg base "_law_searched" 7 ["widths", "P", "Q"] (spSearched K)) (d__law_shown : Def P w K mg base "_law_shown" 6 ["one", "other", "width"] spShown)
    (d__law_numerals : Def P w K mg base "_law_numerals" 8 ["purse", "cells"] spNumerals) (d__law_great_numerals : Def P w K mg base "_law_great_numerals" 8 ["purse"] spGreatN) (d__law_great : Def P w K mg base "_law_great" 8 ["purse"] spGreat) :
    FnOk P w K mg base (L2.CX P w) 9 f fd ["script"] (spLaw K) := by
  refine fnK F sc_law (fun vs H Q E h => ?_) (fun f cdv Ar outer s H vs Q E hr h => ⟨_, (pss_cons (ps_set (i := 1) sc_law.nd rfl (Or.inr rfl) (pe_d d__law_purse (hr.mono (by decide)) (passes_call (takes_of rfl rfl rfl rfl) (fun _ _ _ _ h => h)) (pa_cons (pv 0) (pa_cons pe_int pa_nil))))
      (pss_cons (ps_set (i := 2) sc_law.nd rfl (Or.inl rfl) (pe_lst pa_nil))
      (pss_cons (ps_for (passes_of rfl) rfl (pi_range1 rfl T.n_range (pa_cons pe_int pa_nil)) (pg_name (i := 3) sc_law.nd rfl (Or.inl rfl)) (pss_one (ps_expr (pe_bm PySem.F.plainAttrs_list PySem.F.slot_list_append PySem.F.type_list_append mt_append (pv 2) (pa_cons (pe_lc (own := [("place", 10)]) (g := gName 10) (tt := tYes) rfl sc_law.nd (pi_range1 rfl T.n_range (pa_cons (pe_op op_add pe_int (pe_d d__law_draw (hr.mono (by decide)) (passes_call (takes_of rfl rfl rfl rfl) (fun _ _ _ _ h => h)) (pa_cons (pv 1) (pa_cons pe_int pa_nil)))) pa_nil)) (blkOk_by (own := [("place", 10)]) (N := ["script", "purse", "worlds", "turn", "widths", "P", "Q", "width", "least", "most", "place"]) (sc := defScope s_law) (by decide +kernel)) (fun _ _ _ _ _ => (pg_name (i := 10) sc_law.nd rfl (Or.inl rfl))) (fun _ _ _ _ _ => pts_nil) (fun _ _ _ _ _ => (pe_op op_add pe_int (pe_d d__law_draw (hr.mono (by decide)) passL (pa_cons (pv 1) (pa_cons pe_int pa_nil)))))) pa_nil)))))
      (pss_cons (ps_for (passes_of rfl) rfl (pi_list (pv 2)) (pg_name (i := 4) sc_law.nd rfl (Or.inl rfl)) (pss_cons (ps_set (i := 5) sc_law.nd rfl (Or.inl rfl) (pe_op op_add pe_int (pe_d d__law_draw (hr.mono (by decide)) (passes_call (takes_of rfl rfl rfl rfl) (fun _ _ _ _ h => h)) (pa_cons (pv 1) (pa_cons (pe_callB (r := Lay.rLen K) c_len rfl T.n_len PySem.boot_len (pa_cons (pv 4) pa_nil)) pa_nil)))))
      (pss_cons (ps_if (PW.pt (pw_or (pt_not (pt_val (pe_d d__law_couples (hr.mono (by decide)) (passes_call (takes_of rfl rfl rfl rfl) (fun _ _ _ _ h => h)) (pa_cons (pv 4) pa_nil)))) (pw_or1 (pt_not (pt_val (pe_d d__law_wrong (hr.mono (by decide)) (passes_call (takes_of rfl rfl rfl rfl) (fun _ _ _ _ h => h)) (pa_cons (pv 1) (pa_cons (pv 4) pa_nil)))))))) (pss_one (ps_ret pe_bl)) pss_nil)
      (pss_cons (ps_set (i := 6) sc_law.nd rfl (Or.inl rfl) (pe_op op_add (pe_op op_mod (pe_callTy c_int rfl T.n_int (by decide +kernel) (pa_cons (pe_op op_add (pv 5) (pe_d d__law_draw (hr.mono (by decide)) (passes_call (takes_of rfl rfl rfl rfl) (fun _ _ _ _ h => h)) (pa_cons (pv 1) (pa_cons (pe_op op_sub (pe_callB (r := Lay.rLen K) c_len rfl T.n_len PySem.boot_len (pa_cons (pv 4) pa_nil)) pe_int) pa_nil)))) pa_nil)) (pe_callB (r := Lay.rLen K) c_len rfl T.n_len PySem.boot_len (pa_cons (pv 4) pa_nil))) pe_int))
      (pss_cons (ps_if (pt_not (pt_val (pe_d d__law_searched (hr.mono (by decide)) (passes_call (takes_of rfl rfl rfl rfl) (fun _ _ _ _ h => h)) (pa_cons (pv 4) (pa_cons (pv 5) (pa_cons (pv 6) pa_nil)))))) (pss_one (ps_ret pe_bl)) pss_nil)
      (pss_one (ps_for (passes_of rfl) rfl (pi_range2 rfl T.n_range (pa_cons pe_int (pa_cons pe_int pa_nil))) (pg_name (i := 7) sc_law.nd rfl (Or.inl rfl)) (pss_one (ps_if (pt_not (pt_val (pe_d d__law_shown (hr.mono (by decide)) (passes_call (takes_of rfl rfl rfl rfl) (fun _ _ _ _ h => h)) (pa_cons (pe_ix (r := rIxL K) ix_list (pv 4) pe_int (fun _ _ => rfl)) (pa_cons (pe_ix (r := rIxL K) ix_list (pv 4) pe_int (fun _ _ => rfl)) (pa_cons (pv 7) pa_nil)))))) (pss_one (ps_ret pe_bl)) pss_nil)))))))))
      (pss_cons (ps_set (i := 8) sc_law.nd rfl (Or.inl rfl) (pe_op op_add pe_int (pe_d d__law_draw (hr.mono (by decide)) (passes_call (takes_of rfl rfl rfl rfl) (fun _ _ _ _ h => h)) (pa_cons (pv 1) (pa_cons pe_int pa_nil)))))
      (pss_cons (ps_set (i := 9) sc_law.nd rfl (Or.inl rfl) (pe_op op_add (pe_op op_add (pv 8) pe_int) (pe_d d__law_draw (hr.mono (by decide)) (passes_call (takes_of rfl rfl rfl rfl) (fun _ _ _ _ h => h)) (pa_cons (pv 1) (pa_cons (pe_op op_sub pe_int (pv 8)) pa_nil)))))
      (pss_cons (ps_if (PW.pt (pw_or (pt_not (pt_val (pe_d d__law_searched (hr.mono (by decide)) (passes_call (takes_of rfl rfl rfl rfl) (fun _ _ _ _ h => h)) (pa_cons (pe_lst (pa_cons (pv 8) (pa_cons (pv 9) pa_nil))) (pa_cons pe_int (pa_cons pe_int pa_nil)))))) (pw_or1 (pt_not (pt_val (pe_d d__law_shown (hr.mono (by decide)) (passes_call (takes_of rfl rfl rfl rfl) (fun _ _ _ _ h => h)) (pa_cons (pv 9) (pa_cons (pv 8) (pa_cons (pe_callB (c_max2 rfl) rfl T.n_max (by decide +kernel) (pa_cons (pv 9) (pa_cons (pe_op op_add (pv 8) pe_int) pa_nil))) pa_nil))))))))) (pss_one (ps_ret pe_bl)) pss_nil)
      (pss_cons (ps_if (pt_not (pt_val (pe_d d__law_numerals (hr.mono (by decide)) (passes_call (takes_of rfl rfl rfl rfl) (fun _ _ _ _ h => h)) (pa_cons (pv 1) (pa_cons (pe_d d__law_draw (hr.mono (by decide)) (passes_call (takes_of rfl rfl rfl rfl) (fun _ _ _ _ h => h)) (pa_cons (pv 1) (pa_cons pe_int pa_nil))) pa_nil))))) (pss_one (ps_ret pe_bl)) pss_nil)
      (pss_cons (ps_if (PW.pt (pw_and (pt_cmpR op_eq (pe_d d__law_draw (hr.mono (by decide)) (passes_call (takes_of rfl rfl rfl rfl) (fun _ _ _ _ h => h)) (pa_cons (pv 1) (pa_cons pe_int pa_nil))) pe_int (nomark _)) (pw_and1 (pt_not (pt_val (pe_d d__law_great_numerals (hr.mono (by decide)) (passes_call (takes_of rfl rfl rfl rfl) (fun _ _ _ _ h => h)) (pa_cons (pv 1) pa_nil))))))) (pss_one (ps_ret pe_bl)) pss_nil)
      (pss_one (ps_ret (pe_ifExp (pt_cmpR op_eq (pe_d d__law_draw (hr.mono (by decide)) (passes_call (takes_of rfl rfl rfl rfl) (fun _ _ _ _ h => h)) (pa_cons (pv 1) (pa_cons pe_int pa_nil))) pe_int (nomark _)) (pe_d d__law_great (hr.mono (by decide)) (passes_call (takes_of rfl rfl rfl rfl) (fun _ _ _ _ h => h)) (pa_cons (pe_d d__law_purse (hr.mono (by decide)) (passes_call (takes_of rfl rfl rfl rfl) (fun _ _ _ _ h => h)) (pa_cons (pv 0) (pa_cons pe_int pa_nil))) pa_nil)) pe_bl)))))))))))), ?_⟩)
  · obtain ⟨s, ns, rfl, _⟩ := h
    rfl
  · obtain ⟨s, ns, rfl, hs, hl, q⟩ := h
    walk_at "go0"
    refine ⟨s, ns, 0, rfl, hs, by decide, hl, fun p H1 np e1 hp => ?_⟩
    walk_at "go"
    refine r_newL (len3 rfl) fun l H2 nl e2 h2 => ?_
    walk_at "go"
    have nlp : l ≠ p := hp.ne nl
    refine forR1 (by decide) (by decide) (fun i σ' H' => ∃ xs : List V, xs.length = i ∧ (∃ v3, σ' = [some (.ref s), some (.ref p), some (.ref l), v3, none, none, none, none, none, none, none]) ∧ (∀ x ∈ xs, Wd p l H' x) ∧ H' l = some (.lst xs) ∧ Pur H' p ∧ Ex H H') ?_ ?_ ?_
    · exact ⟨[], rfl, ⟨_, rfl⟩, fun x hx => (List.not_mem_nil hx).elim, h2, hp.ex e2, e1.trans e2⟩
    · rintro i σ' H' hi ⟨xs, hx, ⟨v3, rfl⟩, hw, hll, hpp, eH⟩
      walk_at "go"
      refine r_bmL (by walk_at "sq") ?_ rfl
      walk_at "go"
      refine ⟨p, 5, rfl, by decide, by decide, hpp, fun n H3 n0 n1 e3 hp3 => ?_⟩
      walk_at "go"
      refine lcR1 (by omega) (by omega) (fun l i h => ∃ zs : List Int, zs.length = i ∧ AllIn zs 1 7 ∧ h l = some (.lst (zs.map V.int)) ∧ ExB p H3 h ∧ Pur h p ∧ H3 l = none) ?_ ?_ ?_ (fun _ => rfl)
      · exact fun l h hl e hn => ⟨[], rfl, all_nil, hn, Lay.Ex.b e, hp3.ex e, hl⟩
      · intro l i h hi ⟨zs, hz, hall, hl, e, hp3', ln⟩
        walk_at "go"
        refine ⟨p, 7, rfl, by omega, by omega, hp3', fun r H4 r0 r1 e4 hp4 => ?_⟩
        walk_at "go"
        have nlp : l ≠ p := hp3.ne ln
        exact appW (e4 _ _ nlp hl) (by rw [List.length_map]; omega) fun H5 e5 h5 => ⟨zs ++ [1 + r], by rw [List.length_append, hz]; rfl, all_snoc hall (by omega) (by omega), by rw [List.map_append]; exact h5, ExB.exB (e.trans e4) e5 ln, hp4.upd e5 nlp.symm, ln⟩
      intro a H4 ⟨zs, lz, iz, ha, e4, hp4, na⟩
      have hl3 : H3 l = some (.lst xs) := by walk_at "hp"
      have nap : a ≠ p := hp3.ne na
      have nal : a ≠ l := by walk_at "ne"
      have hl4 : H4 l = some (.lst xs) := e4 _ _ nlp hl3
      have ep : ExB p H' H4 := by walk_at "ex"
      have e04 : Ex H H4 := ExB.ex eH ep np
      walk_at "go"
      refine r_app hl4 (by rw [hx]; omega) fun H5 e5 h5 _ => ?_
      walk_at "go"
      refine ⟨xs ++ [.ref a], by rw [List.length_append, hx]; rfl, ⟨_, rfl⟩, fun x hx' => ?_, h5, hp4.upd e5 nlp.symm, ExB.ex e04 e5 (fresh_back e1 nl)⟩
      rcases List.mem_append.mp hx' with q | q
      · exact ((hw x q).mono ep).mono2 e5
      · exact ⟨a, zs, List.mem_singleton.mp q, nap, nal, e5 _ _ nal ha, by omega, by omega, iz⟩
    rintro σ' H3 ⟨xs, hx, ⟨v3, rfl⟩, hw, hll, hpp, eH⟩
    walk_at "go"
    refine forL (xs := xs) (SqL.of hll) (fun j σ' H' => (∃ v3 v4 v5 v6 v7, σ' = [some (.ref s), some (.ref p), some (.ref l), v3, v4, v5, v6, v7, none, none, none]) ∧ ExB p H3 H' ∧ Pur H' p) ⟨⟨_, _, _, _, _, rfl⟩, ExB.refl _ _, hpp⟩ ?_ ?_ ?_
    · rintro j σ' H' _ ⟨_, ep, _⟩
      exact SqL.of (ep _ _ nlp hll)
    · rintro j x σ' H' hj ⟨⟨v3, v4, v5, v6, v7, rfl⟩, ep, hp4⟩
      obtain ⟨a, us, rfl, nap, _, ha, l2, l6, hin⟩ := (hw x (List.mem_of_getElem? hj)).mono ep
      have hok : Wok us := ⟨by omega, fun z hz => by have := hin z hz; omega⟩
      walk_at "go"
      refine ⟨p, us.length, rfl, by omega, by omega, hp4, fun c H5 c0 c1 e5 hp5 => ?_⟩
      walk_at "go"
      refine ⟨a, us, rfl, by walk_at "sq", hok, fun H6 e6 => ?_⟩
      walk_at "go"
      refine ⟨p, a, us, rfl, by walk_at "pu", by walk_at "hp", nap, l2, l6, hin, fun H7 e7 hp7 => ?_⟩
      walk_at "go"
      refine ⟨p, (us.length : Int) - 1, rfl, by omega, by omega, hp7, fun d H8 d0 d1 e8 hp8 => ?_⟩
      walk_at "go"
      have ha8 : H8 a = some (.lst (us.map V.int)) := by walk_at "hp"
      have m0 := Int.emod_nonneg (1 + c + d) (b := (us.length : Int)) (by omega)
      have m1 := Int.emod_lt_of_pos (1 + c + d) (b := (us.length : Int)) (by omega)
      refine ⟨a, us, 1 + c, (1 + c + d) % (us.length : Int) + 1, rfl, by walk_at "sq", hok, by omega, by omega, by omega, by omega, fun H9 e9 => ?_⟩
      have g0 := hin _ (gi_mem (ns := us) (i := 0) (by decide) (by omega))
      have g1 := hin _ (gi_mem (ns := us) (i := 1) (by decide) (by omega))
      have ep9 : ExB p H3 H9 := by walk_at "ex"
      have hp9 : Pur H9 p := by walk_at "pu"
      have ha9 : H9 a = some (.lst (us.map V.int)) := by walk_at "hp"
      walk_at "go"
      refine forR2 (by decide) (by decide) (fun k σ' H' => (∃ v3 v5 v6 v7, σ' = [some (.ref s), some (.ref p), some (.ref l), v3, some (.ref a), v5, v6, v7, none, none, none]) ∧ Ex H9 H') ⟨⟨_, _, _, _, rfl⟩, Ex.refl _⟩ ?_ ?_
      · rintro k σ' H' hk ⟨⟨v3, v5, v6, v7, rfl⟩, e⟩
        walk_at "go"
        refine ⟨gi us 0, gi us 1, _, rfl, by omega, by omega, by omega, by omega, by omega, fun H10 e10 => ?_⟩
        walk_at "go"
        exact ⟨⟨_, _, _, _, rfl⟩, by walk_at "ex"⟩
      · rintro σ' H' ⟨⟨v3, v5, v6, v7, rfl⟩, e⟩
        exact ⟨⟨_, _, _, _, _, rfl⟩, by walk_at "ex", by walk_at "pu"⟩
    rintro σ' H4 ⟨⟨v3, v4, v5, v6, v7, rfl⟩, ep, hp4⟩
    have e04 : Ex H H4 := ExB.ex eH ep np
    have sq4 : SqL K H4 s (ns.map V.int) := ex_l e04 hs
    clear ep hw hll
    walk_at "go"
    refine ⟨p, 3, rfl, by decide, by decide, hp4, fun x H5 x0 x1 e5 hp5 => ?_⟩
    have sq5 := sq_fresh hs np sq4 e5
    walk_at "go"
    refine ⟨p, 5 - (1 + x), rfl, by omega, by omega, hp5, fun y H6 y0 y1 e6 hp6 => ?_⟩
    have sq6 := sq_fresh hs np sq5 e6
    walk_at "gn"
    refine ⟨_, [1 + x, 1 + x + 3 + y], 1, 2, rfl, by walk_at "sq", ⟨Nat.le_of_ble_eq_true rfl, fun z hz => by simp only [List.mem_cons, List.not_mem_nil, or_false] at hz; omega⟩, by decide, by show (1 : Int) ≤ 2; decide, by decide, by show (2 : Int) ≤ 2; decide, fun H7 e7 => ?_⟩
    walk_at "gn"
    refine ⟨1 + x + 3 + y, 1 + x, _, rfl, by omega, by omega, by omega, by omega, by split <;> omega, fun H8 e8 => ?_⟩
    have sq8 : SqL K H8 s (ns.map V.int) := by walk_at "sq"
    have hp8 : Pur H8 p := by walk_at "pu"
    walk_at "go"
    refine ⟨p, 131, rfl, by decide, by decide, hp8, fun g H9 g0 g1 e9 hp9 => ?_⟩
    have sq9 := sq_fresh hs np sq8 e9
    walk_at "go"
    refine ⟨p, g, rfl, hp9, g0, by omega, fun H10 e10 hp10 => ?_⟩
    have sq10 := sq_fresh hs np sq9 e10
    walk_at "go"
    refine ⟨p, 6, rfl, by decide, by decide, hp10, fun u H11 u0 u1 e11 hp11 => ?_⟩
    have sq11 := sq_fresh hs np sq10 e11
    walk_at "go"
    refine r_ite (fun c => ?_) (fun c => ?_)
    · walk_at "go"
      refine ⟨p, rfl, hp11, fun H12 e12 hp12 => ?_⟩
      have sq12 := sq_fresh hs np sq11 e12
      walk_at "go"
      refine r_tIf ?_
      walk_at "go"
      refine ⟨p, 6, rfl, by decide, by decide, hp12, fun v H13 v0 v1 e13 hp13 => ?_⟩
      have sq13 := sq_fresh hs np sq12 e13
      walk_at "go"
      refine r_ite (fun c => ?_) (fun c => ?_)
      · walk_at "go"
        refine ⟨s, ns, 1, rfl, sq13, by decide, hl, fun p3 H14 np3 e14 hp14 => ?_⟩
        walk_at "go"
        exact ⟨p3, rfl, hp14, fun H15 _ => q H15⟩
      · walk_at "go"
        exact q H13
    · walk_at "go"
      refine r_tIf ?_
      walk_at "go"
      refine ⟨p, 6, rfl, by decide, by decide, hp11, fun v H13 v0 v1 e13 hp13 => ?_⟩
      have sq13 := sq_fresh hs np sq11 e13
      walk_at "go"
      refine r_ite (fun c => ?_) (fun c => ?_)
      · walk_at "go"
        refine ⟨s, ns, 1, rfl, sq13, by decide, hl, fun p3 H14 np3 e14 hp14 => ?_⟩
        walk_at "go"
        exact ⟨p3, rfl, hp14, fun H15 _ => q H15⟩
      · walk_at "go"
        exact q H13
end
end K07
namespace K07
open PySem PySem.Spec PyProof.Rows L2 Evl Lay
theorem all_mk {l : PySem.W.OpenLaw} {w : World} {K : PySem.W.Frag} {h : Heap} {mg : Str → Option Value} {fa : Addr} (X : K.In h) (G : h.Ns mainGlobals mg) (hfa : mg "law" = some (.ref fa))
    {tWs : Tok}
    {tW : Tok}
    {tR : Tok}
    {a_SIGNS_OF_FIGURE : Addr} {tSIGNS_OF_FIGURE0 tSIGNS_OF_FIGURE1 tSIGNS_OF_FIGURE2 tSIGNS_OF_FIGURE3 tSIGNS_OF_FIGURE4 tSIGNS_OF_FIGURE5 tSIGNS_OF_FIGURE6 tSIGNS_OF_FIGURE7 tSIGNS_OF_FIGURE8 tSIGNS_OF_FIGURE9 : Tok} {d_SIGNS_OF_FIGURE : Option Addr} {c_SIGNS_OF_FIGURE : Nat} {s_SIGNS_OF_FIGURE : Array (Option Value)}
    {CB : Addr}
    {CT fT NT : Addr} {nmT qT : Str} {bsT : List Value} {snT : List Str} {subT : List Value} {abT : Bool} {colT : Option Bool} {ddT odT anT : Option Addr} {maT mbT mcT mdT meT : Option Value} {ocT dcT pmT cdT ctT kvT : Value} {slT : Array (Option Value)}
    {CW fW NW : Addr} {nmW qW : Str} {bsW : List Value} {snW : List Str} {subW : List Value} {abW : Bool} {colW : Option Bool} {ddW odW anW : Option Addr} {maW mbW mcW mdW meW : Option Value} {ocW dcW pmW cdW ctW kvW : Value} {slW : Array (Option Value)}
    {p1 : Addr} {e1 n1 : Option Addr} {v1 : Array (Option Value)} {o1 k1 d1 m1 c1 t1 : Value}
    {p2 : Addr} {e2 n2 : Option Addr} {v2 : Array (Option Value)} {o2 k2 d2 m2 c2 t2 : Value}
    {p3 : Addr} {e3 n3 : Option Addr} {v3 : Array (Option Value)} {o3 k3 d3 m3 c3 t3 : Value}
    {p4 : Addr} {e4 n4 : Option Addr} {v4 : Array (Option Value)} {o4 k4 d4 m4 c4 t4 : Value}
    {p5 : Addr} {e5 n5 : Option Addr} {v5 : Array (Option Value)} {o5 k5 d5 m5 c5 t5 : Value}
    {p6 : Addr} {e6 n6 : Option Addr} {v6 : Array (Option Value)} {o6 k6 d6 m6 c6 t6 : Value}
    {p7 : Addr} {e7 n7 : Option Addr} {v7 : Array (Option Value)} {o7 k7 d7 m7 c7 t7 : Value}
    {p8 : Addr} {e8 n8 : Option Addr} {v8 : Array (Option Value)} {o8 k8 d8 m8 c8 t8 : Value}
    {p9 : Addr} {e9 n9 : Option Addr} {v9 : Array (Option Value)} {o9 k9 d9 m9 c9 t9 : Value}
    {p10 : Addr} {e10 n10 : Option Addr} {v10 : Array (Option Value)} {o10 k10 d10 m10 c10 t10 : Value}
    {p11 : Addr} {e11 n11 : Option Addr} {v11 : Array (Option Value)} {o11 k11 d11 m11 c11 t11 : Value}
    {p12 : Addr} {e12 n12 : Option Addr} {v12 : Array (Option Value)} {o12 k12 d12 m12 c12 t12 : Value}
    {p13 : Addr} {e13 n13 : Option Addr} {v13 : Array (Option Value)} {o13 k13 d13 m13 c13 t13 : Value}
    {p14 : Addr} {e14 n14 : Option Addr} {v14 : Array (Option Value)} {o14 k14 d14 m14 c14 t14 : Value}
    {p15 : Addr} {e15 n15 : Option Addr} {v15 : Array (Option Value)} {o15 k15 d15 m15 c15 t15 : Value}
    {p16 : Addr} {e16 n16 : Option Addr} {v16 : Array (Option Value)} {o16 k16 d16 m16 c16 t16 : Value}
    {p17 : Addr} {e17 n17 : Option Addr} {v17 : Array (Option Value)} {o17 k17 d17 m17 c17 t17 : Value}
    {p18 : Addr} {e18 n18 : Option Addr} {v18 : Array (Option Value)} {o18 k18 d18 m18 c18 t18 : Value}
    {p19 : Addr} {e19 n19 : Option Addr} {v19 : Array (Option Value)} {o19 k19 d19 m19 c19 t19 : Value}
    {p20 : Addr} {e20 n20 : Option Addr} {v20 : Array (Option Value)} {o20 k20 d20 m20 c20 t20 : Value}
    {p21 : Addr} {e21 n21 : Option Addr} {v21 : Array (Option Value)} {o21 k21 d21 m21 c21 t21 : Value}
    {p22 : Addr} {e22 n22 : Option Addr} {v22 : Array (Option Value)} {o22 k22 d22 m22 c22 t22 : Value}
    {p23 : Addr} {e23 n23 : Option Addr} {v23 : Array (Option Value)} {o23 k23 d23 m23 c23 t23 : Value}
    {p24 : Addr} {e24 n24 : Option Addr} {v24 : Array (Option Value)} {o24 k24 d24 m24 c24 t24 : Value}
    {p25 : Addr} {e25 n25 : Option Addr} {v25 : Array (Option Value)} {o25 k25 d25 m25 c25 t25 : Value}
    {p26 : Addr} {e26 n26 : Option Addr} {v26 : Array (Option Value)} {o26 k26 d26 m26 c26 t26 : Value}
    {p27 : Addr} {e27 n27 : Option Addr} {v27 : Array (Option Value)} {o27 k27 d27 m27 c27 t27 : Value}
    {p28 : Addr} {e28 n28 : Option Addr} {v28 : Array (Option Value)} {o28 k28 d28 m28 c28 t28 : Value}
    {p29 : Addr} {e29 n29 : Option Addr} {v29 : Array (Option Value)} {o29 k29 d29 m29 c29 t29 : Value}
    {p30 : Addr} {e30 n30 : Option Addr} {v30 : Array (Option Value)} {o30 k30 d30 m30 c30 t30 : Value}
    {p31 : Addr} {e31 n31 : Option Addr} {v31 : Array (Option Value)} {o31 k31 d31 m31 c31 t31 : Value}
    {p32 : Addr} {e32 n32 : Option Addr} {v32 : Array (Option Value)} {o32 k32 d32 m32 c32 t32 : Value}
    {p33 : Addr} {e33 n33 : Option Addr} {v33 : Array (Option Value)} {o33 k33 d33 m33 c33 t33 : Value}
    {p34 : Addr} {e34 n34 : Option Addr} {v34 : Array (Option Value)} {o34 k34 d34 m34 c34 t34 : Value}
    {pL : Addr} {eL nL : Option Addr} {vL : Array (Option Value)} {oL kL dL mL cL tL : Value}
    (z_abs : PySem.W.nsIn K mainGlobals "abs" = some none)
    (z_bool : PySem.W.nsIn K mainGlobals "bool" = some none)
    (z_enumerate : PySem.W.nsIn K mainGlobals "enumerate" = some none)
    (z_int : PySem.W.nsIn K mainGlobals "int" = some none)
    (z_isinstance : PySem.W.nsIn K mainGlobals "isinstance" = some none)
    (z_len : PySem.W.nsIn K mainGlobals "len" = some none)
    (z_list : PySem.W.nsIn K mainGlobals "list" = some none)
    (z_max : PySem.W.nsIn K mainGlobals "max" = some none)
    (z_min : PySem.W.nsIn K mainGlobals "min" = some none)
    (z_range : PySem.W.nsIn K mainGlobals "range" = some none)
    (z_str : PySem.W.nsIn K mainGlobals "str" = some none)
    (z_sum : PySem.W.nsIn K mainGlobals "sum" = some none)
    (z_tuple : PySem.W.nsIn K mainGlobals "tuple" = some none)
    (g_WIDTHS : PySem.W.nsIn K mainGlobals "WIDTHS" = some (some (.int 4000 tWs)))
    (g_WIDTH : PySem.W.nsIn K mainGlobals "WIDTH" = some (some (.int 400 tW)))
    (g_MOST_ROMAN : PySem.W.nsIn K mainGlobals "MOST_ROMAN" = some (some (.int 3999 tR)))
    (g_SIGNS_OF_FIGURE : PySem.W.nsIn K mainGlobals "SIGNS_OF_FIGURE" = some (some (.ref a_SIGNS_OF_FIGURE)))
    (l_SIGNS_OF_FIGURE : K.lookup a_SIGNS_OF_FIGURE = some ⟨.type "tuple", d_SIGNS_OF_FIGURE, .seq #[.int 0 tSIGNS_OF_FIGURE0, .int 1 tSIGNS_OF_FIGURE1, .int 2 tSIGNS_OF_FIGURE2, .int 3 tSIGNS_OF_FIGURE3, .int 2 tSIGNS_OF_FIGURE4, .int 1 tSIGNS_OF_FIGURE5, .int 2 tSIGNS_OF_FIGURE6, .int 3 tSIGNS_OF_FIGURE7, .int 4 tSIGNS_OF_FIGURE8, .int 2 tSIGNS_OF_FIGURE9] c_SIGNS_OF_FIGURE, s_SIGNS_OF_FIGURE⟩)
    (aB : PySem.W.nsIn K mainGlobals "ComesError" = some (some (.ref CB)))
    (rB : PySem.W.readsIn K CB (.type "type") = true)
    (sB : PySem.W.specialIn K (.ref CB) "__getattribute__" = some (some (.builtin "type.__getattribute__")))
    (vB : PySem.W.findCls K (.ref CB) (.type "type") "__init__" = some (.val (.builtin "ValueError.__init__")))
    (aT : PySem.W.nsIn K mainGlobals "TooMany" = some (some (.ref CT)))
    (xT : K.lookup CT = some (excClassObj nmT qT CT NT bsT [.ref CB, .type "ValueError", .type "Exception", .type "BaseException", .type "object"] true snT subT abT colT ddT maT mbT mcT mdT meT "ValueError.__new__"))
    (saT : PySem.W.findIn K (.ref CT) "__setattr__" = some (some (.builtin "object.__setattr__")))
    (gaT : PySem.W.findIn K (.ref CT) "__getattribute__" = some (some (.builtin "BaseException.__getattribute__")))
    (ggT : PySem.W.findIn K (.ref CT) "__getattr__" = some none)
    (noT : PySem.W.findIn K (.ref CT) "what" = some none)
    (iT : PySem.W.findIn K (.ref CT) "__init__" = some (some (.ref fT)))
    (tyT : PySem.W.typeIn K (.ref fT) = some (.type "function"))
    (lT : K.lookup fT = some ⟨ocT, odT, .func (PySem.W.fnOf "__init__" "TooMany.__init__" (defArgs s_TooMany___init__) (defBody s_TooMany___init__) (defScope s_TooMany___init__) .none kvT dcT pmT anT cdT ctT), slT⟩)
    (cT : PySem.W.codeIn K cdT "TooMany.__init__" = true)
    (kfT : PySem.W.keepIn K (.ref fT) = true)
    (kCT : PySem.W.keepIn K (.ref CT) = true)
    (eCT : PySem.W.subIn K (.ref CT) (.type "BaseException") = some true)
    (tCT : PySem.W.typeIn K (.ref CT) = some (.type "type"))
    (hCT : PySem.W.hasDictIn K CT = true)
    (iCT : PySem.W.isClsIn K CT = true)
    (sCT : PySem.W.subIn K (.ref CT) (.ref CT) = some true)
    (aW : PySem.W.nsIn K mainGlobals "BadWords" = some (some (.ref CW)))
    (xW : K.lookup CW = some (excClassObj nmW qW CW NW bsW [.ref CB, .type "ValueError", .type "Exception", .type "BaseException", .type "object"] true snW subW abW colW ddW maW mbW mcW mdW meW "ValueError.__new__"))
    (saW : PySem.W.findIn K (.ref CW) "__setattr__" = some (some (.builtin "object.__setattr__")))
    (gaW : PySem.W.findIn K (.ref CW) "__getattribute__" = some (some (.builtin "BaseException.__getattribute__")))
    (ggW : PySem.W.findIn K (.ref CW) "__getattr__" = some none)
    (noW : PySem.W.findIn K (.ref CW) "place" = some none)
    (iW : PySem.W.findIn K (.ref CW) "__init__" = some (some (.ref fW)))
    (tyW : PySem.W.typeIn K (.ref fW) = some (.type "function"))
    (lW : K.lookup fW = some ⟨ocW, odW, .func (PySem.W.fnOf "__init__" "BadWords.__init__" (defArgs s_BadWords___init__) (defBody s_BadWords___init__) (defScope s_BadWords___init__) .none kvW dcW pmW anW cdW ctW), slW⟩)
    (cW : PySem.W.codeIn K cdW "BadWords.__init__" = true)
    (kfW : PySem.W.keepIn K (.ref fW) = true)
    (kCW : PySem.W.keepIn K (.ref CW) = true)
    (eCW : PySem.W.subIn K (.ref CW) (.type "BaseException") = some true)
    (tCW : PySem.W.typeIn K (.ref CW) = some (.type "type"))
    (hCW : PySem.W.hasDictIn K CW = true)
    (iCW : PySem.W.isClsIn K CW = true)
    (sCW : PySem.W.subIn K (.ref CW) (.ref CW) = some true)
    (nTW : PySem.W.subIn K (.ref CT) (.ref CW) = some false)
    (a1 : PySem.W.nsIn K mainGlobals "is_whole" = some (some (.ref p1)))
    (l1 : K.lookup p1 = some ⟨o1, e1, .func (PySem.W.fnOf "is_whole" "is_whole" (defArgs s_is_whole) (defBody s_is_whole) (defScope s_is_whole) .none k1 d1 m1 n1 c1 t1), v1⟩)
    (c1x : PySem.W.codeIn K c1 "is_whole" = true)
    (k1x : PySem.W.keepIn K (.ref p1) = true)
    (a2 : PySem.W.nsIn K mainGlobals "whole_from" = some (some (.ref p2)))
    (l2 : K.lookup p2 = some ⟨o2, e2, .func (PySem.W.fnOf "whole_from" "whole_from" (defArgs s_whole_from) (defBody s_whole_from) (defScope s_whole_from) .none k2 d2 m2 n2 c2 t2), v2⟩)
    (c2x : PySem.W.codeIn K c2 "whole_from" = true)
    (k2x : PySem.W.keepIn K (.ref p2) = true)
    (a3 : PySem.W.nsIn K mainGlobals "check_most" = some (some (.ref p3)))
    (l3 : K.lookup p3 = some ⟨o3, e3, .func (PySem.W.fnOf "check_most" "check_most" (defArgs s_check_most) (defBody s_check_most) (defScope s_check_most) .none k3 d3 m3 n3 c3 t3), v3⟩)
    (c3x : PySem.W.codeIn K c3 "check_most" = true)
    (k3x : PySem.W.keepIn K (.ref p3) = true)
    (a4 : PySem.W.nsIn K mainGlobals "check_numbers" = some (some (.ref p4)))
    (l4 : K.lookup p4 = some ⟨o4, e4, .func (PySem.W.fnOf "check_numbers" "check_numbers" (defArgs s_check_numbers) (defBody s_check_numbers) (defScope s_check_numbers) .none k4 d4 m4 n4 c4 t4), v4⟩)
    (c4x : PySem.W.codeIn K c4 "check_numbers" = true)
    (k4x : PySem.W.keepIn K (.ref p4) = true)
    (a5 : PySem.W.nsIn K mainGlobals "check_line" = some (some (.ref p5)))
    (l5 : K.lookup p5 = some ⟨o5, e5, .func (PySem.W.fnOf "check_line" "check_line" (defArgs s_check_line) (defBody s_check_line) (defScope s_check_line) .none k5 d5 m5 n5 c5 t5), v5⟩)
    (c5x : PySem.W.codeIn K c5 "check_line" = true)
    (k5x : PySem.W.keepIn K (.ref p5) = true)
    (a6 : PySem.W.nsIn K mainGlobals "bound_widths" = some (some (.ref p6)))
    (l6 : K.lookup p6 = some ⟨o6, e6, .func (PySem.W.fnOf "bound_widths" "bound_widths" (defArgs s_bound_widths) (defBody s_bound_widths) (defScope s_bound_widths) .none k6 d6 m6 n6 c6 t6), v6⟩)
    (c6x : PySem.W.codeIn K c6 "bound_widths" = true)
    (k6x : PySem.W.keepIn K (.ref p6) = true)
    (a7 : PySem.W.nsIn K mainGlobals "check_widths" = some (some (.ref p7)))
    (l7 : K.lookup p7 = some ⟨o7, e7, .func (PySem.W.fnOf "check_widths" "check_widths" (defArgs s_check_widths) (defBody s_check_widths) (defScope s_check_widths) .none k7 d7 m7 n7 c7 t7), v7⟩)
    (c7x : PySem.W.codeIn K c7 "check_widths" = true)
    (k7x : PySem.W.keepIn K (.ref p7) = true)
    (a8 : PySem.W.nsIn K mainGlobals "stretch_ends" = some (some (.ref p8)))
    (l8 : K.lookup p8 = some ⟨o8, e8, .func (PySem.W.fnOf "stretch_ends" "stretch_ends" (defArgs s_stretch_ends) (defBody s_stretch_ends) (defScope s_stretch_ends) .none k8 d8 m8 n8 c8 t8), v8⟩)
    (c8x : PySem.W.codeIn K c8 "stretch_ends" = true)
    (k8x : PySem.W.keepIn K (.ref p8) = true)
    (a9 : PySem.W.nsIn K mainGlobals "parting_widths" = some (some (.ref p9)))
    (l9 : K.lookup p9 = some ⟨o9, e9, .func (PySem.W.fnOf "parting_widths" "parting_widths" (defArgs s_parting_widths) (defBody s_parting_widths) (defScope s_parting_widths) .none k9 d9 m9 n9 c9 t9), v9⟩)
    (c9x : PySem.W.codeIn K c9 "parting_widths" = true)
    (k9x : PySem.W.keepIn K (.ref p9) = true)
    (a10 : PySem.W.nsIn K mainGlobals "parted_words" = some (some (.ref p10)))
    (l10 : K.lookup p10 = some ⟨o10, e10, .func (PySem.W.fnOf "parted_words" "parted_words" (defArgs s_parted_words) (defBody s_parted_words) (defScope s_parted_words) .none k10 d10 m10 n10 c10 t10), v10⟩)
    (c10x : PySem.W.codeIn K c10 "parted_words" = true)
    (k10x : PySem.W.keepIn K (.ref p10) = true)
    (a11 : PySem.W.nsIn K mainGlobals "check_many" = some (some (.ref p11)))
    (l11 : K.lookup p11 = some ⟨o11, e11, .func (PySem.W.fnOf "check_many" "check_many" (defArgs s_check_many) (defBody s_check_many) (defScope s_check_many) .none k11 d11 m11 n11 c11 t11), v11⟩)
    (c11x : PySem.W.codeIn K c11 "check_many" = true)
    (k11x : PySem.W.keepIn K (.ref p11) = true)
    (a12 : PySem.W.nsIn K mainGlobals "figure_widths" = some (some (.ref p12)))
    (l12 : K.lookup p12 = some ⟨o12, e12, .func (PySem.W.fnOf "figure_widths" "figure_widths" (defArgs s_figure_widths) (defBody s_figure_widths) (defScope s_figure_widths) .none k12 d12 m12 n12 c12 t12), v12⟩)
    (c12x : PySem.W.codeIn K c12 "figure_widths" = true)
    (k12x : PySem.W.keepIn K (.ref p12) = true)
    (a13 : PySem.W.nsIn K mainGlobals "roman_width" = some (some (.ref p13)))
    (l13 : K.lookup p13 = some ⟨o13, e13, .func (PySem.W.fnOf "roman_width" "roman_width" (defArgs s_roman_width) (defBody s_roman_width) (defScope s_roman_width) .none k13 d13 m13 n13 c13 t13), v13⟩)
    (c13x : PySem.W.codeIn K c13 "roman_width" = true)
    (k13x : PySem.W.keepIn K (.ref p13) = true)
    (a14 : PySem.W.nsIn K mainGlobals "roman_widths" = some (some (.ref p14)))
    (l14 : K.lookup p14 = some ⟨o14, e14, .func (PySem.W.fnOf "roman_widths" "roman_widths" (defArgs s_roman_widths) (defBody s_roman_widths) (defScope s_roman_widths) .none k14 d14 m14 n14 c14 t14), v14⟩)
    (c14x : PySem.W.codeIn K c14 "roman_widths" = true)
    (k14x : PySem.W.keepIn K (.ref p14) = true)
    (a15 : PySem.W.nsIn K mainGlobals "_law_figures" = some (some (.ref p15)))
    (l15 : K.lookup p15 = some ⟨o15, e15, .func (PySem.W.fnOf "_law_figures" "_law_figures" (defArgs s__law_figures) (defBody s__law_figures) (defScope s__law_figures) .none k15 d15 m15 n15 c15 t15), v15⟩)
    (c15x : PySem.W.codeIn K c15 "_law_figures" = true)
    (k15x : PySem.W.keepIn K (.ref p15) = true)
    (a16 : PySem.W.nsIn K mainGlobals "_law_roman" = some (some (.ref p16)))
    (l16 : K.lookup p16 = some ⟨o16, e16, .func (PySem.W.fnOf "_law_roman" "_law_roman" (defArgs s__law_roman) (defBody s__law_roman) (defScope s__law_roman) .none k16 d16 m16 n16 c16 t16), v16⟩)
    (c16x : PySem.W.codeIn K c16 "_law_roman" = true)
    (k16x : PySem.W.keepIn K (.ref p16) = true)
    (a17 : PySem.W.nsIn K mainGlobals "_law_purse" = some (some (.ref p17)))
    (l17 : K.lookup p17 = some ⟨o17, e17, .func (PySem.W.fnOf "_law_purse" "_law_purse" (defArgs s__law_purse) (defBody s__law_purse) (defScope s__law_purse) .none k17 d17 m17 n17 c17 t17), v17⟩)
    (c17x : PySem.W.codeIn K c17 "_law_purse" = true)
    (k17x : PySem.W.keepIn K (.ref p17) = true)
    (a18 : PySem.W.nsIn K mainGlobals "_law_draw" = some (some (.ref p18)))
    (l18 : K.lookup p18 = some ⟨o18, e18, .func (PySem.W.fnOf "_law_draw" "_law_draw" (defArgs s__law_draw) (defBody s__law_draw) (defScope s__law_draw) .none k18 d18 m18 n18 c18 t18), v18⟩)
    (c18x : PySem.W.codeIn K c18 "_law_draw" = true)
    (k18x : PySem.W.keepIn K (.ref p18) = true)
    (a19 : PySem.W.nsIn K mainGlobals "_law_whole" = some (some (.ref p19)))
    (l19 : K.lookup p19 = some ⟨o19, e19, .func (PySem.W.fnOf "_law_whole" "_law_whole" (defArgs s__law_whole) (defBody s__law_whole) (defScope s__law_whole) .none k19 d19 m19 n19 c19 t19), v19⟩)
    (c19x : PySem.W.codeIn K c19 "_law_whole" = true)
    (k19x : PySem.W.keepIn K (.ref p19) = true)
    (a20 : PySem.W.nsIn K mainGlobals "_law_list_is" = some (some (.ref p20)))
    (l20 : K.lookup p20 = some ⟨o20, e20, .func (PySem.W.fnOf "_law_list_is" "_law_list_is" (defArgs s__law_list_is) (defBody s__law_list_is) (defScope s__law_list_is) .none k20 d20 m20 n20 c20 t20), v20⟩)
    (c20x : PySem.W.codeIn K c20 "_law_list_is" = true)
    (k20x : PySem.W.keepIn K (.ref p20) = true)
    (a21 : PySem.W.nsIn K mainGlobals "_law_room" = some (some (.ref p21)))
    (l21 : K.lookup p21 = some ⟨o21, e21, .func (PySem.W.fnOf "_law_room" "_law_room" (defArgs s__law_room) (defBody s__law_room) (defScope s__law_room) .none k21 d21 m21 n21 c21 t21), v21⟩)
    (c21x : PySem.W.codeIn K c21 "_law_room" = true)
    (k21x : PySem.W.keepIn K (.ref p21) = true)
    (a22 : PySem.W.nsIn K mainGlobals "_law_filled" = some (some (.ref p22)))
    (l22 : K.lookup p22 = some ⟨o22, e22, .func (PySem.W.fnOf "_law_filled" "_law_filled" (defArgs s__law_filled) (defBody s__law_filled) (defScope s__law_filled) .none k22 d22 m22 n22 c22 t22), v22⟩)
    (c22x : PySem.W.codeIn K c22 "_law_filled" = true)
    (k22x : PySem.W.keepIn K (.ref p22) = true)
    (a23 : PySem.W.nsIn K mainGlobals "_law_tuple_is" = some (some (.ref p23)))
    (l23 : K.lookup p23 = some ⟨o23, e23, .func (PySem.W.fnOf "_law_tuple_is" "_law_tuple_is" (defArgs s__law_tuple_is) (defBody s__law_tuple_is) (defScope s__law_tuple_is) .none k23 d23 m23 n23 c23 t23), v23⟩)
    (c23x : PySem.W.codeIn K c23 "_law_tuple_is" = true)
    (k23x : PySem.W.keepIn K (.ref p23) = true)
    (a24 : PySem.W.nsIn K mainGlobals "_law_stretch" = some (some (.ref p24)))
    (l24 : K.lookup p24 = some ⟨o24, e24, .func (PySem.W.fnOf "_law_stretch" "_law_stretch" (defArgs s__law_stretch) (defBody s__law_stretch) (defScope s__law_stretch) .none k24 d24 m24 n24 c24 t24), v24⟩)
    (c24x : PySem.W.codeIn K c24 "_law_stretch" = true)
    (k24x : PySem.W.keepIn K (.ref p24) = true)
    (a25 : PySem.W.nsIn K mainGlobals "_law_refusal" = some (some (.ref p25)))
    (l25 : K.lookup p25 = some ⟨o25, e25, .func (PySem.W.fnOf "_law_refusal" "_law_refusal" (defArgs s__law_refusal) (defBody s__law_refusal) (defScope s__law_refusal) .none k25 d25 m25 n25 c25 t25), v25⟩)
    (c25x : PySem.W.codeIn K c25 "_law_refusal" = true)
    (k25x : PySem.W.keepIn K (.ref p25) = true)
    (a26 : PySem.W.nsIn K mainGlobals "_law_numerals" = some (some (.ref p26)))
    (l26 : K.lookup p26 = some ⟨o26, e26, .func (PySem.W.fnOf "_law_numerals" "_law_numerals" (defArgs s__law_numerals) (defBody s__law_numerals) (defScope s__law_numerals) .none k26 d26 m26 n26 c26 t26), v26⟩)
    (c26x : PySem.W.codeIn K c26 "_law_numerals" = true)
    (k26x : PySem.W.keepIn K (.ref p26) = true)
    (a27 : PySem.W.nsIn K mainGlobals "_law_great_numerals" = some (some (.ref p27)))
    (l27 : K.lookup p27 = some ⟨o27, e27, .func (PySem.W.fnOf "_law_great_numerals" "_law_great_numerals" (defArgs s__law_great_numerals) (defBody s__law_great_numerals) (defScope s__law_great_numerals) .none k27 d27 m27 n27 c27 t27), v27⟩)
    (c27x : PySem.W.codeIn K c27 "_law_great_numerals" = true)
    (k27x : PySem.W.keepIn K (.ref p27) = true)
    (a28 : PySem.W.nsIn K mainGlobals "_law_between" = some (some (.ref p28)))
    (l28 : K.lookup p28 = some ⟨o28, e28, .func (PySem.W.fnOf "_law_between" "_law_between" (defArgs s__law_between) (defBody s__law_between) (defScope s__law_between) .none k28 d28 m28 n28 c28 t28), v28⟩)
    (c28x : PySem.W.codeIn K c28 "_law_between" = true)
    (k28x : PySem.W.keepIn K (.ref p28) = true)
    (a29 : PySem.W.nsIn K mainGlobals "_law_parts" = some (some (.ref p29)))
    (l29 : K.lookup p29 = some ⟨o29, e29, .func (PySem.W.fnOf "_law_parts" "_law_parts" (defArgs s__law_parts) (defBody s__law_parts) (defScope s__law_parts) .none k29 d29 m29 n29 c29 t29), v29⟩)
    (c29x : PySem.W.codeIn K c29 "_law_parts" = true)
    (k29x : PySem.W.keepIn K (.ref p29) = true)
    (a30 : PySem.W.nsIn K mainGlobals "_law_shown" = some (some (.ref p30)))
    (l30 : K.lookup p30 = some ⟨o30, e30, .func (PySem.W.fnOf "_law_shown" "_law_shown" (defArgs s__law_shown) (defBody s__law_shown) (defScope s__law_shown) .none k30 d30 m30 n30 c30 t30), v30⟩)
    (c30x : PySem.W.codeIn K c30 "_law_shown" = true)
    (k30x : PySem.W.keepIn K (.ref p30) = true)
    (a31 : PySem.W.nsIn K mainGlobals "_law_searched" = some (some (.ref p31)))
    (l31 : K.lookup p31 = some ⟨o31, e31, .func (PySem.W.fnOf "_law_searched" "_law_searched" (defArgs s__law_searched) (defBody s__law_searched) (defScope s__law_searched) .none k31 d31 m31 n31 c31 t31), v31⟩)
    (c31x : PySem.W.codeIn K c31 "_law_searched" = true)
    (k31x : PySem.W.keepIn K (.ref p31) = true)
    (a32 : PySem.W.nsIn K mainGlobals "_law_couples" = some (some (.ref p32)))
    (l32 : K.lookup p32 = some ⟨o32, e32, .func (PySem.W.fnOf "_law_couples" "_law_couples" (defArgs s__law_couples) (defBody s__law_couples) (defScope s__law_couples) .none k32 d32 m32 n32 c32 t32), v32⟩)
    (c32x : PySem.W.codeIn K c32 "_law_couples" = true)
    (k32x : PySem.W.keepIn K (.ref p32) = true)
    (a33 : PySem.W.nsIn K mainGlobals "_law_wrong" = some (some (.ref p33)))
    (l33 : K.lookup p33 = some ⟨o33, e33, .func (PySem.W.fnOf "_law_wrong" "_law_wrong" (defArgs s__law_wrong) (defBody s__law_wrong) (defScope s__law_wrong) .none k33 d33 m33 n33 c33 t33), v33⟩)
    (c33x : PySem.W.codeIn K c33 "_law_wrong" = true)
    (k33x : PySem.W.keepIn K (.ref p33) = true)
    (a34 : PySem.W.nsIn K mainGlobals "_law_great" = some (some (.ref p34)))
    (l34 : K.lookup p34 = some ⟨o34, e34, .func (PySem.W.fnOf "_law_great" "_law_great" (defArgs s__law_great) (defBody s__law_great) (defScope s__law_great) .none k34 d34 m34 n34 c34 t34), v34⟩)
    (c34x : PySem.W.codeIn K c34 "_law_great" = true)
    (k34x : PySem.W.keepIn K (.ref p34) = true)
    (aL : PySem.W.nsIn K mainGlobals "law" = some (some (.ref pL)))
    (lL : K.lookup pL = some ⟨oL, eL, .func (PySem.W.fnOf "law" "law" (defArgs s_law) (defBody s_law) (defScope s_law) .none kL dL mL nL cL tL), vL⟩)
    (cLx : PySem.W.codeIn K cL "law" = true)
    (kLx : PySem.W.keepIn K (.ref pL) = true)
    : ∃ fd : FuncData, (∀ (s : Shared) (v : Value), BindsTo s fd ⟨[v], []⟩ [("script", v)]) ∧ ∀ base : Heap, K.In base → base.Ns mainGlobals mg → FnOk l.prog w K mg base (L2.CX l.prog w) 9 fa fd ["script"] (spLaw K) := by
  have ef := hfa.symm.trans (PySem.W.mg_of X G aL)
  cases ef
  have T : Txt K mg CB tWs tW tR a_SIGNS_OF_FIGURE := { n_abs := PySem.W.mg_none_of X G z_abs, n_bool := PySem.W.mg_none_of X G z_bool, n_enumerate := PySem.W.mg_none_of X G z_enumerate, n_int := PySem.W.mg_none_of X G z_int, n_isinstance := PySem.W.mg_none_of X G z_isinstance, n_len := PySem.W.mg_none_of X G z_len, n_list := PySem.W.mg_none_of X G z_list, n_max := PySem.W.mg_none_of X G z_max, n_min := PySem.W.mg_none_of X G z_min, n_range := PySem.W.mg_none_of X G z_range, n_str := PySem.W.mg_none_of X G z_str, n_sum := PySem.W.mg_none_of X G z_sum, n_tuple := PySem.W.mg_none_of X G z_tuple, g_WIDTHS := PySem.W.mg_of X G g_WIDTHS, g_WIDTH := PySem.W.mg_of X G g_WIDTH, g_MOST_ROMAN := PySem.W.mg_of X G g_MOST_ROMAN, g_ComesError := PySem.W.mg_of X G aB, rd_ComesError := ⟨rB, sB⟩, vi_ComesError := vB, g_SIGNS_OF_FIGURE := PySem.W.mg_of X G g_SIGNS_OF_FIGURE, q_SIGNS_OF_FIGURE := fun _ => .inr ⟨_, _, _, l_SIGNS_OF_FIGURE, rfl, rfl, sz_of (Nat.le_of_ble_eq_true rfl), (.cons ⟨_, rfl⟩ (.cons ⟨_, rfl⟩ (.cons ⟨_, rfl⟩ (.cons ⟨_, rfl⟩ (.cons ⟨_, rfl⟩ (.cons ⟨_, rfl⟩ (.cons ⟨_, rfl⟩ (.cons ⟨_, rfl⟩ (.cons ⟨_, rfl⟩ (.cons ⟨_, rfl⟩ .nil))))))))))⟩ }
  have A_is_whole : At K mg "is_whole" s_is_whole ["value"] := at_mk X G a1 l1 c1x k1x (fun _ _ _ _ _ _ us hl => match us, hl with | [_], _ => rfl)
  have A_whole_from : At K mg "whole_from" s_whole_from ["value", "least"] := at_mk X G a2 l2 c2x k2x (fun _ _ _ _ _ _ us hl => match us, hl with | [_, _], _ => rfl)
  have A_check_most : At K mg "check_most" s_check_most ["what", "many", "most"] := at_mk X G a3 l3 c3x k3x (fun _ _ _ _ _ _ us hl => match us, hl with | [_, _, _], _ => rfl)
  have A_check_numbers : At K mg "check_numbers" s_check_numbers ["what", "numbers", "most"] := at_mk X G a4 l4 c4x k4x (fun _ _ _ _ _ _ us hl => match us, hl with | [_, _, _], _ => rfl)
  have A_check_line : At K mg "check_line" s_check_line ["width"] := at_mk X G a5 l5 c5x k5x (fun _ _ _ _ _ _ us hl => match us, hl with | [_], _ => rfl)
  have A_bound_widths : At K mg "bound_widths" s_bound_widths ["widths"] := at_mk X G a6 l6 c6x k6x (fun _ _ _ _ _ _ us hl => match us, hl with | [_], _ => rfl)
  have A_check_widths : At K mg "check_widths" s_check_widths ["widths"] := at_mk X G a7 l7 c7x k7x (fun _ _ _ _ _ _ us hl => match us, hl with | [_], _ => rfl)
  have A_stretch_ends : At K mg "stretch_ends" s_stretch_ends ["one", "other", "top"] := at_mk X G a8 l8 c8x k8x (fun _ _ _ _ _ _ us hl => match us, hl with | [_, _, _], _ => rfl)
  have A_parting_widths : At K mg "parting_widths" s_parting_widths ["widths", "P", "Q"] := at_mk X G a9 l9 c9x k9x (fun _ _ _ _ _ _ us hl => match us, hl with | [_, _, _], _ => rfl)
  have A_parted_words : At K mg "parted_words" s_parted_words ["a", "b", "width"] := at_mk X G a10 l10 c10x k10x (fun _ _ _ _ _ _ us hl => match us, hl with | [_, _, _], _ => rfl)
  have A_check_many : At K mg "check_many" s_check_many ["cells"] := at_mk X G a11 l11 c11x k11x (fun _ _ _ _ _ _ us hl => match us, hl with | [_], _ => rfl)
  have A_figure_widths : At K mg "figure_widths" s_figure_widths ["cells"] := at_mk X G a12 l12 c12x k12x (fun _ _ _ _ _ _ us hl => match us, hl with | [_], _ => rfl)
  have A_roman_width : At K mg "roman_width" s_roman_width ["number"] := at_mk X G a13 l13 c13x k13x (fun _ _ _ _ _ _ us hl => match us, hl with | [_], _ => rfl)
  have A_roman_widths : At K mg "roman_widths" s_roman_widths ["cells"] := at_mk X G a14 l14 c14x k14x (fun _ _ _ _ _ _ us hl => match us, hl with | [_], _ => rfl)
  have A__law_figures : At K mg "_law_figures" s__law_figures ["number"] := at_mk X G a15 l15 c15x k15x (fun _ _ _ _ _ _ us hl => match us, hl with | [_], _ => rfl)
  have A__law_roman : At K mg "_law_roman" s__law_roman ["number"] := at_mk X G a16 l16 c16x k16x (fun _ _ _ _ _ _ us hl => match us, hl with | [_], _ => rfl)
  have A__law_purse : At K mg "_law_purse" s__law_purse ["script", "at"] := at_mk X G a17 l17 c17x k17x (fun _ _ _ _ _ _ us hl => match us, hl with | [_, _], _ => rfl)
  have A__law_draw : At K mg "_law_draw" s__law_draw ["purse", "many"] := at_mk X G a18 l18 c18x k18x (fun _ _ _ _ _ _ us hl => match us, hl with | [_, _], _ => rfl)
  have A__law_whole : At K mg "_law_whole" s__law_whole ["value"] := at_mk X G a19 l19 c19x k19x (fun _ _ _ _ _ _ us hl => match us, hl with | [_], _ => rfl)
  have A__law_list_is : At K mg "_law_list_is" s__law_list_is ["told", "due"] := at_mk X G a20 l20 c20x k20x (fun _ _ _ _ _ _ us hl => match us, hl with | [_, _], _ => rfl)
  have A__law_room : At K mg "_law_room" s__law_room ["words", "begin", "end"] := at_mk X G a21 l21 c21x k21x (fun _ _ _ _ _ _ us hl => match us, hl with | [_, _, _], _ => rfl)
  have A__law_filled : At K mg "_law_filled" s__law_filled ["words", "width"] := at_mk X G a22 l22 c22x k22x (fun _ _ _ _ _ _ us hl => match us, hl with | [_, _], _ => rfl)
  have A__law_tuple_is : At K mg "_law_tuple_is" s__law_tuple_is ["told", "due"] := at_mk X G a23 l23 c23x k23x (fun _ _ _ _ _ _ us hl => match us, hl with | [_, _], _ => rfl)
  have A__law_stretch : At K mg "_law_stretch" s__law_stretch ["widths", "P", "Q"] := at_mk X G a24 l24 c24x k24x (fun _ _ _ _ _ _ us hl => match us, hl with | [_, _, _], _ => rfl)
  have A__law_refusal : At K mg "_law_refusal" s__law_refusal ["kind", "told", "P", "Q"] := at_mk X G a25 l25 c25x k25x (fun _ _ _ _ _ _ us hl => match us, hl with | [_, _, _, _], _ => rfl)
  have A__law_numerals : At K mg "_law_numerals" s__law_numerals ["purse", "cells"] := at_mk X G a26 l26 c26x k26x (fun _ _ _ _ _ _ us hl => match us, hl with | [_, _], _ => rfl)
  have A__law_great_numerals : At K mg "_law_great_numerals" s__law_great_numerals ["purse"] := at_mk X G a27 l27 c27x k27x (fun _ _ _ _ _ _ us hl => match us, hl with | [_], _ => rfl)
  have A__law_between : At K mg "_law_between" s__law_between ["u", "told", "v", "width"] := at_mk X G a28 l28 c28x k28x (fun _ _ _ _ _ _ us hl => match us, hl with | [_, _, _, _], _ => rfl)
  have A__law_parts : At K mg "_law_parts" s__law_parts ["one", "other", "width"] := at_mk X G a29 l29 c29x k29x (fun _ _ _ _ _ _ us hl => match us, hl with | [_, _, _], _ => rfl)
  have A__law_shown : At K mg "_law_shown" s__law_shown ["one", "other", "width"] := at_mk X G a30 l30 c30x k30x (fun _ _ _ _ _ _ us hl => match us, hl with | [_, _, _], _ => rfl)
  have A__law_searched : At K mg "_law_searched" s__law_searched ["widths", "P", "Q"] := at_mk X G a31 l31 c31x k31x (fun _ _ _ _ _ _ us hl => match us, hl with | [_, _, _], _ => rfl)
  have A__law_couples : At K mg "_law_couples" s__law_couples ["widths"] := at_mk X G a32 l32 c32x k32x (fun _ _ _ _ _ _ us hl => match us, hl with | [_], _ => rfl)
  have A__law_wrong : At K mg "_law_wrong" s__law_wrong ["purse", "widths"] := at_mk X G a33 l33 c33x k33x (fun _ _ _ _ _ _ us hl => match us, hl with | [_, _], _ => rfl)
  have A__law_great : At K mg "_law_great" s__law_great ["purse"] := at_mk X G a34 l34 c34x k34x (fun _ _ _ _ _ _ us hl => match us, hl with | [_], _ => rfl)
  have FL := fun_mk (st := s_law) lL cLx kLx
  refine ⟨PySem.W.fnOf "law" "law" (defArgs s_law) (defBody s_law) (defScope s_law) .none kL dL mL nL cL tL, fun s v => .of_eq rfl, fun base _ _ => ?_⟩
  have oT : OexC K CT := ⟨⟨nmT, qT, NT, bsT, _, snT, subT, abT, colT, ddT, maT, mbT, mcT, mdT, meT, xT, rfl⟩, saT, eCT, tCT, kCT⟩
  have FT := fun_mk (st := s_TooMany___init__) lT cT kfT
  have bT := FT.binds (ps := ["self", "what"]) (fun _ _ _ _ _ _ us hl => match us, hl with | [_, _], _ => rfl)
  have x_TooMany : Exn l.prog w K mg base "TooMany" "what" CT := ⟨oT, PySem.W.mg_of X G aT, ⟨fT, _, iT, tyT, ok_initT T FT oT noT, bT⟩, ⟨gaT, ggT, eCT, hCT⟩, noT, exm_self eCT iCT tCT sCT⟩
  have oW : OexC K CW := ⟨⟨nmW, qW, NW, bsW, _, snW, subW, abW, colW, ddW, maW, mbW, mcW, mdW, meW, xW, rfl⟩, saW, eCW, tCW, kCW⟩
  have FW := fun_mk (st := s_BadWords___init__) lW cW kfW
  have bW := FW.binds (ps := ["self", "place"]) (fun _ _ _ _ _ _ us hl => match us, hl with | [_, _], _ => rfl)
  have x_BadWords : Exn l.prog w K mg base "BadWords" "place" CW := ⟨oW, PySem.W.mg_of X G aW, ⟨fW, _, iW, tyW, ok_initW T FW oW noW, bW⟩, ⟨gaW, ggW, eCW, hCW⟩, noW, exm_self eCW iCW tCW sCW⟩
  have x_TW : PySem.W.exmOne K (.ref CT) (.ref CW) = some false := exm_not eCW iCW tCW nTW
  have d_is_whole : Def l.prog w K mg base "is_whole" 1 ["value"] spIsWhole := ok_is_whole T A_is_whole
  have d_whole_from : Def l.prog w K mg base "whole_from" 2 ["value", "least"] spWholeFrom := ok_whole_from T A_whole_from d_is_whole
  have d_check_most : Def l.prog w K mg base "check_most" 3 ["what", "many", "most"] (spMost CT CW) := ok_check_most T A_check_most x_TooMany d_is_whole
  have d_check_numbers : Def l.prog w K mg base "check_numbers" 4 ["what", "numbers", "most"] (spNums K CT CW) := ok_check_numbers T A_check_numbers d_check_most
  have d_check_line : Def l.prog w K mg base "check_line" 3 ["width"] (spLine CT CW) := ok_check_line T A_check_line x_BadWords d_whole_from
  have d_bound_widths : Def l.prog w K mg base "bound_widths" 5 ["widths"] (spBW K CT CW) := ok_bound_widths T A_bound_widths d_check_most d_check_numbers
  have d_check_widths : Def l.prog w K mg base "check_widths" 3 ["widths"] (spWs K CT CW) := ok_check_widths T A_check_widths x_BadWords d_whole_from
  have d_stretch_ends : Def l.prog w K mg base "stretch_ends" 1 ["one", "other", "top"] spEnds := ok_stretch_ends T A_stretch_ends
  have d_parting_widths : Def l.prog w K mg base "parting_widths" 6 ["widths", "P", "Q"] (spPart K CT CW) := ok_parting T A_parting_widths x_BadWords d_whole_from d_bound_widths d_check_widths d_stretch_ends
  have d_parted_words : Def l.prog w K mg base "parted_words" 5 ["a", "b", "width"] (spParted K CT CW) := ok_parted T A_parted_words d_check_numbers d_check_line d_check_widths d_stretch_ends
  have d_check_many : Def l.prog w K mg base "check_many" 3 ["cells"] (spMany CT CW) := ok_check_many T A_check_many x_BadWords d_whole_from
  have d_figure_widths : Def l.prog w K mg base "figure_widths" 4 ["cells"] (spFigs CT CW 4000 figs) := ok_figures T A_figure_widths d_check_most d_check_many
  have d_roman_width : Def l.prog w K mg base "roman_width" 1 ["number"] spRomW := ok_roman_width T A_roman_width
  have d_roman_widths : Def l.prog w K mg base "roman_widths" 4 ["cells"] (spFigs CT CW 3999 roms) := ok_romans T A_roman_widths d_check_most d_check_many d_roman_width
  have d__law_figures : Def l.prog w K mg base "_law_figures" 1 ["number"] spLFig := ok_lfigures T A__law_figures
  have d__law_roman : Def l.prog w K mg base "_law_roman" 1 ["number"] spLRom := ok_lroman T A__law_roman
  have d__law_purse : Def l.prog w K mg base "_law_purse" 1 ["script", "at"] (spPurse K) := ok_purse T A__law_purse
  have d__law_draw : Def l.prog w K mg base "_law_draw" 1 ["purse", "many"] spDraw := ok_draw T A__law_draw
  have d__law_whole : Def l.prog w K mg base "_law_whole" 1 ["value"] spIsWhole := ok_whole T A__law_whole
  have d__law_list_is : Def l.prog w K mg base "_law_list_is" 2 ["told", "due"] (spListIs K) := ok_list_is T A__law_list_is d__law_whole
  have d__law_room : Def l.prog w K mg base "_law_room" 1 ["words", "begin", "end"] (spRoom K) := ok_room T A__law_room
  have d__law_filled : Def l.prog w K mg base "_law_filled" 2 ["words", "width"] (spLFilled K) := ok_lfilled T A__law_filled d__law_room
  have d__law_tuple_is : Def l.prog w K mg base "_law_tuple_is" 3 ["told", "due"] (spTupleIs K) := ok_tuple_is T A__law_tuple_is d__law_list_is
  have d__law_stretch : Def l.prog w K mg base "_law_stretch" 1 ["widths", "P", "Q"] (spLStretch K) := ok_lstretch T A__law_stretch
  have d__law_refusal : Def l.prog w K mg base "_law_refusal" 7 ["kind", "told", "P", "Q"] (spRefusal K) := ok_refusal T A__law_refusal x_TooMany x_BadWords x_TW d_figure_widths d_roman_widths d_parting_widths d_parted_words
  have d__law_numerals : Def l.prog w K mg base "_law_numerals" 8 ["purse", "cells"] spNumerals := ok_numerals T A__law_numerals d__law_draw d__law_list_is d__law_figures d__law_roman d_figure_widths d_roman_widths d__law_refusal
  have d__law_great_numerals : Def l.prog w K mg base "_law_great_numerals" 8 ["purse"] spGreatN := ok_great_numerals T A__law_great_numerals d__law_draw d__law_whole d__law_figures d__law_roman d_figure_widths d_roman_widths d__law_refusal
  have d__law_between : Def l.prog w K mg base "_law_between" 1 ["u", "told", "v", "width"] spBetween := ok_between T A__law_between
  have d__law_parts : Def l.prog w K mg base "_law_parts" 2 ["one", "other", "width"] spParts := ok_parts T A__law_parts d__law_between
  have d__law_shown : Def l.prog w K mg base "_law_shown" 6 ["one", "other", "width"] spShown := ok_shown T A__law_shown d__law_list_is d__law_filled d_parted_words
  have d__law_searched : Def l.prog w K mg base "_law_searched" 7 ["widths", "P", "Q"] (spSearched K) := ok_searched T A__law_searched d__law_tuple_is d__law_stretch d_parting_widths d__law_parts
  have d__law_couples : Def l.prog w K mg base "_law_couples" 7 ["widths"] (spCouples K) := ok_couples T A__law_couples d__law_tuple_is d__law_stretch d_parting_widths
  have d__law_wrong : Def l.prog w K mg base "_law_wrong" 8 ["purse", "widths"] (spWrong K) := ok_wrong T A__law_wrong d__law_draw d__law_refusal
  have d__law_great : Def l.prog w K mg base "_law_great" 8 ["purse"] spGreat := ok_great T A__law_great d__law_draw d__law_tuple_is d__law_stretch d_parting_widths d__law_shown d__law_refusal
  exact ok_law T FL d__law_purse d__law_draw d__law_couples d__law_wrong d__law_searched d__law_shown d__law_numerals d__law_great_numerals d__law_great
end K07

open PySem PySem.W PyProof.Rows in
set_option maxRecDepth 100000 in
set_option maxHeartbeats 0 in
theorem PySem.Challenge.cw_comestrue_k07_numerals_and_stretches_of_holds : PySem.Challenge.rw_comestrue_k07_numerals_and_stretches_of.Holds := by
  w_on; o_law; k_head; (case hw => w_witness2)
  k_fill
  refine Lay.end_of (l := PySem.Challenge.rw_comestrue_k07_numerals_and_stretches_of) (k := 9) (sp := K07.spLaw) rfl rfl ⟨rfl, by decide, by decide⟩ (fun w h Y => PySem.W.kIn_of Y) (fun K H a ns hl hS => ⟨a, ns, rfl, hS, hl, fun _ => rfl⟩) ?F
  case F =>
    intro w mg fa h KX G hmg
    refine' K07.all_mk KX G hmg ?h_z_abs ?h_z_bool ?h_z_enumerate ?h_z_int ?h_z_isinstance ?h_z_len ?h_z_list ?h_z_max ?h_z_min ?h_z_range ?h_z_str ?h_z_sum ?h_z_tuple ?h_g_WIDTHS ?h_g_WIDTH ?h_g_MOST_ROMAN ?h_g_SIGNS_OF_FIGURE ?h_l_SIGNS_OF_FIGURE ?h_aB ?h_rB ?h_sB ?h_vB ?h_aT ?h_xT ?h_saT ?h_gaT ?h_ggT ?h_noT ?h_iT ?h_tyT ?h_lT ?h_cT ?h_kfT ?h_kCT ?h_eCT ?h_tCT ?h_hCT ?h_iCT ?h_sCT ?h_aW ?h_xW ?h_saW ?h_gaW ?h_ggW ?h_noW ?h_iW ?h_tyW ?h_lW ?h_cW ?h_kfW ?h_kCW ?h_eCW ?h_tCW ?h_hCW ?h_iCW ?h_sCW ?h_nTW ?h_a1 ?h_l1 ?h_c1x ?h_k1x ?h_a2 ?h_l2 ?h_c2x ?h_k2x ?h_a3 ?h_l3 ?h_c3x ?h_k3x ?h_a4 ?h_l4 ?h_c4x ?h_k4x ?h_a5 ?h_l5 ?h_c5x ?h_k5x ?h_a6 ?h_l6 ?h_c6x ?h_k6x ?h_a7 ?h_l7 ?h_c7x ?h_k7x ?h_a8 ?h_l8 ?h_c8x ?h_k8x ?h_a9 ?h_l9 ?h_c9x ?h_k9x ?h_a10 ?h_l10 ?h_c10x ?h_k10x ?h_a11 ?h_l11 ?h_c11x ?h_k11x ?h_a12 ?h_l12 ?h_c12x ?h_k12x ?h_a13 ?h_l13 ?h_c13x ?h_k13x ?h_a14 ?h_l14 ?h_c14x ?h_k14x ?h_a15 ?h_l15 ?h_c15x ?h_k15x ?h_a16 ?h_l16 ?h_c16x ?h_k16x ?h_a17 ?h_l17 ?h_c17x ?h_k17x ?h_a18 ?h_l18 ?h_c18x ?h_k18x ?h_a19 ?h_l19 ?h_c19x ?h_k19x ?h_a20 ?h_l20 ?h_c20x ?h_k20x ?h_a21 ?h_l21 ?h_c21x ?h_k21x ?h_a22 ?h_l22 ?h_c22x ?h_k22x ?h_a23 ?h_l23 ?h_c23x ?h_k23x ?h_a24 ?h_l24 ?h_c24x ?h_k24x ?h_a25 ?h_l25 ?h_c25x ?h_k25x ?h_a26 ?h_l26 ?h_c26x ?h_k26x ?h_a27 ?h_l27 ?h_c27x ?h_k27x ?h_a28 ?h_l28 ?h_c28x ?h_k28x ?h_a29 ?h_l29 ?h_c29x ?h_k29x ?h_a30 ?h_l30 ?h_c30x ?h_k30x ?h_a31 ?h_l31 ?h_c31x ?h_k31x ?h_a32 ?h_l32 ?h_c32x ?h_k32x ?h_a33 ?h_l33 ?h_c33x ?h_k33x ?h_a34 ?h_l34 ?h_c34x ?h_k34x ?h_aL ?h_lL ?h_cLx ?h_kLx
    (case h_z_abs => k_is)
    (case h_z_bool => k_is)
    (case h_z_enumerate => k_is)
    (case h_z_int => k_is)
    (case h_z_isinstance => k_is)
    (case h_z_len => k_is)
    (case h_z_list => k_is)
    (case h_z_max => k_is)
    (case h_z_min => k_is)
    (case h_z_range => k_is)
    (case h_z_str => k_is)
    (case h_z_sum => k_is)
    (case h_z_tuple => k_is)
    (case h_g_WIDTHS => k_is)
    (case h_g_WIDTH => k_is)
    (case h_g_MOST_ROMAN => k_is)
    (case h_g_SIGNS_OF_FIGURE => k_is)
    (case h_l_SIGNS_OF_FIGURE => k_is)
    (case h_aB => k_is)
    (case h_rB => k_is)
    (case h_sB => k_is)
    (case h_vB => k_is)
    (case h_aT => k_is)
    (case h_xT => k_is)
    (case h_saT => k_is)
    (case h_gaT => k_is)
    (case h_ggT => k_is)
    (case h_noT => k_is)
    (case h_iT => k_is)
    (case h_tyT => k_is)
    (case h_lT => k_is)
    (case h_cT => k_is)
    (case h_kfT => k_is)
    (case h_kCT => k_is)
    (case h_eCT => k_is)
    (case h_tCT => k_is)
    (case h_hCT => k_is)
    (case h_iCT => k_is)
    (case h_sCT => first | rfl | k_is)
    (case h_aW => k_is)
    (case h_xW => k_is)
    (case h_saW => k_is)
    (case h_gaW => k_is)
    (case h_ggW => k_is)
    (case h_noW => k_is)
    (case h_iW => k_is)
    (case h_tyW => k_is)
    (case h_lW => k_is)
    (case h_cW => k_is)
    (case h_kfW => k_is)
    (case h_kCW => k_is)
    (case h_eCW => k_is)
    (case h_tCW => k_is)
    (case h_hCW => k_is)
    (case h_iCW => k_is)
    (case h_sCW => first | rfl | k_is)
    (case h_nTW => k_is)
    (case h_a1 => k_is)
    (case h_l1 => k_is)
    (case h_c1x => k_is)
    (case h_k1x => k_is)
    (case h_a2 => k_is)
    (case h_l2 => k_is)
    (case h_c2x => k_is)
    (case h_k2x => k_is)
    (case h_a3 => k_is)
    (case h_l3 => k_is)
    (case h_c3x => k_is)
    (case h_k3x => k_is)
    (case h_a4 => k_is)
    (case h_l4 => k_is)
    (case h_c4x => k_is)
    (case h_k4x => k_is)
    (case h_a5 => k_is)
    (case h_l5 => k_is)
    (case h_c5x => k_is)
    (case h_k5x => k_is)
    (case h_a6 => k_is)
    (case h_l6 => k_is)
    (case h_c6x => k_is)
    (case h_k6x => k_is)
    (case h_a7 => k_is)
    (case h_l7 => k_is)
    (case h_c7x => k_is)
    (case h_k7x => k_is)
    (case h_a8 => k_is)
    (case h_l8 => k_is)
    (case h_c8x => k_is)
    (case h_k8x => k_is)
    (case h_a9 => k_is)
    (case h_l9 => k_is)
    (case h_c9x => k_is)
    (case h_k9x => k_is)
    (case h_a10 => k_is)
    (case h_l10 => k_is)
    (case h_c10x => k_is)
    (case h_k10x => k_is)
    (case h_a11 => k_is)
    (case h_l11 => k_is)
    (case h_c11x => k_is)
    (case h_k11x => k_is)
    (case h_a12 => k_is)
    (case h_l12 => k_is)
    (case h_c12x => k_is)
    (case h_k12x => k_is)
    (case h_a13 => k_is)
    (case h_l13 => k_is)
    (case h_c13x => k_is)
    (case h_k13x => k_is)
    (case h_a14 => k_is)
    (case h_l14 => k_is)
    (case h_c14x => k_is)
    (case h_k14x => k_is)
    (case h_a15 => k_is)
    (case h_l15 => k_is)
    (case h_c15x => k_is)
    (case h_k15x => k_is)
    (case h_a16 => k_is)
    (case h_l16 => k_is)
    (case h_c16x => k_is)
    (case h_k16x => k_is)
    (case h_a17 => k_is)
    (case h_l17 => k_is)
    (case h_c17x => k_is)
    (case h_k17x => k_is)
    (case h_a18 => k_is)
    (case h_l18 => k_is)
    (case h_c18x => k_is)
    (case h_k18x => k_is)
    (case h_a19 => k_is)
    (case h_l19 => k_is)
    (case h_c19x => k_is)
    (case h_k19x => k_is)
    (case h_a20 => k_is)
    (case h_l20 => k_is)
    (case h_c20x => k_is)
    (case h_k20x => k_is)
    (case h_a21 => k_is)
    (case h_l21 => k_is)
    (case h_c21x => k_is)
    (case h_k21x => k_is)
    (case h_a22 => k_is)
    (case h_l22 => k_is)
    (case h_c22x => k_is)
    (case h_k22x => k_is)
    (case h_a23 => k_is)
    (case h_l23 => k_is)
    (case h_c23x => k_is)
    (case h_k23x => k_is)
    (case h_a24 => k_is)
    (case h_l24 => k_is)
    (case h_c24x => k_is)
    (case h_k24x => k_is)
    (case h_a25 => k_is)
    (case h_l25 => k_is)
    (case h_c25x => k_is)
    (case h_k25x => k_is)
    (case h_a26 => k_is)
    (case h_l26 => k_is)
    (case h_c26x => k_is)
    (case h_k26x => k_is)
    (case h_a27 => k_is)
    (case h_l27 => k_is)
    (case h_c27x => k_is)
    (case h_k27x => k_is)
    (case h_a28 => k_is)
    (case h_l28 => k_is)
    (case h_c28x => k_is)
    (case h_k28x => k_is)
    (case h_a29 => k_is)
    (case h_l29 => k_is)
    (case h_c29x => k_is)
    (case h_k29x => k_is)
    (case h_a30 => k_is)
    (case h_l30 => k_is)
    (case h_c30x => k_is)
    (case h_k30x => k_is)
    (case h_a31 => k_is)
    (case h_l31 => k_is)
    (case h_c31x => k_is)
    (case h_k31x => k_is)
    (case h_a32 => k_is)
    (case h_l32 => k_is)
    (case h_c32x => k_is)
    (case h_k32x => k_is)
    (case h_a33 => k_is)
    (case h_l33 => k_is)
    (case h_c33x => k_is)
    (case h_k33x => k_is)
    (case h_a34 => k_is)
    (case h_l34 => k_is)
    (case h_c34x => k_is)
    (case h_k34x => k_is)
    (case h_aL => k_is)
    (case h_lL => k_is)
    (case h_cLx => k_is)
    (case h_kLx => k_is)
