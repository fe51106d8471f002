import PyProof.Rows.All
import Wide.All
import OpenK.AllK
import Wide.FinOn
import PyProof.EqAt
import PyProof.EqKinds
import PyProof.TupleCall
import HandS.Base
import HandS.Call
import HandS.List
import HandS.Comp
import HandS.Ends
import HandS.Iter
import HandS.Exc
import HandS.ExcOwn
import HandS.ExcInit
import HandS.ClsMeth
import HandS.Words
import HandS.WordsList
import HandS.WordsExc
import HandS.ExcField
import HandS.TryMany
import HandS.IsInst
import HandS.FStr
import HandS.Conv
import HandS.Steps
import HandS.Evl
import HandS.RevTup
import HandS.Rev
import PyProof.ListRange
import HandS.NoneIn
import HandS.Defaults
import HandS.Lambda
import HandS.EndTab
import KE.KNest
import KE.KExcIs
import KE.GoesEnum
import HandS.Wide
import PySem.Challenge.RW_comestrue_k00_cells_of_rulers_at_all_lin
set_option Elab.async false
set_option linter.all false
set_option maxRecDepth 100000
set_option maxHeartbeats 4000000
namespace Lay
open PySem PySem.Spec PyProof.Rows L2 Evl

section
variable {X : Cx} {e : Expr} {es : List Expr} {ta : TA} {x : Str} {C0 : Addr} {mc : Value} {p1 p2 pos : Pos}
/-- Base.__init__(self, ..), Base an own class over ValueError without one of its own -/
theorem pe_binit {pl : Sem Bool} (hg : Gl X x) (hm : X.mg x = some (.ref C0)) (hr : ClX.CRead X.K C0 mc) (vV : PySem.W.findCls X.K (.ref C0) mc "__init__" = some (.val (.builtin "ValueError.__init__"))) (ha : PA X (e :: es) ta)
    (hdb : (x == ("__debug__" : Str)) = false := by decide)
    (hc : eval (.Call (.Attribute (.Name x p1) "__init__" p2) (e :: es) [] pos) X.env = (do
      let ov ← eval (.Name x p1) X.env
      standAt p2.atName
      let (f, first) ← holding [ov] (getMethod ov "__init__" pl)
      callWith pos f first (backTo pos (starEach (e :: es) X.env)) (backToKw pos (keywordEach [] X.env))) := by rfl)
    (he : starEach (e :: es) X.env = (false, eval e X.env) :: starEach es X.env := by rfl) (hpl : (backTo pos (starEach es X.env)).any (·.1) = false := by rfl) :
    PE X (.Call (.Attribute (.Name x p1) "__init__" p2) (e :: es) [] pos) (tVeI X.K ta) := by
  refine ⟨fun pins s σ H Q I h => ?_⟩
  refine PySem.W.methodCall_KW (ld_glob I hg hm ?_ hdb) hc
  refine PySem.W.method_cls I.kIn hr.ga (PySem.W.cls_value I.kIn hr.rd vV (by decide +kernel) ?_)
  show wpAny _ _ (callWith pos (Value.builtin "ValueError.__init__") [] (backTo pos (starEach (e :: es) X.env)) []) _ _ _
  refine PyProof.Rows.callWith_method1 (thn (ha.run pos pins _ σ H _ (I.tok _) h) fun us s1 ⟨vs, H1, I1, r1, a, C, ws, ev, hl, T, ea, q⟩ => ?_) he hpl
  subst ev
  cases r1 with
  | @cons _ u0 _ ur ra rw' =>
    obtain rfl : u0 = Value.ref a := ra
    have hlen : ur.length ≤ sizeLine := by
      rw [← Paired.length rw', sizeLine_eq]
      omega
    exact oinit_ok T I1 ea hlen fun s' J => ⟨.non, H1, J, rfl, q⟩
end

/-! ### a def as callers know it -/
structure Def (P : Program) (w : World) (K : PySem.W.Frag) (mg : Str → Option Value) (base : Heap) (x : Str) (k : Nat) (ps : List Str) (sp : Sp) : Prop where
  ex : ∃ (f : Addr) (fd : FuncData), FnOk P w K mg base (L2.CX P w) k f fd ps sp ∧ mg x = some (.ref f) ∧ PySem.W.keepIn K (.ref f) = true ∧ Binds K fd ps []
/-- the text of a def as it stands behind the top -/
structure At (K : PySem.W.Frag) (mg : Str → Option Value) (x : Str) (st : Stmt) (ps : List Str) : Prop where
  ex : ∃ (f : Addr) (fd : FuncData), Fun K x x st f fd ∧ mg x = some (.ref f) ∧ Binds K fd ps []
section
variable {P : Program} {w : World} {K : PySem.W.Frag} {mg : Str → Option Value} {base : Heap}
theorem Def.mk' {x : Str} {st : Stmt} {N ps : List Str} {k : Nat} {sp : Sp} (F : At K mg x st ps) (S : FnScope N ps (defScope st)) (len : ∀ vs H Q E, sp vs H Q E → vs.length = ps.length)
    (hbody : ∀ (f : Addr) (cdv : Value) (A : Around) (outer : List Env) (s : Shared) (H : Hp) (vs : List V) (Q : VK) (E : XK), Room k (A.deeper (envOfC x (defScope st) s.heap.objs.size f cdv)) → sp vs H Q E →
      ∃ t, PSs (cxOf (L2.CX P w) P w K mg base N x (defScope st) f cdv A outer s H E) (defBody st) t ∧ t { nx := fun _ H' => Q .non H', rt := Q } (start N vs) H) : Def P w K mg base x (k + 1) ps sp := by
  obtain ⟨f, fd, Ff, g, b⟩ := F.ex
  exact ⟨f, fd, Ff.okX S len (hbody f), g, Ff.kp, b⟩
theorem Def.imp {x : Str} {k : Nat} {ps : List Str} {sp sp' : Sp} (d : Def P w K mg base x k ps sp) (h : ∀ vs H Q E, sp' vs H Q E → sp vs H Q E) : Def P w K mg base x k ps sp' := by
  obtain ⟨f, fd, F, r⟩ := d.ex
  exact ⟨f, fd, F.imp h, r⟩
end
section
variable {X : Cx} {k : Nat} {ps : List Str} {sp : Sp} {E : XK} {x : Str} {p pos : Pos} {e : Expr} {es : List Expr} {t : TA}
theorem pe_d (d : Def X.prog X.w X.K X.mg X.base x k ps sp) (hr : Room k X.A) (hx : Passes (L2.CX X.prog X.w) X E) (ha : PA X (e :: es) t) (hg : Gl X x := by rfl)
    (hdb : (x == ("__debug__" : Str)) = false := by decide) (he : starEach (e :: es) X.env = (false, eval e X.env) :: starEach es X.env := by rfl) (hpl : (backTo pos (starEach es X.env)).any (·.1) = false := by rfl) :
    PE X (.Call (.Name x p) (e :: es) [] pos) (tCallS sp (fun _ => E) t) := by
  obtain ⟨f, fd, F, g, kp, b⟩ := d.ex
  exact pe_callS F hr hg g kp b (fun σ pins H s e s' I c => hx pins σ H s e s' I c) ha hdb he hpl
/-- in a try's body -/
theorem pe_dT {W : WX} (d : Def X.prog X.w X.K X.mg X.base x k ps sp) (hr : Room k X.A) (tk : Takes X W) (ha : PA X (e :: es) t) (hg : Gl X x := by rfl)
    (hdb : (x == ("__debug__" : Str)) = false := by decide) (he : starEach (e :: es) X.env = (false, eval e X.env) :: starEach es X.env := by rfl) (hpl : (backTo pos (starEach es X.env)).any (·.1) = false := by rfl) :
    PE X (.Call (.Name x p) (e :: es) [] pos) (tCallS sp (WE W) t) := by
  obtain ⟨f, fd, F, g, kp, b⟩ := d.ex
  exact pe_callS F hr hg g kp b (fun σ => passAt tk σ) ha hdb he hpl
end

/-! ### heaps -/
/-- all but what stands at l is as it was -/
def ExB (l : Addr) (H H' : Hp) : Prop := ∀ a o, a ≠ l → H a = some o → H' a = some o
theorem Ex.b {l : Addr} {H H' : Hp} (e : Ex H H') : ExB l H H' := fun a o _ h => e a o h
theorem ExB.refl (l : Addr) (H : Hp) : ExB l H H := fun _ _ _ h => h
theorem ExB.trans {l : Addr} {H H1 H2 : Hp} (a : ExB l H H1) (b : ExB l H1 H2) : ExB l H H2 := fun x o n h => b x o n (a x o n h)
theorem ExB.upd {l : Addr} {o : HO} {H H' : Hp} (e : ExB l H H') : ExB l H (upd H' l o) := fun a u n h => by
  rw [upd_ne n]
  exact e a u n h
/-- l is new since H -/
theorem ExB.ex {l : Addr} {H H1 H2 : Hp} (e : Ex H H1) (b : ExB l H1 H2) (n : H l = none) : Ex H H2 := fun a o h => b a o (ne_of_none h n) (e a o h)
theorem ExB.exB {l m : Addr} {H H1 H2 : Hp} (e : ExB m H H1) (b : ExB l H1 H2) (n : H l = none) : ExB m H H2 := fun a o h' h => b a o (ne_of_none h n) (e a o h' h)
theorem ex_at {H H' : Hp} {a : Addr} {o : HO} (e : Ex H H') (h : H a = some o) : H' a = some o := e a o h
theorem exb_at {l : Addr} {H H' : Hp} {a : Addr} {o : HO} (e : ExB l H H') (n : a ≠ l) (h : H a = some o) : H' a = some o := e a o n h
theorem exb_l {K : PySem.W.Frag} {l : Addr} {H H' : Hp} {a : Addr} {xs : List V} (e : ExB l H H') (n : a ≠ l) (h : SqL K H a xs) : SqL K H' a xs := by
  rcases h with (h | ⟨o, h⟩) | h
  · exact .inl (.inl (e _ _ n h))
  · exact .inl (.inr ⟨o, e _ _ n h⟩)
  · exact .inr h
theorem fresh_b {l : Addr} {H H' : Hp} {p : Addr} (e : Ex H H') (h : H' p = none) : H p = none := fresh_back e h
theorem exn {H : Hp} {p : Addr} {o : HO} (h : H p = none) : Ex H (upd H p o) := Ex.new h

/-! ### ints of a list -/
def gi (ns : List Int) (i : Int) : Int := ns.getD i.toNat 0
theorem atI_gi {ns : List Int} {i : Int} (h0 : 0 ≤ i) (h1 : i < ns.length) : atI (ns.map V.int) i = some (.int (gi ns i)) := by
  obtain ⟨j, rfl⟩ : ∃ j : Nat, i = (j : Int) := ⟨i.toNat, by omega⟩
  have hj : j < ns.length := by omega
  refine atI_nat ?_
  rw [List.getElem?_map]
  unfold gi
  rw [Int.toNat_natCast, List.getD_eq_getElem?_getD, List.getElem?_eq_getElem hj]
  rfl
theorem atI_V {xs : List V} {i : Int} {v : V} {j : Nat} (e : i = (j : Int)) (h : xs[j]? = some v) : atI xs i = some v := by
  rw [e]
  exact atI_nat h

/-! ### named readings -/
def rList (K : PySem.W.Frag) : List V → Hp → VK → Prop := fun xs H Q => ∃ p ys, xs = [.ref p] ∧ (SqL K H p ys ∨ SqT K H p ys) ∧ ∀ l, H l = none → Q (.ref l) (upd H l (.lst ys))
def rLen (K : PySem.W.Frag) : List V → Hp → VK → Prop := fun xs H Q => ∃ p ys, xs = [.ref p] ∧ (SqL K H p ys ∨ SqT K H p ys) ∧ Q (.int ys.length) H
def rInt1 : List V → Hp → VK → Prop := fun xs H Q => (∃ i, xs = [.int i] ∧ Q (.int i) H) ∨ ∃ k, xs = [.bl k] ∧ Q (.int (if k then 1 else 0)) H
def rAbs : List V → Hp → VK → Prop := fun xs H Q => ∃ i, xs = [.int i] ∧ Q (.int (if i < 0 then -i else i)) H
def rMx2 : List V → Hp → VK → Prop := fun xs H Q => ∃ i j, xs = [.int i, .int j] ∧ Q (.int (if j > i then j else i)) H
def rMn2 : List V → Hp → VK → Prop := fun xs H Q => ∃ i j, xs = [.int i, .int j] ∧ Q (.int (if j < i then j else i)) H
section
variable {X : Cx}
theorem c_list : CallR X (.type "list") (rList X.K) := call_list_of
theorem c_len : CallR X (.builtin "len") (rLen X.K) := call_len_seq
theorem c_int : CallR X (.type "int") rInt1 := call_int1
theorem c_abs : CallR X (.builtin "abs") rAbs := call_abs
theorem c_max2 (hc : X.calm = true) : CallR X (.builtin "max") rMx2 := call_max2 hc
theorem c_min2 (hc : X.calm = true) : CallR X (.builtin "min") rMn2 := call_min2 hc
end
/-- a new list, a new tuple: what follows is wished of it -/
def NewL (xs : List V) (H : Hp) (Q : VK) : Prop := xs.length ≤ sizeLine ∧ ∀ p, H p = none → Q (.ref p) (upd H p (.lst xs))
def NewT (xs : List V) (H : Hp) (Q : VK) : Prop := xs.length ≤ sizeLine ∧ ∀ p, H p = none → Q (.ref p) (upd H p (.tup xs))
/-! ### readings, step by step -/
section
variable {K : PySem.W.Frag} {σ : L2.St} {H : Hp} {D : Ends} {t u : TS} {te ta tb tc : TE} {c d : TT} {tr : TA} {Q : VK} {R : Bool → Hp → Prop} {S : List V → Hp → Prop} {v x y : V} {i j : Int} {n : Nat} {r : R2} {sp : Sp} {E : L2.St → XK}
theorem r_seq (h : t ⟨u D, D.rt, D.bk, D.ct⟩ σ H) : tSeq t u D σ H := h
theorem r_set (h : te σ H fun x H1 => D.nx (σ.set n (some x)) H1) : tAsg te (gName n) D σ H := h
theorem r_sub {s : TSet} (h : te σ H fun v H1 => ta σ H1 fun o H2 => tb σ H2 fun i H3 => s o i v H3 fun H4 => D.nx σ H4) : tAsg te (gSub ta tb s) D σ H := h
theorem r_aug {ti : TIp} (e : σ[n]? = some (some x)) (h : te σ H fun y H1 => ti x y H1 fun z H2 => D.nx (σ.set n (some z)) H2) : tAug n te ti D σ H := ⟨_, e, h⟩
theorem r_ipI {f : Int → Int → Int} (h : Q (.int (f i j)) H) : ipI f (.int i) (.int j) H Q := ⟨i, j, rfl, rfl, h⟩
theorem r_drop (h : te σ H fun _ H1 => D.nx σ H1) : tDrop te D σ H := h
theorem r_ret (h : te σ H D.rt) : tRet te D σ H := h
theorem r_retN (h : D.rt .non H) : tRetN D σ H := h
theorem r_if (h : c σ H fun b H1 => if b = true then t D σ H1 else u D σ H1) : tIfS c t u D σ H := h
theorem r_next (h : D.nx σ H) : tNext D σ H := h
theorem r_brk (h : D.bk σ H) : tBreak D σ H := h
theorem r_cont (h : D.ct σ H) : tCont D σ H := h
theorem r_var (e : σ[n]? = some (some v)) (h : Q v H) : tVar n σ H Q := ⟨v, e, h⟩
theorem r_c (h : Q v H) : tC v σ H Q := h
theorem r_op (h : ta σ H fun x H1 => tb σ H1 fun y H2 => r x y H2 Q) : tOp r ta tb σ H Q := h
theorem r_un {r : V → Hp → VK → Prop} (h : ta σ H fun x H1 => r x H1 Q) : tUn r ta σ H Q := h
theorem r_I0 {g : Int → Int → V} (h : Q (g i j) H) : rI0 g (.int i) (.int j) H Q := ⟨i, j, rfl, rfl, h⟩
theorem r_I {C : Int → Int → Prop} {g : Int → Int → V} (k : C i j) (h : Q (g i j) H) : rI C g (.int i) (.int j) H Q := ⟨i, j, rfl, rfl, k, h⟩
theorem r_U {g : Int → V} (h : Q (g i) H) : rU g (.int i) H Q := ⟨i, rfl, h⟩
theorem dI {i j : Int} : decide (V.int i = V.int j) = decide (i = j) := by
  by_cases e : i = j
  · rw [e]
    simp
  · rw [decide_eq_false e, decide_eq_false (fun h => e (V.int.inj h))]
theorem r_eqI (h : Q (.bl (decide (i = j))) H) : rEq (.int i) (.int j) H Q := ⟨rfl, by rw [dI]; exact h⟩
theorem r_neI (h : Q (.bl (!decide (i = j))) H) : rNe (.int i) (.int j) H Q := ⟨rfl, by rw [dI]; exact h⟩
theorem r_isN (h : Q (.bl (decide (x = .non))) H) : rIsN x .non H Q := ⟨rfl, h⟩
theorem r_notN (h : Q (.bl (!decide (x = .non))) H) : rNotN x .non H Q := ⟨rfl, h⟩
theorem r_test (h : te σ H fun x H' => ∃ k, x = .bl k ∧ R k H') : tTest te σ H R := h
theorem r_tB (h : te σ H fun x H' => ∃ k, x = .bl k ∧ R k H') : tB te σ H R := h
theorem r_bl {b : Bool} {P : Bool → Prop} (h : P b) : ∃ k, V.bl b = .bl k ∧ P k := ⟨b, rfl, h⟩
theorem r_and (h : c σ H fun b H1 => if b = true then d σ H1 R else R false H1) : tAnd c d σ H R := h
theorem r_or (h : c σ H fun b H1 => if b = true then R true H1 else d σ H1 R) : tOr c d σ H R := h
theorem r_not (h : c σ H fun b H1 => R (!b) H1) : tNot c σ H R := h
theorem r_andV (h : ta σ H fun x H1 => ∃ c, x = .bl c ∧ if c = true then tb σ H1 Q else Q (.bl false) H1) : tAndV ta tb σ H Q := h
theorem r_orV (h : ta σ H fun x H1 => ∃ c, x = .bl c ∧ if c = true then Q (.bl true) H1 else tb σ H1 Q) : tOrV ta tb σ H Q := h
theorem r_notV (h : ta σ H fun x H1 => ∃ c, x = .bl c ∧ Q (.bl (!c)) H1) : tNotV ta σ H Q := h
theorem r_tIf (h : c σ H fun b H1 => if b = true then ta σ H1 Q else tb σ H1 Q) : tIf c ta tb σ H Q := h
theorem r_nil (h : S [] H) : tNil σ H S := h
theorem r_cons (h : te σ H fun x H1 => tr σ H1 fun xs H2 => S (x :: xs) H2) : tCons te tr σ H S := h
theorem r_call (h : tr σ H fun vs H1 => sp vs H1 Q (E σ)) : tCallS sp E tr σ H Q := h
theorem r_cb {r : List V → Hp → VK → Prop} (h : tr σ H fun vs H1 => r vs H1 Q) : tCB r tr σ H Q := h
theorem r_lst (h : tr σ H fun xs H1 => NewL xs H1 Q) : tLst tr σ H Q := h
theorem r_tup (h : tr σ H fun xs H1 => NewT xs H1 Q) : tTup tr σ H Q := h
theorem r_newL {xs : List V} (l : xs.length ≤ 100000) (h : ∀ p H2, H p = none → Ex H H2 → H2 p = some (.lst xs) → Q (.ref p) H2) : NewL xs H Q := ⟨sz_of l, fun p hp => h p _ hp (Ex.new hp) upd_same⟩
theorem r_newT {xs : List V} (l : xs.length ≤ 100000) (h : ∀ p H2, H p = none → Ex H H2 → H2 p = some (.tup xs) → Q (.ref p) H2) : NewT xs H Q := ⟨sz_of l, fun p hp => h p _ hp (Ex.new hp) upd_same⟩
theorem r_ite {P : Prop} [Decidable P] {A B : Prop} (h1 : P → A) (h2 : ¬ P → B) : if decide P = true then A else B := by
  by_cases h : P
  · rw [if_pos (decide_eq_true h)]
    exact h1 h
  · rw [if_neg (by rw [decide_eq_false h]; decide)]
    exact h2 h
theorem r_iteN {P : Prop} [Decidable P] {A B : Prop} (h1 : ¬ P → A) (h2 : P → B) : if (!decide P) = true then A else B := by
  by_cases h : P
  · rw [decide_eq_true h]
    exact iteF (h2 h)
  · rw [decide_eq_false h]
    exact iteT (h1 h)
theorem r_yes {P : Prop} [Decidable P] {A B : Prop} (p : P) (h : A) : if decide P = true then A else B := r_ite (fun _ => h) fun q => absurd p q
theorem r_no {P : Prop} [Decidable P] {A B : Prop} (p : ¬ P) (h : B) : if decide P = true then A else B := r_ite (fun q => absurd q p) fun _ => h
theorem r_yesN {P : Prop} [Decidable P] {A B : Prop} (p : ¬ P) (h : A) : if (!decide P) = true then A else B := r_iteN (fun _ => h) fun q => absurd q p
theorem r_noN {P : Prop} [Decidable P] {A B : Prop} (p : P) (h : B) : if (!decide P) = true then A else B := r_iteN (fun q => absurd p q) fun _ => h
theorem r_nb {b : Bool} {A B : Prop} (h : if b = true then B else A) : if (!b) = true then A else B := by cases b <;> exact h
/-- xs[i] -/
theorem r_ixL {p : Addr} {xs : List V} (h : SqL K H p xs) (e : atI xs i = some v) (q : Q v H) : rIxL K (.ref p) (.int i) H Q := ⟨p, xs, i, v, rfl, rfl, h, e, q⟩
theorem r_ixI {p : Addr} {ns : List Int} (h : SqL K H p (ns.map V.int)) (h0 : 0 ≤ i) (h1 : i < ns.length) (q : Q (.int (gi ns i)) H) : rIxL K (.ref p) (.int i) H Q := r_ixL h (atI_gi h0 h1) q
theorem r_ixT {p : Addr} {xs : List V} (h : SqT K H p xs) (e : atI xs i = some v) (q : Q v H) : rIxT K (.ref p) (.int i) H Q := ⟨p, xs, i, v, rfl, rfl, h, e, q⟩
/-- xs[i] = v -/
theorem r_setL {p : Addr} {xs : List V} {Z : Hp → Prop} (h : H p = some (.lst xs)) (h0 : 0 ≤ i) (h1 : i < xs.length) (q : ∀ H2, ExB p H H2 → H2 p = some (.lst (xs.set i.toNat v)) → (∀ a, H a = none → H2 a = none) → Z H2) : rSetL (.ref p) (.int i) v H Z :=
  ⟨p, xs, i, i.toNat, rfl, rfl, h, by unfold ixN; rw [if_pos h0, if_pos h1], q _ (fun a o n e => by rw [upd_ne n]; exact e) upd_same fun a e => by rw [upd_ne (fun z => by rw [z, h] at e; cases e)]; exact e⟩
/-- xs.append(y) -/
theorem r_app {p : Addr} {xs : List V} (h : H p = some (.lst xs)) (l : xs.length < 100000) (q : ∀ H2, ExB p H H2 → H2 p = some (.lst (xs ++ [y])) → (∀ a, H a = none → H2 a = none) → Q .non H2) : rAppend (.ref p) [y] H Q :=
  ⟨p, xs, y, rfl, rfl, h, sz_lt l, q _ (fun a o n e => by rw [upd_ne n]; exact e) upd_same fun a e => by rw [upd_ne (fun z => by rw [z, h] at e; cases e)]; exact e⟩
theorem r_bmL {r : V → List V → Hp → VK → Prop} {p : Addr} {xs : List V} (h : SqL K H p xs) (q : tr σ H fun vs H2 => r (.ref p) vs H2 Q) (e : σ[n]? = some (some (.ref p))) : tBM K "list" r (tVar n) tr σ H Q := ⟨_, e, .inl ⟨rfl, _, h⟩, q⟩
theorem r_slL {p : Addr} {xs : List V} {lo hi : Option Int} (h : SqL K H p xs) (q : ∀ p2 H2, H p2 = none → Ex H H2 → H2 p2 = some (.lst (cutV xs lo hi)) → Q (.ref p2) H2) : rSlL K (.ref p) lo hi H Q := ⟨p, xs, rfl, h, fun p2 n => q p2 _ n (Ex.new n) upd_same⟩
theorem r_cat {p q : Addr} {xs ys : List V} (h : H p = some (.lst xs)) (h' : H q = some (.lst ys)) (l : xs.length + ys.length ≤ 100000) (k : ∀ p2 H2, H p2 = none → Ex H H2 → H2 p2 = some (.lst (xs ++ ys)) → Q (.ref p2) H2) : rCat (.ref p) (.ref q) H Q :=
  ⟨p, q, xs, ys, rfl, rfl, h, h', sz_of l, fun p2 n => k p2 _ n (Ex.new n) upd_same⟩
theorem r_list {p : Addr} {xs : List V} (h : SqL K H p xs) (k : ∀ p2 H2, H p2 = none → Ex H H2 → H2 p2 = some (.lst xs) → Q (.ref p2) H2) : rList K [.ref p] H Q := ⟨p, xs, rfl, .inl h, fun p2 n => k p2 _ n (Ex.new n) upd_same⟩
theorem r_len {p : Addr} {xs : List V} (h : SqL K H p xs) (q : Q (.int xs.length) H) : rLen K [.ref p] H Q := ⟨p, xs, rfl, .inl h, q⟩
theorem r_lenI {p : Addr} {ns : List Int} (h : SqL K H p (ns.map V.int)) (q : Q (.int ns.length) H) : rLen K [.ref p] H Q := r_len h (by rw [List.length_map]; exact q)
theorem r_int (q : Q (.int i) H) : rInt1 [.int i] H Q := .inl ⟨i, rfl, q⟩
theorem r_abs (q : Q (.int (if i < 0 then -i else i)) H) : rAbs [.int i] H Q := ⟨i, rfl, q⟩
theorem r_mx2 (q : Q (.int (if j > i then j else i)) H) : rMx2 [.int i, .int j] H Q := ⟨i, j, rfl, q⟩
theorem r_mn2 (q : Q (.int (if j < i then j else i)) H) : rMn2 [.int i, .int j] H Q := ⟨i, j, rfl, q⟩
theorem r_sum {p : Addr} {ns : List Int} (h : SqL K H p (ns.map V.int)) (q : Q (.int ns.sum) H) : rSum K [.ref p] H Q := ⟨p, ns, rfl, h, q⟩
theorem r_max {p : Addr} {ns : List Int} (h : SqL K H p (ns.map V.int)) (l : 0 < ns.length) (q : ∀ m, m ∈ ns → (∀ y, y ∈ ns → y ≤ m) → Q (.int m) H) : rMax K [.ref p] H Q := ⟨p, ns, rfl, h, l, q⟩
theorem r_eqD {x y : V} {d e : PyData} (hx : Dp K H x d) (hy : Dp K H y e) (s1 : SeqAt.shaped d = true) (s2 : SeqAt.shaped e = true) (q : Q (.bl (PyData.eqv d e)) H) : rEqD K x y H Q := ⟨d, e, hx, hy, s1, s2, q⟩
theorem r_neD {x y : V} {d e : PyData} (hx : Dp K H x d) (hy : Dp K H y e) (s1 : SeqAt.shaped d = true) (s2 : SeqAt.shaped e = true) (q : Q (.bl (!PyData.eqv d e)) H) : rNeD K x y H Q := ⟨d, e, hx, hy, s1, s2, q⟩
/-- isinstance of an int -/
theorem r_isiI {nm : String} {b : Bool} (h : PySem.W.kitOne K (.type "int") (.type nm) = some b) (q : Q (.bl b) H) : rIsi K [.int i, .ty nm] H Q := ⟨.int i, .ty nm, .type "int", .type nm, b, rfl, .ty nm, .base (.int i), h, q⟩
theorem r_isiL {nm : String} {b : Bool} {p : Addr} {xs : List V} (h : PySem.W.kitOne K (.type "list") (.type nm) = some b) (hp : H p = some (.lst xs)) (q : Q (.bl b) H) : rIsi K [.ref p, .ty nm] H Q := ⟨.ref p, .ty nm, .type "list", .type nm, b, rfl, .ty nm, .base (.lst hp), h, q⟩
end

/-! ### o[i] of a list, by values; o[i] op= e -/
section
variable {X : Cx}
theorem get_list : PGet X (rIxL X.K) := by
  intro pins s σ H ov iv xv yv Q I rx ry h
  obtain ⟨p, xs, i, z, rfl, rfl, hq, he, q⟩ := h
  cases rx
  obtain ⟨t, rfl⟩ := ry
  obtain ⟨its, r, pl, hz⟩ := I.list hq
  obtain ⟨j, h1, h2, h3, h4, h5⟩ := atI_get he
  obtain ⟨w, ew, rw'⟩ := r.get h2
  have hl := r.length
  have hn := line63
  have done : EP X pins σ Q w s := ⟨z, H, I, rw', q⟩
  by_cases h0 : 0 ≤ i
  · have hj : i.toNat = j := Option.some.inj ((seqIndex_of h0 h5).symm.trans h1)
    exact wpAny_getItem_list pl.isList h0 (by omega) (by rw [hj]; simpa using ew) done
  · have hj : (i + (its.toArray.size : Int)).toNat = j := by
      rw [List.size_toArray, ← hl]
      exact Option.some.inj ((seqIndex_neg (by omega) h4).symm.trans h1)
    exact wpAny_getItem_list_neg pl.isList (by omega) (by rw [List.size_toArray] <;> omega) (by omega) (by rw [hj]; simpa using ew) done
end
section
variable {K : PySem.W.Frag} {σ : L2.St} {H : Hp} {D : Ends} {to ti te : TE} {tg : V → V → Hp → VK → Prop} {tp : TIp} {ts : TSet}
theorem r_augS (h : to σ H fun o H1 => ti σ H1 fun i H2 => tg o i H2 fun x H3 => te σ H3 fun y H4 => tp x y H4 fun z H5 => ts o i z H5 fun H6 => D.nx σ H6) : tAugS to ti te tg tp ts D σ H := h
end

/-! ### several except clauses, each with a name -/
/-- behind a clause its name's slot is empty -/
def finA (i : Nat) (D : Ends) : Ends := ⟨fun s h => D.nx (s.set i none) h, D.rt, fun s h => D.bk (s.set i none) h, fun s h => D.ct (s.set i none) h⟩
abbrev ClA := Value × Nat × (Addr → Value → Option Addr → TS)
def wManyA (K : PySem.W.Frag) (W0 : WX) (D : Ends) : List ClA → WX
  | [] => W0
  | (c, i, ts) :: l => fun cls d σ H => ∃ b, PySem.W.exmOne K cls c = some b ∧ (b = true → ∀ a, H a = none → ts a cls d (finA i D) (σ.set i (some (.ref a))) H) ∧ (b = false → wManyA K W0 D l cls d σ H)
inductive HdsA (X : Cx) : List ExceptHandler → List ClA → Prop
  | nil : HdsA X [] []
  | cons {x n : Str} {c : Value} {i : Nat} {ts : Addr → Value → Option Addr → TS} {b0 : Stmt} {suite : List Stmt} {np ps : Pos} {hds : List ExceptHandler} {l : List ClA} (hc : Names X x c) (hi : X.N[i]? = some n) (hln : X.env.kindOf n = some .local)
      (hsu : ∀ (a : Addr) (oe : Obj) (cls : Value) (d : Option Addr) (pn : List (Addr × Obj)), Zc cls d oe → (∃ vs, oe.data = .fields vs) → PSs (X.suite a ((a, oe) :: pn)) (b0 :: suite) (ts a cls d)) (r : HdsA X hds l) :
      HdsA X (.ExceptHandler (some (.Name x np)) (some n) (b0 :: suite) ps :: hds) ((c, i, ts) :: l)
section
variable {X : Cx} {body : List Stmt} {h0 : ExceptHandler} {hds : List ExceptHandler} {l : List ClA} {pos : Pos} {tb : WX → TS} {W0 : WX}
theorem ps_tryA (hs : X.stack = X.env :: X.outer) (hf : X.env.frame = some X.env.locals) (hN : X.N.Nodup) (tk : Takes X W0)
    (hb : ∀ (W : WX) (pn : List (Addr × Obj)) (xe : Value → Shared → Prop), Takes (X.tr pn xe) W → PassesOwn (model X.prog X.w) X.A X.env xe → PSs (X.tr pn xe) body (tb W))
    (hh : HdsA X (h0 :: hds) l) : PS X (.Try body (h0 :: hds) [] [] pos) (fun D σ H => tb (wManyA X.K W0 D l) D σ H) := by
  refine ⟨fun pins s σ H D I hyp => ?_⟩
  have ok := I.ok
  have hfr : X.A.frames = some (X.env :: X.outer) := by rw [ok.frames, hs]
  refine wpAny_Try_except ?_
  refine wpAny_mono ((hb (wManyA X.K W0 D l) (X.pn ++ pins) (fun e z1 => wpAny (model X.prog X.w) X.A (noteFrame e X.env) (fun _ z2 => wpAny (model X.prog X.w) X.A (setFlight e none) (fun _ z3 =>
    wpAny (model X.prog X.w) X.A (handleBy e X.env (h0 :: hds)) (SP X pins D) X.xe z3) X.xe z2) X.xe z1) (fun u s' xx => ?_) PassesOwn.looking).run [] s σ H D (I.toTry _) hyp) (fun f s1 hsp => ?_) (fun _ _ z => z)
  · obtain ⟨a, B, sI, pins', σ', H', cls, d, rfl, Jt, nb, up, sky, na, os, ag, w⟩ := xx
    have J : Inv X pins σ' H' sI := Jt.ofTry ok
    have sk2 : Sky B (X.env :: X.outer) a (Zc cls d) X.env.locals s'.heap := by rw [← hs]; exact sky
    show wpAny (model X.prog X.w) X.A (noteFrame (.ref a) X.env) _ _ _
    refine Sky.land Zc.steady hfr hf sk2 fun h3 fl3 up3 => ?_
    have J3 : Inv X pins σ' H' { s' with heap := h3 } := J.landed nb fl3.1 (up.trans up3) os ag
    obtain ⟨oe3, vs3, he3, hz3, hd3⟩ := fl3.there
    have nfr : a ∉ frs (X.env :: X.outer) := fun hm => by
      obtain ⟨_, o', e', hnf⟩ := fl3.2.2.1.mem hm
      rw [he3] at e'
      cases e'
      exact hnf _ hd3
    have nL : a ≠ X.env.locals := fun z => nfr (List.mem_filterMap.mpr ⟨X.env, List.mem_cons_self, by rw [hf, z]⟩)
    have nF : a ∉ X.fs := fun hm => by
      obtain ⟨e, he, q⟩ := List.mem_filterMap.mp hm
      exact nfr (List.mem_filterMap.mpr ⟨e, List.mem_cons_of_mem _ he, q⟩)
    have S3 := J3.suite he3 hd3 na nL nF
    have go : ∀ {hd' : List ExceptHandler} {l' : List ClA}, HdsA X hd' l' → wManyA X.K W0 D l' cls d σ' H' →
        wpAny (model X.prog X.w) X.A (handleBy (.ref a) X.env hd') (SP X pins D) X.xe { s' with heap := h3 } := by
      intro hd' l' hk
      induction hk with
      | nil =>
        intro w
        refine wpAny_handleBy_nil ?_
        obtain ⟨_, _, _, oe, vs, T, oT, _, he, hz, hd, h1, hr⟩ := id fl3
        unfold PySem.passOn
        refine wpAny_bind (wpAny_field he hd h1 ?_)
        rw [if_neg (show ¬ ((Value.ref T == Value.none) = true) by simp)]
        have outw : wpAny (model X.prog X.w) X.A (setFlight (.ref a) X.env.frame) (fun _ s4 => wpAny (model X.prog X.w) X.A (throw (.ref a) : Sem Flow) (SP X pins D) X.xe s4) X.xe { s' with heap := h3 } := by
          rw [hf]
          refine HandSPX.setFlight_upZ fl3 fun h4 hh4 up4 => wpAny_throw (tk _ _ ?_)
          exact ⟨a, B, sI, pins, σ', H', cls, d, rfl, J, nb, (up.trans up3).trans up4, .inr (.inr (by rw [hs]; exact hh4)), na, os, ag, w⟩
        first
          | exact wpAny_bind (wpAny_pure (wpAny_bind outw))
          | exact wpAny_bind outw
      | @cons x n c i ts b0 suite np ps hd2 l2 hc hi hln hsu r ih =>
        intro w
        obtain ⟨b, hb1, hyes, hno⟩ := w
        refine wpAny_handleBy_cons (codeAny_handlers_test ?_) (by intro q; cases q)
        have LT : PySem.W.Looks (model X.prog X.w) h3 (typeOf (.ref a)) cls := fun A Q E s k q => wpAny_typeOf_ref (k _ _ he3) (by rw [hz3.1]; exact q)
        have LM := PySem.W.exm_one (M := model X.prog X.w) (J3.kIn) LT hb1
        have tst : ∀ {Q : Value → Shared → Prop} {E : Value → Shared → Prop}, Q c { s' with heap := h3 } → wpAny (model X.prog X.w) (X.A.mark (some (.ref a))) (eval (.Name x np) X.env) Q E { s' with heap := h3 } := fun {Q E} q => by
          obtain ⟨hg, hdbg, hm | ⟨hm, hv, hnn⟩⟩ := hc
          · exact ld_glob (X := X.suite a ((a, oe3) :: (X.pn ++ pins))) S3 hg hm q hdbg
          · exact ld_blt (X := X.suite a ((a, oe3) :: (X.pn ++ pins))) S3 hg hm hv q hnn hdbg
        refine tst (LM.here ?_)
        cases b with
        | false =>
          show wpAny _ X.A (handleBy (.ref a) X.env hd2) _ _ _
          exact ih (hno rfl)
        | true =>
          refine codeAny_handlers_suite_as ?_
          refine HandSPX.lands_againZ fl3 fun h4 fl4 up4 => ?_
          have J4 : Inv X pins σ' H' { s' with heap := h4 } := J.landed nb fl4.1 ((up.trans up3).trans up4) os ag
          obtain ⟨oe4, vs4, he4, hz4, hd4⟩ := fl4.there
          have S4 := J4.suite he4 hd4 na nL nF
          refine store_ok (X := X.suite a ((a, oe4) :: (X.pn ++ pins))) (v := .ref a) S4 hN hi (.inl hln) rfl (fun s5 S5 => ?_) (.inr hln)
          refine wpAny_mono ((hsu a oe4 cls d (X.pn ++ pins) hz4 ⟨_, hd4⟩).run [] s5 _ H' _ S5 (hyes rfl a na)) (fun f s6 hsp => ?_) (fun _ _ z => False.elim z)
          have fin_ : ∀ {σ6 : L2.St} {H6 : Hp} {Q : Shared → Prop}, Inv (X.suite a ((a, oe4) :: (X.pn ++ pins))) [] σ6 H6 s6 → (∀ s7, Inv X pins (σ6.set i none) H6 s7 → Q s7) →
              wpAny (model X.prog X.w) X.A (do bindName X.env n .none; unbindBehindTheSuite X.env n ps) (fun _ s7 => Q s7) X.xe s6 := fun {σ6 H6 Q} S6 hq => gone_ok (S6.unsuite ok) hN hi hln hq
          cases f with
          | next =>
            obtain ⟨σ6, H6, S6, q6⟩ := hsp
            exact fin_ S6 fun s7 J7 => ⟨_, _, J7, q6⟩
          | brk =>
            obtain ⟨σ6, H6, S6, q6⟩ := hsp
            exact fin_ S6 fun s7 J7 => ⟨_, _, J7, q6⟩
          | cont =>
            obtain ⟨σ6, H6, S6, q6⟩ := hsp
            exact fin_ S6 fun s7 J7 => ⟨_, _, J7, q6⟩
          | ret u =>
            obtain ⟨v6, σ6, H6, S6, r6, q6⟩ := hsp
            exact fin_ S6 fun s7 J7 => ⟨_, _, _, J7, r6, q6⟩
    exact go hh w
  · cases f with
    | next =>
      obtain ⟨σ', H', Jt, q⟩ := hsp
      exact wpAny_execs_nil ⟨σ', H', Jt.ofTry ok, q⟩
    | brk =>
      obtain ⟨σ', H', Jt, q⟩ := hsp
      exact ⟨σ', H', Jt.ofTry ok, q⟩
    | cont =>
      obtain ⟨σ', H', Jt, q⟩ := hsp
      exact ⟨σ', H', Jt.ofTry ok, q⟩
    | ret u =>
      obtain ⟨v, σ', H', Jt, r, q⟩ := hsp
      exact ⟨v, σ', H', Jt.ofTry ok, r, q⟩
end

/-! ### own exception classes with one field -/
theorem app_len (a b : Str) : (a ++ b).length = a.length + b.length := by
  show (a.cps ++ b.cps).size = _
  rw [Array.size_append]
  rfl
section
variable {σ : L2.St} {H : Hp} {ts : List TE} {te : TE} {acc s : Str} {R : Str → Hp → Prop} {i : Int}
theorem js_nil (h : R acc H) : tJs [] acc σ H R := h
theorem js_c {n : Nat} (ha : acc.length ≤ n) (hs : n + s.length ≤ 100000) (h : ∀ acc' : Str, acc'.length ≤ n + s.length → tJs ts acc' σ H R) : tJs (tC (.str s) :: ts) acc σ H R :=
  ⟨s, rfl, sz_of (by rw [app_len]; omega), h _ (by rw [app_len]; omega)⟩
theorem js_i {n : Nat} (ha : acc.length ≤ n) (hs : n ≤ 50000) (hv : i.natAbs.log2 < 1920) (hte : ∀ Q : VK, Q (.int i) H → te σ H Q) (h : ∀ acc' : Str, acc'.length ≤ n + 1921 → tJs ts acc' σ H R) : tJs (tFmt te :: ts) acc σ H R := by
  have hl : (Str.ofString (toString i)).length ≤ 1921 := by
    have e := PySem.int_text_length_le (k := 1920) (by decide) hv
    rw [PySem.ofString_length]
    omega
  exact hte _ (.inr ⟨i, rfl, hv, _, rfl, sz_of (by rw [app_len]; omega), h _ (by rw [app_len]; omega)⟩)
theorem js_s {n : Nat} (ha : acc.length ≤ n) (hs : n + s.length ≤ 100000) (hte : ∀ Q : VK, Q (.str s) H → te σ H Q) (h : ∀ acc' : Str, acc'.length ≤ n + s.length → tJs ts acc' σ H R) : tJs (tFmt te :: ts) acc σ H R :=
  hte _ (.inl ⟨s, rfl, sz_of (by omega), s, rfl, sz_of (by rw [app_len]; omega), h _ (by rw [app_len]; omega)⟩)
end
/-- what may be told in an error's text -/
def tellV : V → Prop
  | .int i => i.natAbs.log2 < 1920
  | .str s => s.length ≤ 1000
  | _ => False
/-- __init__(self, f): self.f = f -/
def spExc (K : PySem.W.Frag) (C : Addr) (f : Str) : Sp := fun vs H Q _ => ∃ (a : Addr) (v : V), vs = [.ref a, v] ∧ tellV v ∧ H a = some (exo a C none) ∧
  ∀ dx, H dx = none → dx ≠ a → Q .non (upd (upd H dx (exd dx [(f, v)])) a (exo a C (some dx)))
structure Exn (P : Program) (w : World) (K : PySem.W.Frag) (mg : Str → Option Value) (base : Heap) (x f : Str) (C : Addr) : Prop where
  o : OexC K C
  g : mg x = some (.ref C)
  init : ∃ (fI : Addr) (fd : FuncData), PySem.W.findIn K (.ref C) "__init__" = some (some (.ref fI)) ∧ PySem.W.typeIn K (.ref fI) = some (.type "function") ∧ FnOk P w K mg base (L2.CX P w) 1 fI fd ["self", f] (spExc K C f) ∧ Binds K fd ["self", f] []
  xf : XfC K C
  no : PySem.W.findIn K (.ref C) f = some none
  te : PySem.W.exmOne K (.ref C) (.ref C) = some true
def tRaiseE (C : Addr) (f : Str) (W : WX) (te : TE) : TS := fun _ σ H => te σ H fun v H1 => tellV v ∧ ∀ d H2, Ex H1 H2 → H2 d = some (.xd [(f, v)]) → W (.ref C) (some d) σ H2
section
variable {X : Cx} {x f : Str} {C : Addr} {W : WX} {e : Expr} {te : TE} {p pos pos2 : Pos}
theorem pe_cl (h : PE X e te) : PE X e (fun σ H Q => ∃ P1 : VK, te σ H P1 ∧ ∀ v H1, P1 v H1 → Q v H1) :=
  ⟨fun pins s σ H Q I ⟨P1, hp, pq⟩ => thn (h.run pins s σ H P1 I hp) fun u s1 ⟨v, H1, I1, r, q⟩ => ⟨v, H1, I1, r, pq v H1 q⟩⟩
theorem ps_raiseE (T : Exn X.prog X.w X.K X.mg X.base x f C) (hc : X.calm = true) (hr : Room 2 X.A) (tk : Takes X W) (he : PE X e te) (hg : Gl X x := by rfl) (hdb : (x == ("__debug__" : Str)) = false := by decide)
    (hs : starEach (e :: []) X.env = (false, eval e X.env) :: starEach [] X.env := by rfl) (hpl : (backTo pos (starEach [] X.env)).any (·.1) = false := by rfl) :
    PS X (.Raise (some (.Call (.Name x p) [e] [] pos)) none pos2) (tRaiseE C f W te) := by
  obtain ⟨fI, fd, iC, tI, F, b⟩ := T.init
  have hx : Passes (L2.CX X.prog X.w) X (fun _ _ _ => False) := passL
  have m := pmk_oex (pos := pos) (p := p) T.o iC tI F (hr.mono (Nat.le_refl _)) b .nil hx hg T.g (pa_cons (pe_cl he) pa_nil hs) hdb hs hpl
  have r := ps_raise (pos := pos2) hc tk m
  refine ⟨fun pins s σ H D I h => r.run pins s σ H D I ?_⟩
  show ∃ P1 : VK, te σ H P1 ∧ _
  have key : ∀ v H1, (tellV v ∧ ∀ d H2, Ex H1 H2 → H2 d = some (.xd [(f, v)]) → W (.ref C) (some d) σ H2) →
      ([v] : List V).length ≤ 1000 ∧ ∀ a, H1 a = none → spExc X.K C f (.ref a :: ([v] ++ [])) (upd H1 a (exo a C none))
        (fun u H2 => u = .non ∧ ∃ (d : Addr) (fs : List (Str × V)), H2 a = some (exo a C (some d)) ∧ H2 d = some (exd d fs) ∧ H1 d = none ∧ W (.ref C) (some d) σ (upd (del H2 a) d (.xd fs))) (fun _ _ _ => False) := by
    intro v H1 q
    refine ⟨by show 1 ≤ 1000; decide, fun a ha => ⟨a, v, rfl, q.1, upd_same, fun dx hdx hne => ⟨rfl, dx, [(f, v)], upd_same, ?_, ?_, ?_⟩⟩⟩
    · rw [upd_ne hne, upd_same]
    · rw [upd_ne hne] at hdx
      exact hdx
    · have hd1 : H1 dx = none := by
        rw [upd_ne hne] at hdx
        exact hdx
      refine q.2 dx _ (fun b o hb => ?_) upd_same
      have n1 : b ≠ dx := ne_of_none hb hd1
      have n2 : b ≠ a := ne_of_none hb ha
      rw [upd_ne n1, del_ne n2, upd_ne n2, upd_ne n1, upd_ne n2]
      exact hb
  exact ⟨_, h, fun v H1 q => key v H1 q⟩
end
section
variable {K : PySem.W.Frag} {H : Hp} {Q : VK} {i : Int}
theorem r_isII (q : Q (.bl true) H) : rIsi K [.int i, .ty "int"] H Q := r_isiI (kit_ty (by decide +kernel)) q
theorem r_isIB (q : Q (.bl false) H) : rIsi K [.int i, .ty "bool"] H Q := r_isiI (kit_ty (by decide +kernel)) q
theorem r_isLL {p : Addr} {xs : List V} (hp : H p = some (.lst xs)) (q : Q (.bl true) H) : rIsi K [.ref p, .ty "list"] H Q := r_isiL (kit_ty (by decide +kernel)) hp q
end

/-! ### loops -/
def ForW (g : TG) (tb : TS) (D : Ends) (σ : L2.St) (J : It) (H1 : Hp) : Prop := ∃ W : Nat → Nat → L2.St → Hp → Prop, (∃ m, W 0 m σ H1) ∧ ∀ i m σ H, W i m σ H →
  (J.stop i H ∧ D.nx σ H) ∨ (J.go i H ∧ ∃ N : L2.St → Hp → Prop, (∀ σ' H', N σ' H' → ∃ m', m' < m ∧ W (i + 1) m' σ' H') ∧ ∀ x H', J.yld i H x H' → g x σ H' fun σ2 H2 => tb { D with nx := N, ct := N, bk := D.nx } σ2 H2)
def ItL (K : PySem.W.Frag) (x : V) (H : Hp) (R : It → Hp → Prop) : Prop := ∃ a, x = .ref a ∧ (∃ xs, SqL K H a xs) ∧ R (Itl K a) H
def ItT (K : PySem.W.Frag) (x : V) (H : Hp) (R : It → Hp → Prop) : Prop := ∃ a, x = .ref a ∧ (∃ xs, SqT K H a xs) ∧ R (Itt K a) H
def ItR1 (vs : List V) (H : Hp) (R : It → Hp → Prop) : Prop := ∃ j : Int, vs = [.int j] ∧ -(2 ^ 62) ≤ j ∧ j < 2 ^ 62 ∧ R (Itr 0 j.toNat) H
def ItR2 (vs : List V) (H : Hp) (R : It → Hp → Prop) : Prop := ∃ i j : Int, vs = [.int i, .int j] ∧ (-(2 ^ 62) ≤ i ∧ i < 2 ^ 62 ∧ -(2 ^ 62) ≤ j ∧ j < 2 ^ 62) ∧ R (Itr i (j - i).toNat) H
def ItE (K : PySem.W.Frag) (vs : List V) (H : Hp) (R : It → Hp → Prop) : Prop := ∃ a xs, vs = [.ref a] ∧ SqL K H a xs ∧ R (Ite K a) H
def LcW (g : TG) (tt : TT) (te : TE) (vs : List Nat) (σ : L2.St) (Q : VK) (J : It) (H1 : Hp) : Prop := ∀ D, H1 D = none → ∃ W : Nat → Nat → Hp → Prop, (∃ m, W 0 m (upd H1 D (.lst []))) ∧ ∀ i m H, W i m H →
  (J.stop i H ∧ Q (.ref D) H) ∨ (J.go i H ∧ ∃ Nx : Hp → Prop, (∀ H', Nx H' → ∃ m', m' < m ∧ W (i + 1) m' H') ∧ ∀ x H', J.yld i H x H' → g x (wipe σ vs) H' fun σ2 H2 => wipe σ2 vs = wipe σ vs ∧ tt σ2 H2 fun b H3 =>
    if b = true then te σ2 H3 fun y H4 => ∃ acc, H4 D = some (.lst acc) ∧ acc.length < sizeLine ∧ Nx (upd H4 D (.lst (acc ++ [y]))) else Nx H3)
def AppW (p : Addr) (N : Hp → Prop) (y : V) (H4 : Hp) : Prop := ∃ acc, H4 p = some (.lst acc) ∧ acc.length < sizeLine ∧ N (upd H4 p (.lst (acc ++ [y])))
def WhB (tb : TS) (D : Ends) (W : Nat → L2.St → Hp → Prop) (m : Nat) (σ : L2.St) (b : Bool) (H1 : Hp) : Prop :=
  if b = true then ∃ N : L2.St → Hp → Prop, (∀ σ' H', N σ' H' → ∃ m', m' < m ∧ W m' σ' H') ∧ tb { D with nx := N, ct := N, bk := D.nx } σ H1 else D.nx σ H1
section
variable {K : PySem.W.Frag} {σ : L2.St} {H : Hp} {D : Ends} {tb : TS} {te : TE} {ta : TA} {g : TG} {wi : TI} {tt c : TT} {Q : VK} {R : It → Hp → Prop} {a : Addr} {xs : List V} {ns : List Int} {m m1 m2 : Nat} {vs : List Nat} {i j : Int}
theorem r_for (h : wi σ H (ForW g tb D σ)) : tFor wi g tb D σ H := h
theorem r_lc (h : wi σ H (LcW g tt te vs σ Q)) : tLc wi g tt te vs σ H Q := h
theorem r_iList (h : te σ H fun x H1 => ItL K x H1 R) : iList K te σ H R := h
theorem r_iTup (h : te σ H fun x H1 => ItT K x H1 R) : iTup K te σ H R := h
theorem r_iRng1 (h : ta σ H fun x H1 => ItR1 x H1 R) : iRng1 ta σ H R := h
theorem r_iRng2 (h : ta σ H fun x H1 => ItR2 x H1 R) : iRng2 ta σ H R := h
theorem r_iEnum (h : ta σ H fun x H1 => ItE K x H1 R) : iEnum K ta σ H R := h
theorem forL (hx : SqL K H a xs) (Pv : Nat → L2.St → Hp → Prop) (h0 : Pv 0 σ H) (hl : ∀ i s h, i ≤ xs.length → Pv i s h → SqL K h a xs)
    (hs : ∀ i x s h, xs[i]? = some x → Pv i s h → g x s h fun s2 h2 => tb ⟨Pv (i + 1), D.rt, D.nx, Pv (i + 1)⟩ s2 h2) (hd : ∀ s h, Pv xs.length s h → D.nx s h) : ItL K (.ref a) H (ForW g tb D σ) :=
  ⟨a, rfl, ⟨xs, hx⟩, for_list (K := K) (a := a) (xs := xs) Pv h0 hl hs hd⟩
theorem forI (hx : SqL K H a (ns.map V.int)) (Pv : Nat → L2.St → Hp → Prop) (h0 : Pv 0 σ H) (hl : ∀ i s h, i ≤ ns.length → Pv i s h → SqL K h a (ns.map V.int))
    (hs : ∀ i z s h, ns[i]? = some z → Pv i s h → tb ⟨Pv (i + 1), D.rt, D.nx, Pv (i + 1)⟩ (s.set m (some (.int z))) h) (hd : ∀ s h, Pv ns.length s h → D.nx s h) : ItL K (.ref a) H (ForW (gName m) tb D σ) := by
  refine forL hx Pv h0 (fun i s h hi p => hl i s h (by rw [List.length_map] at hi; exact hi) p) (fun i x s h hi p => ?_) (fun s h p => hd s h (by rw [List.length_map] at p; exact p))
  rw [List.getElem?_map] at hi
  cases e : ns[i]? with
  | none =>
    rw [e] at hi
    cases hi
  | some z =>
    rw [e] at hi
    cases hi
    exact hs i z s h e p
theorem forR1 (h1 : -1000000000 ≤ j) (h2 : j ≤ 1000000000) (Pv : Nat → L2.St → Hp → Prop) (h0 : Pv 0 σ H)
    (hs : ∀ (i : Nat) s h, (i : Int) < j → Pv i s h → tb ⟨Pv (i + 1), D.rt, D.nx, Pv (i + 1)⟩ (s.set m (some (.int i))) h) (hd : ∀ s h, Pv j.toNat s h → D.nx s h) : ItR1 [.int j] H (ForW (gName m) tb D σ) := by
  refine ⟨j, rfl, by omega, by omega, for_range (lo := 0) (n := j.toNat) Pv h0 (fun i s h hi p => ?_) hd⟩
  have e : (0 : Int) + (i : Int) = (i : Int) := Int.zero_add _
  show tb _ (s.set m (some (.int ((0 : Int) + (i : Int))))) h
  rw [e]
  exact hs i s h (by omega) p
theorem forR2 (h1 : -1000000000 ≤ i ∧ i ≤ 1000000000) (h2 : -1000000000 ≤ j ∧ j ≤ 1000000000) (Pv : Nat → L2.St → Hp → Prop) (h0 : Pv 0 σ H)
    (hs : ∀ (k : Nat) s h, i + (k : Int) < j → Pv k s h → tb ⟨Pv (k + 1), D.rt, D.nx, Pv (k + 1)⟩ (s.set m (some (.int (i + k)))) h) (hd : ∀ s h, Pv (j - i).toNat s h → D.nx s h) : ItR2 [.int i, .int j] H (ForW (gName m) tb D σ) :=
  ⟨i, j, rfl, ⟨by omega, by omega, by omega, by omega⟩, for_range (lo := i) (n := (j - i).toNat) Pv h0 (fun k s h hk p => hs k s h (by omega) p) hd⟩
theorem forE (hx : SqL K H a xs) (Pv : Nat → L2.St → Hp → Prop) (h0 : Pv 0 σ H) (hl : ∀ i s h, i ≤ xs.length → Pv i s h → SqL K h a xs)
    (hs : ∀ (i : Nat) x s h h2, xs[i]? = some x → Pv i s h → Ex h h2 → tb ⟨Pv (i + 1), D.rt, D.nx, Pv (i + 1)⟩ ((s.set m1 (some (.int i))).set m2 (some x)) h2) (hd : ∀ s h, Pv xs.length s h → D.nx s h) :
    ItE K [.ref a] H (ForW (gTup K 2 (gCons (gName m1) (gCons (gName m2) gNil))) tb D σ) := by
  refine ⟨a, xs, rfl, hx, fun i m s h => m = xs.length - i ∧ i ≤ xs.length ∧ Pv i s h, ⟨xs.length, by simp, Nat.zero_le _, h0⟩, ?_⟩
  rintro i m s h ⟨rfl, hi, p⟩
  have q := hl i s h hi p
  by_cases hlt : i < xs.length
  · refine .inr ⟨⟨xs, xs[i], q, by simp [hlt]⟩, Pv (i + 1), fun s' h' p' => ⟨xs.length - (i + 1), by omega, rfl, hlt, p'⟩, fun x h' y => ?_⟩
    obtain ⟨T, z, rfl, hT, rfl, hz⟩ := y
    exact ⟨T, _, rfl, .inl (.inl upd_same), rfl, _, _, rfl, _, _, rfl, rfl, hs i z s h _ (hz xs q) p (Ex.new hT)⟩
  · have e : i = xs.length := by omega
    subst e
    exact .inl ⟨⟨xs, q, Nat.le_refl _⟩, hd s h p⟩
theorem r_while (W : Nat → L2.St → Hp → Prop) (m0 : Nat) (h0 : W m0 σ H) (hs : ∀ m s h, W m s h → c s h (WhB tb D W m s)) : tWhile c tb D σ H := ⟨W, ⟨m0, h0⟩, fun m s h w => hs m s h w⟩
theorem whB {W : Nat → L2.St → Hp → Prop} {p : Prop} [Decidable p] (h1 : p → tb ⟨fun s h => ∃ m', m' < m ∧ W m' s h, D.rt, D.nx, fun s h => ∃ m', m' < m ∧ W m' s h⟩ σ H) (h2 : ¬ p → D.nx σ H) : WhB tb D W m σ (decide p) H := by
  by_cases hp : p
  · unfold WhB
    rw [if_pos (decide_eq_true hp)]
    exact ⟨_, fun _ _ z => z, h1 hp⟩
  · unfold WhB
    rw [decide_eq_false hp]
    exact iteF (h2 hp)
theorem whB_no {W : Nat → L2.St → Hp → Prop} (h : D.nx σ H) : WhB tb D W m σ false H := iteF h
theorem appW {p : Addr} {N : Hp → Prop} {y : V} {acc : List V} (h : H p = some (.lst acc)) (l : acc.length < 100000) (k : ∀ H5, ExB p H H5 → H5 p = some (.lst (acc ++ [y])) → N H5) : AppW p N y H :=
  ⟨acc, h, sz_lt l, k _ (fun a o n e => by rw [upd_ne n]; exact e) upd_same⟩
theorem yesL {K1 : VK} {B : Hp → Prop} (h : te σ H K1) : tYes σ H fun b H3 => if b = true then te σ H3 K1 else B H3 := by
  show if true = true then te σ H K1 else B H
  exact iteT h
theorem lcR1 (h1 : -1000000000 ≤ j) (h2 : j ≤ 1000000000) (Pv : Addr → Nat → Hp → Prop) (h0 : ∀ p h, H p = none → Ex H h → h p = some (.lst []) → Pv p 0 h)
    (hs : ∀ p (i : Nat) h, (i : Int) < j → Pv p i h → te ((wipe σ vs).set m (some (.int i))) h (AppW p (Pv p (i + 1)))) (hd : ∀ p h, Pv p j.toNat h → Q (.ref p) h)
    (hw : ∀ x, wipe ((wipe σ vs).set m (some x)) vs = wipe σ vs) : ItR1 [.int j] H (LcW (gName m) tYes te vs σ Q) := by
  refine ⟨j, rfl, by omega, by omega, fun p hp => lc_range (lo := 0) (n := j.toNat) (Pv p) (h0 p _ hp (Ex.new hp) upd_same) (fun i h hi q => ?_) (hd p)⟩
  have e : (0 : Int) + (i : Int) = (i : Int) := Int.zero_add _
  rw [e]
  exact ⟨hw _, yesL (hs p i h (by omega) q)⟩
theorem lcL (hx : SqL K H a xs) (Pv : Addr → Nat → Hp → Prop) (h0 : ∀ p h, H p = none → Ex H h → h p = some (.lst []) → Pv p 0 h) (hl : ∀ p i h, i ≤ xs.length → Pv p i h → SqL K h a xs)
    (hs : ∀ p (i : Nat) x h, xs[i]? = some x → Pv p i h → te ((wipe σ vs).set m (some x)) h (AppW p (Pv p (i + 1)))) (hd : ∀ p h, Pv p xs.length h → Q (.ref p) h)
    (hw : ∀ x, wipe ((wipe σ vs).set m (some x)) vs = wipe σ vs) : ItL K (.ref a) H (LcW (gName m) tYes te vs σ Q) :=
  ⟨a, rfl, ⟨xs, hx⟩, fun p hp => lc_list (K := K) (a := a) (xs := xs) (Pv p) (h0 p _ hp (Ex.new hp) upd_same) (fun i h hi q => hl p i h hi q) (fun i x h hi q => ⟨hw x, yesL (hs p i x h hi q)⟩) (hd p)⟩
theorem lcI (hx : SqL K H a (ns.map V.int)) (Pv : Addr → Nat → Hp → Prop) (h0 : ∀ p h, H p = none → Ex H h → h p = some (.lst []) → Pv p 0 h) (hl : ∀ p i h, i ≤ ns.length → Pv p i h → SqL K h a (ns.map V.int))
    (hs : ∀ p (i : Nat) z h, ns[i]? = some z → Pv p i h → te ((wipe σ vs).set m (some (.int z))) h (AppW p (Pv p (i + 1)))) (hd : ∀ p h, Pv p ns.length h → Q (.ref p) h)
    (hw : ∀ x, wipe ((wipe σ vs).set m (some x)) vs = wipe σ vs) : ItL K (.ref a) H (LcW (gName m) tYes te vs σ Q) := by
  refine lcL hx Pv h0 (fun p i h hi q => hl p i h (by rw [List.length_map] at hi; exact hi) q) (fun p i x h hi q => ?_) (fun p h q => hd p h (by rw [List.length_map] at q; exact q)) hw
  rw [List.getElem?_map] at hi
  cases e : ns[i]? with
  | none =>
    rw [e] at hi
    cases hi
  | some z =>
    rw [e] at hi
    cases hi
    exact hs p i z h e q
theorem r_raise {C : Addr} {f : Str} {W : WX} (h : te σ H fun v H1 => tellV v ∧ ∀ d H2, Ex H1 H2 → H2 d = some (.xd [(f, v)]) → W (.ref C) (some d) σ H2) : tRaiseE C f W te D σ H := h
end
/-- lists of ints, deep -/
theorem dp_int {K : PySem.W.Frag} {H : Hp} {i : Int} : Dp K H (.int i) (.int i) := .int i
section
variable {K : PySem.W.Frag} {σ : L2.St} {H : Hp} {ts : List TE} {acc : Str} {R : Str → Hp → Prop} {v : V} {n k : Nat} {D : Ends} {a C : Addr} {f : Str}
theorem js_v (tv : tellV v) (e1 : σ[n]? = some (some v)) (ha : acc.length ≤ k) (hk : k ≤ 50000) (h : ∀ acc' : Str, acc'.length ≤ k + 1921 → tJs ts acc' σ H R) : tJs (tFmt (tVar n) :: ts) acc σ H R := by
  cases v with
  | int i => exact js_i ha hk tv (fun Q q => ⟨_, e1, q⟩) h
  | str s =>
    have hs : s.length ≤ 1000 := tv
    exact js_s (n := k) ha (by omega) (fun Q q => ⟨_, e1, q⟩) fun acc' l => h acc' (by omega)
  | non => exact tv.elim
  | bl b => exact tv.elim
  | byt b => exact tv.elim
  | flt b => exact tv.elim
  | ref b => exact tv.elim
  | ty b => exact tv.elim
theorem exc_body {parts : List TE} (js : ∀ R : Str → Hp → Prop, (∀ s, R s H) → tJs parts Str.empty σ H R) (e0 : σ[0]? = some (some (.ref a))) (e1 : σ[1]? = some (some v)) (o : OexC K C) (no : PySem.W.findIn K (.ref C) f = some none)
    (ha : H a = some (exo a C none)) (q : ∀ dx, H dx = none → dx ≠ a → D.nx σ (upd (upd H dx (exd dx [(f, v)])) a (exo a C (some dx)))) :
    tSeq (tDrop (tVeI K (tCons (tVar 0) (tCons (fun σ H Q => tJs parts Str.empty σ H fun out H1 => Q (.str out) H1) tNil)))) (tOst K f (tVar 0) (tVar 1)) D σ H := by
  refine ⟨_, e0, ?_⟩
  refine js _ fun s => ?_
  exact ⟨a, C, [.str s], rfl, by show 1 ≤ 1000; decide, o, ha, _, e1, _, e0, a, C, rfl, o, no, .inl ⟨ha, q⟩⟩
end
/-! ### comparing lists of ints -/
theorem ints_lay : ∀ ns : List Int, PyData.canLayAll0 (ns.map PyData.int) = true
  | [] => rfl
  | n :: ns => by
    have h := ints_lay ns
    simp only [List.map_cons, PyData.canLayAll0, PyData.canLay0, Bool.true_and]
    exact h
theorem ints_depth : ∀ ns : List Int, PyData.depthAll (ns.map PyData.int) ≤ 1
  | [] => by simp [PyData.depthAll]
  | n :: ns => by
    have h := ints_depth ns
    simp only [List.map_cons, PyData.depthAll, PyData.depth]
    omega
theorem shape_of {d : PyData} (h1 : d.canLay0 = true) (h2 : d.depth ≤ 64) : SeqAt.shaped d = true := by
  show (d.canLay0 && decide (d.depth ≤ 64)) = true
  rw [h1, decide_eq_true h2]
  rfl
theorem sh_ints (ns : List Int) : SeqAt.shaped (.list (ns.map PyData.int)) = true := by
  have h := ints_depth ns
  refine shape_of ?_ ?_
  · simp only [PyData.canLay0]
    exact ints_lay ns
  · simp only [PyData.depth]
    omega
theorem eqv_ints : ∀ ns ms : List Int, PyData.eqvAll (ns.map PyData.int) (ms.map PyData.int) = decide (ns = ms)
  | [], [] => by simp [PyData.eqvAll]
  | [], m :: ms => by simp [PyData.eqvAll]
  | n :: ns, [] => by simp [PyData.eqvAll]
  | n :: ns, m :: ms => by
    have h := eqv_ints ns ms
    simp only [List.map_cons, PyData.eqvAll, PyData.eqv, h]
    by_cases e1 : n = m
    · by_cases e2 : ns = ms
      · simp [e1, e2]
      · simp [e2]
    · simp [e1]
theorem eqv_listI (ns ms : List Int) : PyData.eqv (.list (ns.map PyData.int)) (.list (ms.map PyData.int)) = decide (ns = ms) := by
  simp only [PyData.eqv]
  exact eqv_ints ns ms
theorem dpa_ints {K : PySem.W.Frag} {H : Hp} : ∀ ns : List Int, DpAll K H (ns.map V.int) (ns.map PyData.int)
  | [] => .nil
  | n :: ns => .cons (.int n) (dpa_ints ns)
theorem dp_ints {K : PySem.W.Frag} {H : Hp} {p : Addr} {ns : List Int} (h : SqL K H p (ns.map V.int)) : Dp K H (.ref p) (.list (ns.map PyData.int)) := .lst h (dpa_ints ns)
section
variable {K : PySem.W.Frag} {H : Hp} {Q : VK} {p q : Addr} {ns ms : List Int}
theorem r_eqL (h1 : SqL K H p (ns.map V.int)) (h2 : SqL K H q (ms.map V.int)) (k : Q (.bl (decide (ns = ms))) H) : rEqD K (.ref p) (.ref q) H Q :=
  r_eqD (dp_ints h1) (dp_ints h2) (sh_ints _) (sh_ints _) (by rw [eqv_listI]; exact k)
theorem r_neL (h1 : SqL K H p (ns.map V.int)) (h2 : SqL K H q (ms.map V.int)) (k : Q (.bl (!decide (ns = ms))) H) : rNeD K (.ref p) (.ref q) H Q :=
  r_neD (dp_ints h1) (dp_ints h2) (sh_ints _) (sh_ints _) (by rw [eqv_listI]; exact k)
theorem r_eqSame {x y : V} {d : PyData} (hx : Dp K H x d) (hy : Dp K H y d) (s1 : SeqAt.shaped d = true) (k : Q (.bl true) H) : rEqD K x y H Q :=
  r_eqD hx hy s1 s1 (by rw [SeqAt.eqv_refl d (SeqAt.canLay_of_shaped s1)]; exact k)
theorem r_neSame {x y : V} {d : PyData} (hx : Dp K H x d) (hy : Dp K H y d) (s1 : SeqAt.shaped d = true) (k : Q (.bl false) H) : rNeD K x y H Q :=
  r_neD hx hy s1 s1 (by rw [SeqAt.eqv_refl d (SeqAt.canLay_of_shaped s1)]; exact k)
end
theorem tell_int {i : Int} (h1 : -1000000000 ≤ i) (h2 : i ≤ 1000000000) : tellV (.int i) := by
  show i.natAbs.log2 < 1920
  by_cases h : i.natAbs = 0
  · rw [h]
    decide
  · have a : i.natAbs.log2 < 30 := (Nat.log2_lt h).mpr (by omega)
    omega
/-- a part is shown apart from what follows -/
theorem r_K {te : TE} {σ : L2.St} {H : Hp} {Q : VK} (h1 : ∀ Q' : VK, (∀ i H1, Ex H H1 → Q' (.int i) H1) → te σ H Q') (h2 : ∀ i H1, Ex H H1 → Q (.int i) H1) : te σ H Q := h1 Q h2
/-- three ints at p -/
def Pur (H : Hp) (p : Addr) : Prop := ∃ a b c : Int, H p = some (.lst [.int a, .int b, .int c])
theorem Pur.ex {H H2 : Hp} {p : Addr} (h : Pur H p) (e : Ex H H2) : Pur H2 p := by
  obtain ⟨a, b, c, h⟩ := h
  exact ⟨a, b, c, e _ _ h⟩
theorem cut_ints (ns : List Int) (lo hi : Option Int) : cutV (ns.map V.int) lo hi = ((ns.drop (HT.sIx ns.length 0 lo)).take (HT.sIx ns.length ns.length hi - HT.sIx ns.length 0 lo)).map V.int := by
  unfold cutV
  rw [List.length_map, ← List.map_drop, ← List.map_take]
section
variable {σ : L2.St} {H : Hp} {Q : VK} {te : TE} {tl th : TO} {r : V → Option Int → Option Int → Hp → VK → Prop} {i : Int} {Z : Option Int → Hp → Prop}
theorem r_sl (h : te σ H fun x H1 => tl σ H1 fun l H2 => th σ H2 fun u H3 => r x l u H3 Q) : tSl r te tl th σ H Q := h
theorem r_noP (h : Z none H) : tNoPart σ H Z := h
theorem r_part (h : te σ H fun x H1 => ∃ i, x = .int i ∧ Z (some i) H1) : tPart te σ H Z := h
theorem r_in {P : Int → Prop} (h : P i) : ∃ j, V.int i = .int j ∧ P j := ⟨i, rfl, h⟩
end
theorem len3 {n : Nat} {xs : List V} (h : xs.length.ble n = true) : xs.length ≤ n := Nat.le_of_ble_eq_true h
theorem r_nT {A B : Prop} (h : B) : if (!true) = true then A else B := iteF h
theorem r_nF {A B : Prop} (h : A) : if (!false) = true then A else B := iteT h
section
variable {K : PySem.W.Frag} {σ : L2.St} {H : Hp} {Q : VK} {p q : Addr} {ns : List Int} {xs : List V} {k : Int} {v : V} {n : Nat} {f : Str} {C a dd : Addr}
theorem r_rep (h : H p = some (.lst [v])) (h0 : -1000000 ≤ k) (h1 : k ≤ 1000000) (q : ∀ p2 H2, H p2 = none → Ex H H2 → H2 p2 = some (.lst (List.replicate k.toNat v)) → Q (.ref p2) H2) : rRep (.ref p) (.int k) H Q :=
  ⟨p, k, _, rfl, rfl, h, by omega, by omega, by rw [List.length_singleton, sizeLine_eq]; omega, fun p2 n => q p2 _ n (Ex.new n) (by rw [List.flatten_replicate_singleton]; exact upd_same)⟩
theorem r_xf (e : σ[n]? = some (some (.ref a))) (h : H dd = some (.xd [(f, v)])) (q : Q v H) : tXf a (.ref C) (some dd) C f (tVar n) σ H Q :=
  ⟨_, e, rfl, rfl, dd, [(f, v)], v, rfl, h, by simp [List.lookup], q⟩
theorem r_eqT (h1 : SqL K H p (ns.map V.int)) (h2 : SqL K H q (ns.map V.int)) (k : Q (.bl true) H) : rEqD K (.ref p) (.ref q) H Q :=
  r_eqSame (dp_ints h1) (dp_ints h2) (sh_ints _) k
end
section
variable {K : PySem.W.Frag} {H : Hp} {Q : VK} {p : Addr} {xs : List V} {v a b : V}
theorem r_ix0 (h : SqL K H p (v :: xs)) (q : Q v H) : rIxL K (.ref p) (.int 0) H Q := r_ixL h (atI_V (j := 0) rfl rfl) q
theorem r_ix1 (h : SqL K H p (a :: v :: xs)) (q : Q v H) : rIxL K (.ref p) (.int 1) H Q := r_ixL h (atI_V (j := 1) rfl rfl) q
theorem r_ix2 (h : SqL K H p (a :: b :: v :: xs)) (q : Q v H) : rIxL K (.ref p) (.int 2) H Q := r_ixL h (atI_V (j := 2) rfl rfl) q
end
theorem Pur.upd {H H2 : Hp} {p l : Addr} (h : Pur H p) (e : ExB l H H2) (n : p ≠ l) : Pur H2 p := by
  obtain ⟨a, b, c, h⟩ := h
  exact ⟨a, b, c, e _ _ n h⟩
theorem Pur.ne {H : Hp} {p l : Addr} (h : Pur H p) (n : H l = none) : l ≠ p := by
  obtain ⟨a, b, c, h⟩ := h
  exact (ne_of_none h n).symm
/-! ### the end -/
section
variable {K : PySem.W.Frag} {mg : Str → Option Value} {h : Heap}
theorem at_mk {x : Str} {st : Stmt} {f : Addr} {ps : List Str} {oc : Value} {od an : Option Addr} {osl : Array (Option Value)} {kV doc pm cdv ct : Value} (X : K.In h) (G : h.Ns mainGlobals mg)
    (a : PySem.W.nsIn K mainGlobals x = some (some (.ref f))) (l : K.lookup f = some ⟨oc, od, .func (PySem.W.fnOf x x (defArgs st) (defBody st) (defScope st) .none kV doc pm an cdv ct), osl⟩) (c : PySem.W.codeIn K cdv x = true) (k : PySem.W.keepIn K (.ref f) = true)
    (hb : ∀ (kV doc pm : Value) (an : Option Addr) (cdv ct : Value) (us : List Value), us.length = ps.length → bindArgs (PySem.W.fnOf x x (defArgs st) (defBody st) (defScope st) .none kV doc pm an cdv ct) ⟨us, []⟩ = pure (ps.zip us)) : At K mg x st ps :=
  ⟨f, _, fun_mk l c k, PySem.W.mg_of X G a, (fun_mk l c k).binds hb⟩
theorem exm_is {A B : Addr} {b : Bool} (h1 : PySem.W.subIn K (.ref B) (.type "BaseException") = some true) (h2 : PySem.W.isClsIn K B = true) (h3 : PySem.W.typeIn K (.ref B) = some (.type "type")) (h4 : PySem.W.subIn K (.ref A) (.ref B) = some b) :
    PySem.W.exmOne K (.ref A) (.ref B) = some b := by
  have e1 : (PySem.W.subIn K (.ref B) (.type "BaseException") == some true) = true := by
    rw [h1]
    rfl
  have e2 : ((PySem.W.clsIn K B).isSome && PySem.W.typeIn K (.ref B) == some (.type "type")) = true := by
    have h2' : (PySem.W.clsIn K B).isSome = true := h2
    rw [h2', h3]
    rfl
  show (if (PySem.W.subIn K (.ref B) (.type "BaseException") == some true) = true then (if ((PySem.W.clsIn K B).isSome && PySem.W.typeIn K (.ref B) == some (.type "type")) = true then PySem.W.subIn K (.ref A) (.ref B) else none) else none) = some b
  rw [if_pos e1, if_pos e2, h4]
theorem exm_self {A : Addr} (h1 : PySem.W.subIn K (.ref A) (.type "BaseException") = some true) (h2 : PySem.W.isClsIn K A = true) (h3 : PySem.W.typeIn K (.ref A) = some (.type "type")) (h4 : PySem.W.subIn K (.ref A) (.ref A) = some true) :
    PySem.W.exmOne K (.ref A) (.ref A) = some true := exm_is h1 h2 h3 h4
theorem exm_not {A B : Addr} (h1 : PySem.W.subIn K (.ref B) (.type "BaseException") = some true) (h2 : PySem.W.isClsIn K B = true) (h3 : PySem.W.typeIn K (.ref B) = some (.type "type")) (h4 : PySem.W.subIn K (.ref A) (.ref B) = some false) :
    PySem.W.exmOne K (.ref A) (.ref B) = some false := exm_is h1 h2 h3 h4
end
section
variable {P : Program} {w : World} {K : PySem.W.Frag} {mg : Str → Option Value} {base : Heap}
/-- the law itself: its own def stays in sight -/
theorem fnK {x : Str} {st : Stmt} {f : Addr} {fd : FuncData} {N ps : List Str} {k : Nat} {sp : Sp} (F : Fun K x x st f fd) (S : FnScope N ps (defScope st)) (len : ∀ vs H Q E, sp vs H Q E → vs.length = ps.length)
    (hbody : ∀ (f : Addr) (cdv : Value) (A : Around) (outer : List Env) (s : Shared) (H : Hp) (vs : List V) (Q : VK) (E : XK), Room k (A.deeper (envOfC x (defScope st) s.heap.objs.size f cdv)) → sp vs H Q E →
      ∃ t, PSs (cxOf (L2.CX P w) P w K mg base N x (defScope st) f cdv A outer s H E) (defBody st) t ∧ t { nx := fun _ H' => Q .non H', rt := Q } (start N vs) H) : FnOk P w K mg base (L2.CX P w) (k + 1) f fd ps sp := F.okX S len (hbody f)
end
theorem end_of {l : PySem.W.OpenLaw} {k : Nat} {q : Program} {loose : List Str} {XP : (Str → Option Value) → Heap → Prop} {YP : World → Heap → Prop} {d : DefRec} {K : Params → PySem.W.Frag} {sp : PySem.W.Frag → Sp}
    (hn : l.most = some 63) (hdf : d.params.defaults = []) (hr : Room k callerA) (hY : ∀ (w : World) (h : Heap), YP w h → (K w.params).In h)
    (hsp : ∀ (K : PySem.W.Frag) (H : Hp) (a : Addr) (ns : List Int), ns.length ≤ 63 → SqL K H a (ns.map V.int) → sp K [.ref a] H (fun v _ => v = .bl true) fun _ _ _ => False)
    (F : ∀ (w : World) (mg : Str → Option Value) (fa : Addr) (h : Heap), (K w.params).In h → h.Ns mainGlobals mg → mg d.name = some (.ref fa) →
      ∃ fd : FuncData, (∀ (s : Shared) (u : Value), BindsTo s fd ⟨[u], []⟩ [("script", u)]) ∧ ∀ base : Heap, (K w.params).In base → base.Ns mainGlobals mg → FnOk l.prog w (K w.params) mg base (L2.CX l.prog w) k fa fd ["script"] (sp (K w.params))) :
    PySem.W.WalkO q loose XP YP l.row.toRowW d [] (fun f vs => PySem.call f vs) :=
  walk_of (n := 63) (x := "script") (CX := fun w => L2.CX l.prog w) (sp := fun w => sp (K w.params)) hn (by decide) hdf hr hY F (fun _ H a ns h1 _ h3 => hsp _ H a ns h1 h3) fun _ _ _ _ _ z => by
    obtain ⟨_, _, _, _, _, _, _, _, _, _, _, _, z⟩ := z
    exact z.elim
end Lay
namespace LayR
open PySem PySem.Spec PyProof.Rows L2 RT
section
variable {prog : Program} {w : World} {A : Around} {E : Value → Shared → Prop} {s : Shared}
/-- S.extend(it), S an empty list, it a list's reverse iterator at its begin -/
theorem extend_rev {it l S : Addr} {items : Array Value} {res : Value} {c0 : Nat} {R : Result → Shared → Prop} (hh : A.handled = none) (hit : s.heap.IsRevIter it l ((items.size : Int) - 1)) (hl : s.heap.IsList l items) (hne : l ≠ it) (hn : items.size ≤ sizeLine)
    (hSi : S ≠ it) (hSl : S ≠ l) (hS : s.heap.get? S = some { cls := .type "list", data := .seq #[] c0 })
    (hR : ∀ h' tk acc c', (∀ b o, b ≠ S → b ≠ it → s.heap.get? b = some o → h'.get? b = some o) → h'.get? S = some { cls := .type "list", dict := none, data := .seq acc c', slots := #[] } →
      ItemsOf (fun i v => items[items.size - 1 - i]? = some v) acc items.size → R (.ok (.ret res)) { s with heap := h', toks := tk }) :
    wpAny (model prog w) A.in1 (Builtin.List.listExtendWith (.ref S) (.ref it) res)
      (fun fin s' => match fin with | .done f => R (.ok f) s' | .again c' => c'.quiet = true ∧ codeAny (model prog w) A c' R s') (fun e s' => R (.error e) s') s := by
  have W := (Walks.listRev (prog := prog) (w := w) (A := A.in1) hh it l hne items).toS
  have hSf : S ∉ [it, l] := by
    simp only [List.mem_cons, List.not_mem_nil, or_false, not_or]
    exact ⟨hSi, hSl⟩
  have hT : s.TypeIs (.ref it) "list_reverseiterator" := hit.typeIs
  have h1 : Builtin.List.listSameRef (.ref S) (.ref it) = false := by simp [Builtin.List.listSameRef, hSi]
  unfold Builtin.List.listExtendWith
  refine wpAny_bind (wpAny_typeOf hT ?_)
  rw [if_neg (by rw [h1]; decide)]
  refine wpAny_bind (wpAny_pyIter_revIter hit ?_)
  refine wpAny_bind (wpAny_holding ?_)
  unfold Builtin.List.listLengthHint
  refine wpAny_bind (wpAny_specialOf hT nolen_lri ?_)
  show wpAny _ A.in1 (specialOf (Value.ref it) (Str.ofString "__length_hint__") >>= _) _ _ _
  refine wpAny_bind (wpAny_specialOf hT hint_lri ?_)
  generalize hid : ("list_reverseiterator.__length_hint__" : String) = id0
  wp_delta
  rw [show splitId id0 = some ("list_reverseiterator", "__length_hint__") by subst hid; decide +kernel]
  subst hid
  refine wpAny_bind (wpAny_isInstance (b := true) hT (by rw [isSubtype_type]; kernel_rfl) (wpAny_pure ?_))
  rw [if_neg (by decide)]
  have e0 : ((items.size : Nat) : Int) - 1 - ((0 : Nat) : Int) = (items.size : Int) - 1 := by omega
  refine wpAny_pure ⟨plainId_quiet F.plain_extend_loop _, codeAny_extend_loopS W hn S hSf _ items.size 0 _ _ _ rfl (Nat.zero_le _) ⟨Nat.zero_le _, by rw [e0]; exact hit, hl⟩ hS (ItemsOf.nil _) fun s' acc' c' hm hS' hacc => ?_⟩
  rw [Moved.eq_with hm]
  refine hR s'.heap s'.toks acc' c' (fun b o hb hb2 e => hm.heap b o (fun hmem => ?_) e) hS' hacc
  rcases List.mem_cons.mp hmem with e' | hmem
  · exact hb e'
  · exact hb2 (List.mem_singleton.mp hmem)
theorem call_list_rev {it l : Addr} {items : Array Value} {Q : Value → Shared → Prop} (hh : A.handled = none) (hit : s.heap.IsRevIter it l ((items.size : Int) - 1)) (hl : s.heap.IsList l items) (hne : l ≠ it) (hn : items.size ≤ sizeLine)
    (hQ : ∀ h' tk acc c', (∀ b o, b ≠ it → s.heap.get? b = some o → h'.get? b = some o) → h'.get? s.heap.objs.size = some { cls := .type "list", dict := none, data := .seq acc c', slots := #[] } →
      ItemsOf (fun i v => items[items.size - 1 - i]? = some v) acc items.size → Q (.ref s.heap.objs.size) { s with heap := h', toks := tk }) :
    wpAny (model prog w) A (call (.type "list") [.ref it]) Q E s := by
  obtain ⟨oi, hoi, _⟩ := id hit
  obtain ⟨ol, hol, _⟩ := id hl
  have hSi : s.heap.objs.size ≠ it := Nat.ne_of_gt (Heap.lt_size hoi)
  have hSl : s.heap.objs.size ≠ l := Nat.ne_of_gt (Heap.lt_size hol)
  refine callType_codes (Q₁ := fun obj s₁ => obj = .ref s.heap.objs.size ∧ s₁ = { s with heap := s.heap.push { cls := .type "list", data := .seq #[] } }) F.called_list (F.typeCall_list_1 _) F.entry_list_init (code_list_new _ ⟨rfl, rfl⟩) fun obj s₁ h₁ => ?_
  obtain ⟨rfl, rfl⟩ := h₁
  have hS : (s.heap.push { cls := .type "list", data := .seq #[] }).get? s.heap.objs.size = some { cls := .type "list", data := .seq #[] } := Heap.get?_push_size _ rfl
  refine ⟨⟨_, hS, rfl⟩, F.args_list_init_2 _ _, ?_⟩
  show wpAny _ _ (do let old ← Builtin.List.listItems (.ref s.heap.objs.size); Builtin.List.listUpdate (.ref s.heap.objs.size) (fun _ => #[]); letGo old.toList.reverse; Builtin.List.listExtendWith (.ref s.heap.objs.size) (.ref it) .none) _ _ _
  refine wpAny_bind ?_
  unfold Builtin.List.listItems
  refine wpAny_bind (wpAny_seqItems hS rfl (wpAny_pure ?_))
  show wpAny _ _ (updateSeq s.heap.objs.size (fun _ => #[]) >>= fun _ => letGo (#[] : Array Value).toList.reverse >>= fun _ => Builtin.List.listExtendWith (.ref s.heap.objs.size) (.ref it) .none) _ _ _
  refine wpAny_bind (wpAny_updateSeq hS rfl ?_)
  have hS2 := Heap.get?_update_self (Obj.mapSeq (fun _ => (#[] : Array Value))) hS rfl
  have oth : ∀ b o, b ≠ s.heap.objs.size → s.heap.get? b = some o → ((s.heap.push { cls := .type "list", data := .seq #[] }).update s.heap.objs.size (Obj.mapSeq (fun _ => (#[] : Array Value)))).get? b = some o :=
    fun b o hb e => (Heap.get?_update_other _ _ (Ne.symm hb)).trans (Heap.get?_push_of_some _ e)
  refine wpAny_bind (wpAny_letGo ?_)
  refine extend_rev (A := A.in1) hh (hit.at fun o e => oth it o hSi.symm e) (hl.at fun o e => oth l o hSl.symm e) hne hn hSi hSl hS2 fun h' tk acc c' hk hS' hacc => ?_
  exact ⟨rfl, hQ h' tk acc c' (fun b o hb e => hk b o (Nat.ne_of_lt (Heap.lt_size e)) hb (oth b o (Nat.ne_of_lt (Heap.lt_size e)) e)) hS' hacc⟩
end
/-- list(reversed(x)), x a list -/
def rLstRev (K : PySem.W.Frag) (te : TE) : TE := fun σ H Q => te σ H fun v H1 => ∃ (a : Addr) (xs : List V), v = .ref a ∧ SqL K H1 a xs ∧ Lay.NewL xs.reverse H1 Q
section
variable {X : Cx}
theorem pe_lstRev {e : Expr} {te : TE} {p p2 pos pos2 : Pos} (hc : X.calm = true) (hg : Gl X "list") (hm : X.mg "list" = none) (hg2 : Gl X "reversed") (hm2 : X.mg "reversed" = none) (he : PE X e te)
    (hs : starEach [e] X.env = (false, eval e X.env) :: starEach [] X.env := by rfl)
    (hs2 : starEach [.Call (.Name "reversed" p2) [e] [] pos2] X.env = (false, eval (.Call (.Name "reversed" p2) [e] [] pos2) X.env) :: starEach [] X.env := by rfl) :
    PE X (.Call (.Name "list" p) [.Call (.Name "reversed" p2) [e] [] pos2] [] pos) (rLstRev X.K te) := by
  refine ⟨fun pins s σ H Q I h => ?_⟩
  refine Call_ (ld_blt I hg hm boot_list (PyProof.Rows.callWith_type1 (args_cons (Call_ (ld_blt I hg2 hm2 PyProof.Rows.boot_reversed (PyProof.Rows.callWith_type1 (args_cons (thn (he.run pins s σ H _ I h) fun u s1 ⟨v, H1, I1, r1, q1⟩ => args_nil ?_) hs) hs rfl))) hs2) hs2 rfl))
  obtain ⟨a, xs, ev, hq, hz2, q⟩ := q1
  subst ev
  obtain rfl : u = Value.ref a := r1
  obtain ⟨its, rv, p', hz⟩ := I1.list hq
  refine call_reversed_list p'.isList (args_nil ?_)
  have k0 : ∀ b o, s1.heap.get? b = some o → (s1.heap.push (revObj a ((its.toArray.size : Int) - 1))).get? b = some o := fun b o e => Heap.get?_push_of_some _ e
  have I2 : Inv X pins σ H1 { s1 with heap := s1.heap.push (revObj a ((its.toArray.size : Int) - 1)) } := I1.kept (t' := s1.toks) k0
  obtain ⟨f0, f1, f2, f3, f4, f5⟩ := I1.fpOk (H' := H1) (b := s1.heap.objs.size) (Nat.le_refl _) (I1.hok.fresh (Nat.le_refl _))
  have hl := p'.isList
  obtain ⟨ol, hol, _⟩ := id hl
  have hne : a ≠ s1.heap.objs.size := Nat.ne_of_lt (Heap.lt_size hol)
  have hn : its.toArray.size ≤ sizeLine := by rw [List.size_toArray, ← rv.length]; exact hz
  refine call_list_rev (s := { s1 with heap := s1.heap.push (revObj a ((its.toArray.size : Int) - 1)) }) (I1.ok.hd hc) ⟨_, Heap.get?_push_size _ rfl, rfl, rfl⟩ (hl.push _) hne hn fun h' tk acc c' hk hS' hi => ?_
  have fp : FpOk X pins H1 s1.heap.objs.size := I1.fpOk (H' := H1) (b := s1.heap.objs.size) (Nat.le_refl _) (I1.hok.fresh (Nat.le_refl _))
  have I3 := I2.turnedNew (t' := tk) (ch := [s1.heap.objs.size]) (ob := .lst xs.reverse) (fun b o hb e => hk b o (by simpa using hb) e) (by intro b hb; obtain rfl := List.mem_singleton.mp hb; exact fp) (Nat.le_refl _)
    (show ObjOk X.prog X.w _ _ _ (.lst xs.reverse) from ⟨by rw [List.length_reverse]; exact hz, acc.toList, c', vals_rev rv hi, ?_⟩)
  · exact ⟨.ref _, _, I3, rfl, q _ (I2.hok.fresh (Nat.le_refl _))⟩
  · rw [Array.toArray_toList]
    exact hS'
end
end LayR
namespace Lay
open PySem PySem.Spec PyProof.Rows L2 Evl
section
variable {X : Cx}
/-- tuple(x) -/
def rTuple (K : PySem.W.Frag) : List V → Hp → VK → Prop := fun xs H Q => ∃ p ys, xs = [.ref p] ∧ ((SqL K H p ys ∧ ∀ l, H l = none → Q (.ref l) (upd H l (.tup ys))) ∨ (SqT K H p ys ∧ Q (.ref p) H))
theorem c_tuple : CallR X (.type "tuple") (rTuple X.K) := call_tuple_of
end
section
variable {K : PySem.W.Frag} {σ : L2.St} {H : Hp} {D : Ends} {te : TE} {Q : VK} {p q : Addr} {xs ys : List V} {ns ms : List Int} {v : V} {n : Nat} {i j k l : Int} {t : TGs} {g : TG} {R : L2.St → Hp → Prop}
theorem r_asg (h : te σ H fun x H1 => g x σ H1 D.nx) : tAsg te g D σ H := h
theorem r_gTup (h : SqT K H p xs) (l : xs.length = n) (q : t xs σ H R) : gTup K n t (.ref p) σ H R := ⟨p, xs, rfl, h, l, q⟩
theorem r_gUnl (h : SqL K H p xs) (l : xs.length = n) (q : t xs σ H R) : gUnl K n t (.ref p) σ H R := ⟨p, xs, rfl, h, l, q⟩
theorem r_gCons {u : TGs} (h : g v σ H fun σ' H' => u xs σ' H' R) : gCons g u (v :: xs) σ H R := ⟨v, xs, rfl, h⟩
theorem r_gNil (h : R σ H) : gNil [] σ H R := ⟨rfl, h⟩
theorem r_gName {m : Nat} (h : R (σ.set m (some v)) H) : gName m v σ H R := h
theorem r_revV (e : σ[n]? = some (some (.ref p))) (h : SqL K H p (ns.map V.int)) (l : ns.length ≤ 100000) (q : ∀ p2 H2, H p2 = none → Ex H H2 → H2 p2 = some (.lst (ns.reverse.map V.int)) → Q (.ref p2) H2) : LayR.rLstRev K (tVar n) σ H Q :=
  ⟨_, e, p, ns.map V.int, rfl, h, r_newL (by rw [List.length_reverse, List.length_map]; exact l) fun p2 H2 n e h => q p2 H2 n e (by rw [List.map_reverse]; exact h)⟩
/-! ### new lists of ints -/
theorem r_newI0 (h : ∀ p H2, H p = none → Ex H H2 → H2 p = some (.lst (([] : List Int).map V.int)) → Q (.ref p) H2) : NewL [] H Q := r_newL (by decide) h
theorem r_newI1 (h : ∀ p H2, H p = none → Ex H H2 → H2 p = some (.lst ([i].map V.int)) → Q (.ref p) H2) : NewL [.int i] H Q := r_newL (len3 rfl) h
theorem r_newI2 (h : ∀ p H2, H p = none → Ex H H2 → H2 p = some (.lst ([i, j].map V.int)) → Q (.ref p) H2) : NewL [.int i, .int j] H Q := r_newL (len3 rfl) h
theorem r_newI3 (h : ∀ p H2, H p = none → Ex H H2 → H2 p = some (.lst ([i, j, k].map V.int)) → Q (.ref p) H2) : NewL [.int i, .int j, .int k] H Q := r_newL (len3 rfl) h
theorem r_newI4 (h : ∀ p H2, H p = none → Ex H H2 → H2 p = some (.lst ([i, j, k, l].map V.int)) → Q (.ref p) H2) : NewL [.int i, .int j, .int k, .int l] H Q := r_newL (len3 rfl) h
theorem r_catI (h : H p = some (.lst (ns.map V.int))) (h' : H q = some (.lst (ms.map V.int))) (l : ns.length + ms.length ≤ 100000) (k : ∀ p2 H2, H p2 = none → Ex H H2 → H2 p2 = some (.lst ((ns ++ ms).map V.int)) → Q (.ref p2) H2) : rCat (.ref p) (.ref q) H Q :=
  r_cat h h' (by rw [List.length_map, List.length_map]; exact l) fun p2 H2 n e h => k p2 H2 n e (by rw [List.map_append]; exact h)
theorem r_appI (h : H p = some (.lst (ns.map V.int))) (l : ns.length < 100000) (q : ∀ H2, ExB p H H2 → H2 p = some (.lst ((ns ++ [i]).map V.int)) → (∀ a, H a = none → H2 a = none) → Q .non H2) : rAppend (.ref p) [.int i] H Q :=
  r_app h (by rw [List.length_map]; exact l) fun H2 e h2 f => q H2 e (by rw [List.map_append]; exact h2) f
theorem r_listI (h : SqL K H p (ns.map V.int)) (k : ∀ p2 H2, H p2 = none → Ex H H2 → H2 p2 = some (.lst (ns.map V.int)) → Q (.ref p2) H2) : rList K [.ref p] H Q := r_list h k
theorem r_listT (h : SqT K H p xs) (k : ∀ p2 H2, H p2 = none → Ex H H2 → H2 p2 = some (.lst xs) → Q (.ref p2) H2) : rList K [.ref p] H Q := ⟨p, xs, rfl, .inr h, fun p2 n => k p2 _ n (Ex.new n) upd_same⟩
theorem r_tupleL (h : SqL K H p xs) (k : ∀ p2 H2, H p2 = none → Ex H H2 → H2 p2 = some (.tup xs) → Q (.ref p2) H2) : rTuple K [.ref p] H Q := ⟨p, xs, rfl, .inl ⟨h, fun p2 n => k p2 _ n (Ex.new n) upd_same⟩⟩
theorem r_tupleT (h : SqT K H p xs) (k : Q (.ref p) H) : rTuple K [.ref p] H Q := ⟨p, xs, rfl, .inr ⟨h, k⟩⟩
theorem r_lenT (h : SqT K H p xs) (q : Q (.int xs.length) H) : rLen K [.ref p] H Q := ⟨p, xs, rfl, .inr h, q⟩
/-- ns[i] = z -/
theorem r_setI {Z : Hp → Prop} {z : Int} (h : H p = some (.lst (ns.map V.int))) (h0 : 0 ≤ i) (h1 : i < ns.length) (q : ∀ H2, ExB p H H2 → H2 p = some (.lst ((ns.set i.toNat z).map V.int)) → (∀ a, H a = none → H2 a = none) → Z H2) : rSetL (.ref p) (.int i) (.int z) H Z :=
  r_setL h h0 (by rw [List.length_map]; exact h1) fun H2 e h2 f => q H2 e (by rw [List.map_set]; exact h2) f
/-- ns[b:e] -/
theorem cut_nat {b e : Nat} (ns : List Int) (h1 : b ≤ e) (h2 : e ≤ ns.length) : cutV (ns.map V.int) (some (b : Int)) (some (e : Int)) = ((ns.drop b).take (e - b)).map V.int := by
  rw [cut_ints, HT.sIx_nat, HT.sIx_nat, Nat.min_eq_left (by omega), Nat.min_eq_left (by omega)]
theorem cut_from {b : Nat} (ns : List Int) (h1 : b ≤ ns.length) : cutV (ns.map V.int) (some (b : Int)) none = (ns.drop b).map V.int := by
  rw [cut_ints, HT.sIx_nat, Nat.min_eq_left (by omega)]
  show ((ns.drop b).take (ns.length - b)).map V.int = _
  rw [List.take_of_length_le (by rw [List.length_drop]; omega)]
theorem cut_to {e : Nat} (ns : List Int) (h1 : e ≤ ns.length) : cutV (ns.map V.int) none (some (e : Int)) = (ns.take e).map V.int := by
  rw [cut_ints, HT.sIx_nat, Nat.min_eq_left (by omega)]
  show ((ns.drop 0).take (e - 0)).map V.int = _
  rw [List.drop_zero, Nat.sub_zero]
theorem r_slBE {b e : Nat} {x y : Int} (h : SqL K H p (ns.map V.int)) (hx : x = (b : Int)) (hy : y = (e : Int)) (h1 : b ≤ e) (h2 : e ≤ ns.length) (q : ∀ p2 H2, H p2 = none → Ex H H2 → H2 p2 = some (.lst (((ns.drop b).take (e - b)).map V.int)) → Q (.ref p2) H2) : rSlL K (.ref p) (some x) (some y) H Q :=
  r_slL h fun p2 H2 n e h => q p2 H2 n e (by rw [hx, hy, cut_nat ns h1 h2] at h; exact h)
theorem r_slB {b : Nat} {x : Int} (h : SqL K H p (ns.map V.int)) (hx : x = (b : Int)) (h1 : b ≤ ns.length) (q : ∀ p2 H2, H p2 = none → Ex H H2 → H2 p2 = some (.lst ((ns.drop b).map V.int)) → Q (.ref p2) H2) : rSlL K (.ref p) (some x) none H Q :=
  r_slL h fun p2 H2 n e h => q p2 H2 n e (by rw [hx, cut_from ns h1] at h; exact h)
theorem r_slE {e : Nat} {y : Int} (h : SqL K H p (ns.map V.int)) (hy : y = (e : Int)) (h1 : e ≤ ns.length) (q : ∀ p2 H2, H p2 = none → Ex H H2 → H2 p2 = some (.lst ((ns.take e).map V.int)) → Q (.ref p2) H2) : rSlL K (.ref p) none (some y) H Q :=
  r_slL h fun p2 H2 n e h => q p2 H2 n e (by rw [hy, cut_to ns h1] at h; exact h)
/-! ### isinstance of tuples -/
theorem r_isiT {nm : String} {b : Bool} (h : PySem.W.kitOne K (.type "tuple") (.type nm) = some b) (hp : H p = some (.tup xs)) (q : Q (.bl b) H) : rIsi K [.ref p, .ty nm] H Q := ⟨.ref p, .ty nm, .type "tuple", .type nm, b, rfl, .ty nm, .base (.tup hp), h, q⟩
theorem r_isTT (hp : H p = some (.tup xs)) (q : Q (.bl true) H) : rIsi K [.ref p, .ty "tuple"] H Q := r_isiT (kit_ty (by decide +kernel)) hp q
theorem r_isTL (hp : H p = some (.tup xs)) (q : Q (.bl false) H) : rIsi K [.ref p, .ty "list"] H Q := r_isiT (kit_ty (by decide +kernel)) hp q
theorem r_isLT (hp : H p = some (.lst xs)) (q : Q (.bl false) H) : rIsi K [.ref p, .ty "tuple"] H Q := r_isiL (kit_ty (by decide +kernel)) hp q
end
/-! ### heaps, backwards -/
theorem freshB {p l : Addr} {A B : Hp} (e : ExB p A B) (n : l ≠ p) (h : B l = none) : A l = none := by
  cases hx : A l with
  | none => rfl
  | some o =>
    have := e _ _ n hx
    rw [h] at this
    cases this
theorem ext {K : PySem.W.Frag} {H H' : Hp} {a : Addr} {xs : List V} (e : Ex H H') (h : SqT K H a xs) : SqT K H' a xs := ex_t e h
theorem exb_t {K : PySem.W.Frag} {l : Addr} {H H' : Hp} {a : Addr} {xs : List V} (e : ExB l H H') (n : a ≠ l) (h : SqT K H a xs) : SqT K H' a xs := by
  rcases h with (h | ⟨o, h⟩) | h
  · exact .inl (.inl (e _ _ n h))
  · exact .inl (.inr ⟨o, e _ _ n h⟩)
  · exact .inr h
theorem ne_pur {H : Hp} {p l : Addr} (h : Pur H p) (n : H l = none) : p ≠ l := (h.ne n).symm
section
variable {K : PySem.W.Frag} {σ : L2.St} {H : Hp} {D : Ends} {te : TE} {g : TG} {tb : TS} {tt : TT} {Q : VK} {a : Addr} {xs : List V} {ns : List Int} {m : Nat} {vs : List Nat}
/-- over a tuple -/
theorem forT (hx : SqT K H a xs) (Pv : Nat → L2.St → Hp → Prop) (h0 : Pv 0 σ H) (hl : ∀ i s h, i ≤ xs.length → Pv i s h → SqT K h a xs)
    (hs : ∀ i x s h, xs[i]? = some x → Pv i s h → g x s h fun s2 h2 => tb ⟨Pv (i + 1), D.rt, D.nx, Pv (i + 1)⟩ s2 h2) (hd : ∀ s h, Pv xs.length s h → D.nx s h) : ItT K (.ref a) H (ForW g tb D σ) :=
  ⟨a, rfl, ⟨xs, hx⟩, for_tup (K := K) (a := a) (xs := xs) Pv h0 hl hs hd⟩
theorem lcT (hx : SqT K H a xs) (Pv : Addr → Nat → Hp → Prop) (h0 : ∀ p h, H p = none → Ex H h → h p = some (.lst []) → Pv p 0 h) (hl : ∀ p i h, i ≤ xs.length → Pv p i h → SqT K h a xs)
    (hs : ∀ p (i : Nat) x h, xs[i]? = some x → Pv p i h → te ((wipe σ vs).set m (some x)) h (AppW p (Pv p (i + 1)))) (hd : ∀ p h, Pv p xs.length h → Q (.ref p) h)
    (hw : ∀ x, wipe ((wipe σ vs).set m (some x)) vs = wipe σ vs) : ItT K (.ref a) H (LcW (gName m) tYes te vs σ Q) :=
  ⟨a, rfl, ⟨xs, hx⟩, fun p hp => lc_tup (K := K) (a := a) (xs := xs) (Pv p) (h0 p _ hp (Ex.new hp) upd_same) (fun i h hi q => hl p i h hi q) (fun i x h hi q => ⟨hw x, yesL (hs p i x h hi q)⟩) (hd p)⟩
/-- [one for one in xs] -/
theorem lcLcopy (hx : SqL K H a xs) (l : xs.length ≤ 100000) (e : (wipe σ vs).length > m) (q : ∀ p H2, H p = none → Ex H H2 → H2 p = some (.lst xs) → Q (.ref p) H2)
    (hw : ∀ x, wipe ((wipe σ vs).set m (some x)) vs = wipe σ vs) : ItL K (.ref a) H (LcW (gName m) tYes (tVar m) vs σ Q) := by
  refine lcL hx (fun p i h => h p = some (.lst (xs.take i)) ∧ Ex H h ∧ H p = none) (fun p h n e h1 => ⟨h1, e, n⟩) (fun p i h _ ⟨_, e, _⟩ => ex_l e hx) (fun p i x h hi ⟨h1, e1, n⟩ => ?_) (fun p h ⟨h1, e1, n⟩ => q p h n e1 (by rw [List.take_length] at h1; exact h1)) hw
  have hil := (List.getElem?_eq_some_iff.mp hi).1
  refine r_var (v := x) (by rw [List.getElem?_set_self e]) (appW h1 (by rw [List.length_take]; omega) fun H5 e5 h5 => ⟨?_, ExB.ex e1 e5 n, n⟩)
  rw [h5, List.take_succ, hi]
  rfl
theorem lcTcopy (hx : SqT K H a xs) (l : xs.length ≤ 100000) (e : (wipe σ vs).length > m) (q : ∀ p H2, H p = none → Ex H H2 → H2 p = some (.lst xs) → Q (.ref p) H2)
    (hw : ∀ x, wipe ((wipe σ vs).set m (some x)) vs = wipe σ vs) : ItT K (.ref a) H (LcW (gName m) tYes (tVar m) vs σ Q) := by
  refine lcT hx (fun p i h => h p = some (.lst (xs.take i)) ∧ Ex H h ∧ H p = none) (fun p h n e h1 => ⟨h1, e, n⟩) (fun p i h _ ⟨_, e, _⟩ => ex_t e hx) (fun p i x h hi ⟨h1, e1, n⟩ => ?_) (fun p h ⟨h1, e1, n⟩ => q p h n e1 (by rw [List.take_length] at h1; exact h1)) hw
  have hil := (List.getElem?_eq_some_iff.mp hi).1
  refine r_var (v := x) (by rw [List.getElem?_set_self e]) (appW h1 (by rw [List.length_take]; omega) fun H5 e5 h5 => ⟨?_, ExB.ex e1 e5 n, n⟩)
  rw [h5, List.take_succ, hi]
  rfl
end
/-! ### tuples of ints compared -/
theorem sh_tints (ns : List Int) : SeqAt.shaped (.tuple (ns.map PyData.int)) = true := by
  have h := ints_depth ns
  refine shape_of ?_ ?_
  · simp only [PyData.canLay0]
    exact ints_lay ns
  · simp only [PyData.depth]
    omega
theorem dp_tints {K : PySem.W.Frag} {H : Hp} {p : Addr} {ns : List Int} (h : SqT K H p (ns.map V.int)) : Dp K H (.ref p) (.tuple (ns.map PyData.int)) := .tup h (dpa_ints ns)
/-! ### lists of lists of ints -/
def ptab (t : List (List Int)) : PyData := .list (t.map fun ns => PyData.list (ns.map PyData.int))
theorem tab_lay : ∀ t : List (List Int), PyData.canLayAll0 (t.map fun ns => PyData.list (ns.map PyData.int)) = true
  | [] => rfl
  | ns :: t => by
    have h := tab_lay t
    simp only [List.map_cons, PyData.canLayAll0, PyData.canLay0, ints_lay, Bool.true_and]
    exact h
theorem tab_depth : ∀ t : List (List Int), PyData.depthAll (t.map fun ns => PyData.list (ns.map PyData.int)) ≤ 2
  | [] => by simp [PyData.depthAll]
  | ns :: t => by
    have h := tab_depth t
    have h2 := ints_depth ns
    simp only [List.map_cons, PyData.depthAll, PyData.depth]
    omega
theorem sh_tab (t : List (List Int)) : SeqAt.shaped (ptab t) = true := by
  have h := tab_depth t
  refine shape_of ?_ ?_
  · simp only [ptab, PyData.canLay0]
    exact tab_lay t
  · simp only [ptab, PyData.depth]
    omega
theorem dp_tab2 {K : PySem.W.Frag} {H : Hp} {p a b : Addr} {ns ms : List Int} (h : SqL K H p [.ref a, .ref b]) (ha : SqL K H a (ns.map V.int)) (hb : SqL K H b (ms.map V.int)) : Dp K H (.ref p) (ptab [ns, ms]) :=
  .lst h (.cons (dp_ints ha) (.cons (dp_ints hb) .nil))
/-! ### conditions that are values -/
section
variable {K : PySem.W.Frag} {σ : L2.St} {H : Hp} {Q : VK} {x y : V} {i j : Int} {P : Prop} [Decidable P]
theorem r_iteC (h : Q (.int (if P then i else j)) H) : if decide P = true then tC (.int i) σ H Q else tC (.int j) σ H Q := by
  by_cases c : P
  · rw [if_pos (decide_eq_true c)]
    rw [if_pos c] at h
    exact h
  · rw [if_neg (by rw [decide_eq_false c]; decide)]
    rw [if_neg c] at h
    exact h
theorem r_chain {r r' : R2} {ta tb tc : TE} (h : ta σ H fun x H1 => tb σ H1 fun y H2 => r x y H2 fun z H3 => ∃ k, z = .bl k ∧ (if k = true then tc σ H3 fun w' H4 => r' y w' H4 Q else Q (.bl false) H3)) : tChain r r' ta tb tc σ H Q := h
theorem r_tIfI {c : TT} (h : c σ H fun b H1 => if b = true then tC (.int i) σ H1 Q else tC (.int j) σ H1 Q) : tIf c (tC (.int i)) (tC (.int j)) σ H Q := h
theorem r_ixT0 {p : Addr} {xs : List V} {v : V} (h : SqT K H p (v :: xs)) (q : Q v H) : rIxT K (.ref p) (.int 0) H Q := r_ixT h (atI_V (j := 0) rfl rfl) q
theorem r_ixT1 {p : Addr} {xs : List V} {a v : V} (h : SqT K H p (a :: v :: xs)) (q : Q v H) : rIxT K (.ref p) (.int 1) H Q := r_ixT h (atI_V (j := 1) rfl rfl) q
theorem r_ixT2 {p : Addr} {xs : List V} {a b v : V} (h : SqT K H p (a :: b :: v :: xs)) (q : Q v H) : rIxT K (.ref p) (.int 2) H Q := r_ixT h (atI_V (j := 2) rfl rfl) q
end
/-! ### the greatest of ints -/
def mx (a b : Int) : Int := if b > a then b else a
def mn (a b : Int) : Int := if b < a then b else a
def mxl : List Int → Int
  | [] => 0
  | z :: ns => ns.foldl (fun a b => if b > a then b else a) z
theorem mxf_ge : ∀ (ns : List Int) (z : Int), z ≤ ns.foldl (fun a b => if b > a then b else a) z ∧ ∀ y ∈ ns, y ≤ ns.foldl (fun a b => if b > a then b else a) z
  | [], z => ⟨Int.le_refl z, fun y h => (List.not_mem_nil h).elim⟩
  | x :: ns, z => by
    have ih := mxf_ge ns (if x > z then x else z)
    rw [List.foldl_cons]
    refine ⟨Int.le_trans ?_ ih.1, fun y hy => ?_⟩
    · split <;> omega
    · rcases List.mem_cons.mp hy with q | q
      · rw [q]
        refine Int.le_trans ?_ ih.1
        split <;> omega
      · exact ih.2 y q
theorem mxf_mem : ∀ (ns : List Int) (z : Int), ns.foldl (fun a b => if b > a then b else a) z ∈ z :: ns
  | [], z => List.mem_cons_self
  | x :: ns, z => by
    have ih := mxf_mem ns (if x > z then x else z)
    rw [List.foldl_cons]
    rcases List.mem_cons.mp ih with q | q
    · rw [q]
      by_cases c : x > z
      · rw [if_pos c]; exact List.mem_cons_of_mem _ List.mem_cons_self
      · rw [if_neg c]; exact List.mem_cons_self
    · exact List.mem_cons_of_mem _ (List.mem_cons_of_mem _ q)
theorem mxl_mem {ns : List Int} (h : 0 < ns.length) : mxl ns ∈ ns := by
  cases ns with
  | nil => exact absurd h (Nat.lt_irrefl 0)
  | cons z ns => exact mxf_mem ns z
theorem mxl_ge {ns : List Int} {y : Int} (h : y ∈ ns) : y ≤ mxl ns := by
  cases ns with
  | nil => exact (List.not_mem_nil h).elim
  | cons z ns =>
    rcases List.mem_cons.mp h with q | q
    · rw [q]; exact (mxf_ge ns z).1
    · exact (mxf_ge ns z).2 y q
section
variable {K : PySem.W.Frag} {σ : L2.St} {H : Hp} {Q : VK} {p : Addr} {xs : List V} {ns : List Int} {i j k : Int} {a b : Bool} {n : Nat}
theorem r_maxI (h : SqL K H p (ns.map V.int)) (l : 0 < ns.length) (q : Q (.int (mxl ns)) H) : rMax K [.ref p] H Q :=
  r_max h l fun m hm hge => by
    have a := hge _ (mxl_mem l)
    have b := mxl_ge hm
    have e : m = mxl ns := by omega
    rw [e]
    exact q
theorem dB {a b : Bool} : decide (V.bl a = V.bl b) = decide (a = b) := by cases a <;> cases b <;> rfl
theorem r_eqB (h : Q (.bl (decide (a = b))) H) : rEq (.bl a) (.bl b) H Q := ⟨rfl, by rw [dB]; exact h⟩
theorem r_neB (h : Q (.bl (!decide (a = b))) H) : rNe (.bl a) (.bl b) H Q := ⟨rfl, by rw [dB]; exact h⟩
/-- xs * k -/
theorem r_repG (h : H p = some (.lst xs)) (h0 : 0 ≤ k) (h1 : xs.length * k.toNat ≤ 100000) (h2 : k ≤ 1000000) (q : ∀ p2 H2, H p2 = none → Ex H H2 → H2 p2 = some (.lst (List.replicate k.toNat xs).flatten) → Q (.ref p2) H2) : rRep (.ref p) (.int k) H Q :=
  ⟨p, k, xs, rfl, rfl, h, by omega, by omega, sz_of h1, fun p2 n => q p2 _ n (Ex.new n) upd_same⟩
def rStrI : List V → Hp → VK → Prop := fun xs H Q => ∃ i : Int, xs = [.int i] ∧ i.natAbs.log2 < 1920 ∧ Q (.str (toString i)) H
def rLenS : List V → Hp → VK → Prop := fun xs H Q => ∃ z : Str, xs = [.str z] ∧ z.length ≤ sizeLine ∧ Q (.int z.length) H
theorem r_strI (h0 : -1000000000 ≤ i) (h1 : i ≤ 1000000000) (q : Q (.str (toString i)) H) : rStrI [.int i] H Q := ⟨i, rfl, tell_int h0 h1, q⟩
theorem r_lenS {z : Str} (h : z.length ≤ 100000) (q : Q (.int z.length) H) : rLenS [.str z] H Q := ⟨z, rfl, sz_of h, q⟩
end
section
variable {X : Cx}
theorem c_str : CallR X (.type "str") rStrI := call_str_int
theorem c_lenS : CallR X (.builtin "len") rLenS := call_len_str
end
section
variable {K : PySem.W.Frag} {σ : L2.St} {H : Hp} {te : TE} {Q : VK} {m : Nat} {vs : List Nat} {i j : Int}
theorem lcR2 (h1 : -1000000000 ≤ i ∧ i ≤ 1000000000) (h2 : -1000000000 ≤ j ∧ j ≤ 1000000000) (Pv : Addr → Nat → Hp → Prop) (h0 : ∀ p h, H p = none → Ex H h → h p = some (.lst []) → Pv p 0 h)
    (hs : ∀ p (k : Nat) h, i + (k : Int) < j → Pv p k h → te ((wipe σ vs).set m (some (.int (i + k)))) h (AppW p (Pv p (k + 1)))) (hd : ∀ p h, Pv p (j - i).toNat h → Q (.ref p) h)
    (hw : ∀ x, wipe ((wipe σ vs).set m (some x)) vs = wipe σ vs) : ItR2 [.int i, .int j] H (LcW (gName m) tYes te vs σ Q) := by
  refine ⟨i, j, rfl, ⟨by omega, by omega, by omega, by omega⟩, fun p hp => lc_range (lo := i) (n := (j - i).toNat) (Pv p) (h0 p _ hp (Ex.new hp) upd_same) (fun k h hk q => ?_) (hd p)⟩
  exact ⟨hw _, yesL (hs p k h (by omega) q)⟩
/-- a list of ints by a comprehension over a range that only reads and calls what adds to the heap -/
theorem lcF1 {f : Nat → Int} (h1 : -1000000000 ≤ j) (h2 : j ≤ 90000)
    (hs : ∀ (k : Nat) h (R : VK), (k : Int) < j → Ex H h → (∀ h2, Ex h h2 → R (.int (f k)) h2) → te ((wipe σ vs).set m (some (.int k))) h R)
    (hd : ∀ p h, H p = none → Ex H h → h p = some (.lst (((List.range j.toNat).map f).map V.int)) → Q (.ref p) h)
    (hw : ∀ x, wipe ((wipe σ vs).set m (some x)) vs = wipe σ vs) : ItR1 [.int j] H (LcW (gName m) tYes te vs σ Q) := by
  refine lcR1 h1 (by omega) (fun p k h => h p = some (.lst (((List.range k).map f).map V.int)) ∧ Ex H h ∧ H p = none) (fun p h n e hp => ⟨hp, e, n⟩) (fun p k h hk ⟨hp, e, n⟩ => ?_) (fun p h ⟨hp, e, n⟩ => hd p h n e hp) hw
  refine hs k h _ hk e fun h2 e2 => appW (e2 _ _ hp) (by rw [List.length_map, List.length_map, List.length_range]; omega) fun H5 e5 h5 => ⟨?_, ExB.ex (e.trans e2) e5 n, n⟩
  rw [h5, List.range_succ, List.map_append, List.map_append]
  rfl
theorem lcF2 {f : Nat → Int} (h1 : -1000000000 ≤ i ∧ i ≤ 1000000000) (h2 : -1000000000 ≤ j ∧ j ≤ 1000000000) (h3 : j - i ≤ 90000)
    (hs : ∀ (k : Nat) h (R : VK), i + (k : Int) < j → Ex H h → (∀ h2, Ex h h2 → R (.int (f k)) h2) → te ((wipe σ vs).set m (some (.int (i + k)))) h R)
    (hd : ∀ p h, H p = none → Ex H h → h p = some (.lst (((List.range (j - i).toNat).map f).map V.int)) → Q (.ref p) h)
    (hw : ∀ x, wipe ((wipe σ vs).set m (some x)) vs = wipe σ vs) : ItR2 [.int i, .int j] H (LcW (gName m) tYes te vs σ Q) := by
  refine lcR2 h1 h2 (fun p k h => h p = some (.lst (((List.range k).map f).map V.int)) ∧ Ex H h ∧ H p = none) (fun p h n e hp => ⟨hp, e, n⟩) (fun p k h hk ⟨hp, e, n⟩ => ?_) (fun p h ⟨hp, e, n⟩ => hd p h n e hp) hw
  refine hs k h _ hk e fun h2 e2 => appW (e2 _ _ hp) (by rw [List.length_map, List.length_map, List.length_range]; omega) fun H5 e5 h5 => ⟨?_, ExB.ex (e.trans e2) e5 n, n⟩
  rw [h5, List.range_succ, List.map_append, List.map_append]
  rfl
end
theorem sq_fresh {K : PySem.W.Frag} {H0 H1 H2 : Hp} {s p : Addr} {xs : List V} (h0 : SqL K H0 s xs) (np : H0 p = none) (h : SqL K H1 s xs) (e : ExB p H1 H2) : SqL K H2 s xs := by
  rcases h0 with (h0 | ⟨o, h0⟩) | h0
  · exact exb_l e (ne_of_none h0 np) h
  · exact exb_l e (ne_of_none h0 np) h
  · exact .inr h0
end Lay
/-! own classes: their objects, fields, methods -/
namespace Lay
open PySem PySem.Spec PyProof.Rows L2 Evl
/-- an own class and the fields that its objects have -/
structure OC (K : PySem.W.Frag) (mg : Str → Option Value) (x : Str) (C : Addr) (fs : List Str) : Prop where
  cl : Cls K C
  g : mg x = some (.ref C)
  kp : PySem.W.keepIn K (.ref C) = true
  na : ∀ f ∈ fs, NoAttr K C f
/-- a def's text, with or without defaults -/
structure FunD (K : PySem.W.Frag) (x qual : Str) (st : Stmt) (f : Addr) (fd : FuncData) : Prop where
  ex : ∃ (oc : Value) (od : Option Addr) (dV kV doc pm : Value) (an : Option Addr) (cdv ct : Value) (osl : Array (Option Value)),
    fd = PySem.W.fnOf x qual (defArgs st) (defBody st) (defScope st) dV kV doc pm an cdv ct ∧ K.lookup f = some ⟨oc, od, .func fd, osl⟩ ∧ PySem.W.codeIn K cdv qual = true
section
variable {P : Program} {w : World} {K : PySem.W.Frag} {mg : Str → Option Value} {base : Heap}
theorem FunD.okX {x qual : Str} {st : Stmt} {f : Addr} {fd : FuncData} {N ps : List Str} {k : Nat} {sp : Sp} (F : FunD K x qual st f fd) (S : FnScope N ps (defScope st)) (len : ∀ vs H Q E, sp vs H Q E → vs.length = ps.length)
    (hbody : ∀ (cdv : Value) (A : Around) (outer : List Env) (s : Shared) (H : Hp) (vs : List V) (Q : VK) (E : XK), Room k (A.deeper (envOfC qual (defScope st) s.heap.objs.size f cdv)) → sp vs H Q E →
      ∃ t, PSs (cxOf (L2.CX P w) P w K mg base N qual (defScope st) f cdv A outer s H E) (defBody st) t ∧ t { nx := fun _ H' => Q .non H', rt := Q } (start N vs) H) : FnOk P w K mg base (L2.CX P w) (k + 1) f fd ps sp := by
  obtain ⟨oc, od, dV, kV, doc, pm, an, cdv, ct, osl, rfl, lk, hcd⟩ := F.ex
  exact fn_of lk hcd S len fun A outer s H vs Q E hr hsp => hbody cdv A outer s H vs Q E hr hsp
theorem funD_mk {x qual : Str} {st : Stmt} {f : Addr} {oc : Value} {od an : Option Addr} {osl : Array (Option Value)} {dV kV doc pm cdv ct : Value} (l : K.lookup f = some ⟨oc, od, .func (PySem.W.fnOf x qual (defArgs st) (defBody st) (defScope st) dV kV doc pm an cdv ct), osl⟩)
    (c : PySem.W.codeIn K cdv qual = true) : FunD K x qual st f (PySem.W.fnOf x qual (defArgs st) (defBody st) (defScope st) dV kV doc pm an cdv ct) := ⟨⟨oc, od, dV, kV, doc, pm, an, cdv, ct, osl, rfl, l, c⟩⟩
theorem FunD.binds {x qual : Str} {st : Stmt} {f : Addr} {fd : FuncData} {ps : List Str} (F : FunD K x qual st f fd)
    (h : ∀ (dV kV doc pm : Value) (an : Option Addr) (cdv ct : Value) (us : List Value), us.length = ps.length → bindArgs (PySem.W.fnOf x qual (defArgs st) (defBody st) (defScope st) dV kV doc pm an cdv ct) ⟨us, []⟩ = pure (ps.zip us)) : Binds K fd ps [] := by
  obtain ⟨oc, od, dV, kV, doc, pm, an, cdv, ct, osl, rfl, lk, hcd⟩ := F.ex
  exact .all (h dV kV doc pm an cdv ct)
end
/-- a method's text -/
structure AtM (K : PySem.W.Frag) (C : Addr) (m qual : Str) (st : Stmt) (ps : List Str) : Prop where
  ex : ∃ (f : Addr) (fd : FuncData), FunD K m qual st f fd ∧ Meth K C m f ∧ Binds K fd ps []
/-- a method as callers know it -/
structure DM (P : Program) (w : World) (K : PySem.W.Frag) (mg : Str → Option Value) (base : Heap) (C : Addr) (m : Str) (k : Nat) (ps : List Str) (sp : Sp) : Prop where
  ex : ∃ (f : Addr) (fd : FuncData), FnOk P w K mg base (L2.CX P w) k f fd ps sp ∧ Meth K C m f ∧ Binds K fd ps []
/-- an __init__'s text, and the making -/
structure AtI (K : PySem.W.Frag) (mg : Str → Option Value) (x : Str) (C : Addr) (qual : Str) (st : Stmt) (ps : List Str) : Prop where
  ex : ∃ (f : Addr) (fd : FuncData), FunD K "__init__" qual st f fd ∧ Mk K C f ∧ mg x = some (.ref C) ∧ Binds K fd ps []
structure DI (P : Program) (w : World) (K : PySem.W.Frag) (mg : Str → Option Value) (base : Heap) (x : Str) (C : Addr) (k : Nat) (ps : List Str) (sp : Sp) : Prop where
  ex : ∃ (f : Addr) (fd : FuncData), FnOk P w K mg base (L2.CX P w) k f fd ps sp ∧ Mk K C f ∧ mg x = some (.ref C) ∧ Binds K fd ps []
section
variable {P : Program} {w : World} {K : PySem.W.Frag} {mg : Str → Option Value} {base : Heap}
theorem DM.mk' {C : Addr} {m qual : Str} {st : Stmt} {N ps : List Str} {k : Nat} {sp : Sp} (F : AtM K C m qual st ps) (S : FnScope N ps (defScope st)) (len : ∀ vs H Q E, sp vs H Q E → vs.length = ps.length)
    (hbody : ∀ (f : Addr) (cdv : Value) (A : Around) (outer : List Env) (s : Shared) (H : Hp) (vs : List V) (Q : VK) (E : XK), Room k (A.deeper (envOfC qual (defScope st) s.heap.objs.size f cdv)) → sp vs H Q E →
      ∃ t, PSs (cxOf (L2.CX P w) P w K mg base N qual (defScope st) f cdv A outer s H E) (defBody st) t ∧ t { nx := fun _ H' => Q .non H', rt := Q } (start N vs) H) : DM P w K mg base C m (k + 1) ps sp := by
  obtain ⟨f, fd, Ff, g, b⟩ := F.ex
  exact ⟨f, fd, Ff.okX S len (hbody f), g, b⟩
theorem DI.mk' {x : Str} {C : Addr} {qual : Str} {st : Stmt} {N ps : List Str} {k : Nat} {sp : Sp} (F : AtI K mg x C qual st ps) (S : FnScope N ps (defScope st)) (len : ∀ vs H Q E, sp vs H Q E → vs.length = ps.length)
    (hbody : ∀ (f : Addr) (cdv : Value) (A : Around) (outer : List Env) (s : Shared) (H : Hp) (vs : List V) (Q : VK) (E : XK), Room k (A.deeper (envOfC qual (defScope st) s.heap.objs.size f cdv)) → sp vs H Q E →
      ∃ t, PSs (cxOf (L2.CX P w) P w K mg base N qual (defScope st) f cdv A outer s H E) (defBody st) t ∧ t { nx := fun _ H' => Q .non H', rt := Q } (start N vs) H) : DI P w K mg base x C (k + 1) ps sp := by
  obtain ⟨f, fd, Ff, g, m, b⟩ := F.ex
  exact ⟨f, fd, Ff.okX S len (hbody f), g, m, b⟩
end
section
variable {X : Cx} {k : Nat} {ps : List Str} {sp : Sp} {E : XK} {x m : Str} {C : Addr} {p pos apos : Pos} {o e : Expr} {es : List Expr} {ta : TE} {t : TA}
theorem pe_mD {pl : Sem Bool} (d : DM X.prog X.w X.K X.mg X.base C m k ps sp) (c : Cls X.K C) (hr : Room k X.A) (hx : Passes (L2.CX X.prog X.w) X E) (he : PE X o ta) (ha : PA X (e :: es) t)
    (hst : starEach (e :: es) X.env = (false, eval e X.env) :: starEach es X.env := by rfl) (hpl : (backTo pos (starEach es X.env)).any (·.1) = false := by rfl)
    (ht : eval (.Call (.Attribute o m apos) (e :: es) [] pos) X.env = (do
      let ov ← eval o X.env
      standAt apos.atName
      let (f, first) ← holding [ov] (getMethod ov m pl)
      callWith pos f first (backTo pos (starEach (e :: es) X.env)) (backToKw pos (keywordEach [] X.env))) := by rfl) :
    PE X (.Call (.Attribute o m apos) (e :: es) [] pos) (tMeth C m sp [] E ta t) := by
  obtain ⟨f, fd, F, hm, b⟩ := d.ex
  exact pe_meth (pl := pl) he c hm F hr b .nil hx ha hst hpl ht
theorem pe_mD0 {pl : Sem Bool} (d : DM X.prog X.w X.K X.mg X.base C m k ps sp) (c : Cls X.K C) (hr : Room k X.A) (hx : Passes (L2.CX X.prog X.w) X E) (he : PE X o ta)
    (ht : eval (.Call (.Attribute o m apos) [] [] pos) X.env = (do
      let ov ← eval o X.env
      standAt apos.atName
      let (f, first) ← holding [ov] (getMethod ov m pl)
      callWith pos f first (backTo pos (starEach [] X.env)) (backToKw pos (keywordEach [] X.env))) := by rfl) :
    PE X (.Call (.Attribute o m apos) [] [] pos) (tMeth C m sp [] E ta tNil) := by
  obtain ⟨f, fd, F, hm, b⟩ := d.ex
  exact pe_meth0 (pl := pl) he c hm F hr b .nil hx ht
theorem pe_mkD (d : DI X.prog X.w X.K X.mg X.base x C k ps sp) (hr : Room (k + 1) X.A) (hx : Passes (L2.CX X.prog X.w) X E) (ha : PA X (e :: es) t) (hg : Gl X x := by rfl)
    (hdb : (x == ("__debug__" : Str)) = false := by decide) (he : starEach (e :: es) X.env = (false, eval e X.env) :: starEach es X.env := by rfl) (hpl : (backTo pos (starEach es X.env)).any (·.1) = false := by rfl) :
    PE X (.Call (.Name x p) (e :: es) [] pos) (tMake C sp [] E t) := by
  obtain ⟨f, fd, F, hm, g, b⟩ := d.ex
  exact pe_make hm F hr hg g b .nil hx ha hdb he hpl
end
/-! ### readings -/
def rFld (K : PySem.W.Frag) (f : Str) (x : V) (H : Hp) (Q : VK) : Prop := ∃ a C dx fs v, x = .ref a ∧ H a = some (.ins C dx fs) ∧ Cls K C ∧ NoAttr K C f ∧ fs.lookup f = some v ∧ Q v H
def rFst (K : PySem.W.Frag) (f : Str) (y : V) (σ : L2.St) (N : L2.St → Hp → Prop) (x : V) (H : Hp) : Prop := ∃ a C dx fs, x = .ref a ∧ H a = some (.ins C dx fs) ∧ Cls K C ∧ NoAttr K C f ∧ fs.length < 1000 ∧ N σ (upd H a (.ins C dx (putF f y fs)))
def rMth (C : Addr) (m : Str) (sp : Sp) (E : XK) (σ : L2.St) (t : TA) (Q : VK) (x : V) (H : Hp) : Prop := ∃ a dx fs, x = .ref a ∧ H a = some (.ins C dx fs) ∧ fs.lookup m = none ∧ t σ H fun vs H2 => sp (x :: vs) H2 Q E
def rMk (C : Addr) (sp : Sp) (E : XK) (Q : VK) (vs : List V) (H : Hp) : Prop := ∀ x dx, H x = none → H dx = none → dx ≠ x → sp (.ref x :: (vs ++ [])) (upd (upd H dx (.own x)) x (.ins C dx [])) (fun v H2 => v = .non ∧ Q (.ref x) H2) E
section
variable {K : PySem.W.Frag} {mg : Str → Option Value} {σ : L2.St} {H : Hp} {D : Ends} {Q : VK} {N : L2.St → Hp → Prop} {ta tv : TE} {t : TA} {f m x : Str} {a C dx : Addr} {fs : List (Str × V)} {ff : List Str} {v y : V} {sp : Sp} {E : XK}
theorem r_fld (h : ta σ H fun x H1 => rFld K f x H1 Q) : tFld K ta f σ H Q := h
theorem r_rfld (h : H a = some (.ins C dx fs)) (c : OC K mg x C ff) (hf : f ∈ ff) (l : fs.lookup f = some v) (q : Q v H) : rFld K f (.ref a) H Q := ⟨a, C, dx, fs, v, rfl, h, c.cl, c.na f hf, l, q⟩
theorem r_fst (h : tv σ H fun y H1 => ta σ H1 fun x H2 => rFst K f y σ D.nx x H2) : sFld K ta tv f D σ H := h
theorem r_rfst (h : H a = some (.ins C dx fs)) (c : OC K mg x C ff) (hf : f ∈ ff) (l : fs.length < 1000) (q : ∀ H2, ExB a H H2 → H2 a = some (.ins C dx (putF f y fs)) → N σ H2) : rFst K f y σ N (.ref a) H :=
  ⟨a, C, dx, fs, rfl, h, c.cl, c.na f hf, l, q _ (fun b o n e => by rw [upd_ne n]; exact e) upd_same⟩
theorem r_mth (h : ta σ H fun x H1 => rMth C m sp E σ t Q x H1) : tMeth C m sp [] E ta t σ H Q := by
  refine Eq.mp ?_ h
  unfold tMeth rMth
  simp only [List.append_nil]
theorem r_rmth (h : H a = some (.ins C dx fs)) (l : fs.lookup m = none) (q : t σ H fun vs H2 => sp (.ref a :: vs) H2 Q E) : rMth C m sp E σ t Q (.ref a) H := ⟨a, dx, fs, rfl, h, l, q⟩
theorem r_make (h : t σ H fun vs H1 => rMk C sp E Q vs H1) : tMake C sp [] E t σ H Q := h
/-- a new object: __init__ is handed it, empty -/
theorem r_rmk {vs : List V} (h : ∀ x dx H2, H x = none → H dx = none → dx ≠ x → Ex H H2 → H2 x = some (.ins C dx []) → sp (.ref x :: vs) H2 (fun v H3 => v = .non ∧ Q (.ref x) H3) E) : rMk C sp E Q vs H := fun x dx nx nd ne => by
  have e : Ex H (upd (upd H dx (.own x)) x (.ins C dx [])) := fun b o hb => by
    rw [upd_ne (ne_of_none hb nx), upd_ne (ne_of_none hb nd)]
    exact hb
  rw [List.append_nil]
  exact h x dx _ nx nd ne e upd_same
end
/-- a statement that is never reached -/
theorem ps_dead {X : Cx} {st : Stmt} : PS X st (fun _ _ _ => False) := ⟨fun _ _ _ _ _ _ h => h.elim⟩
theorem pe_dead {X : Cx} {e : Expr} : PE X e (fun _ _ _ => False) := ⟨fun _ _ _ _ _ _ h => h.elim⟩
def rPar (i j : Nat) (N : L2.St → Hp → Prop) (σ : L2.St) (vs : List V) (H : Hp) : Prop := ∃ v w, vs = [v, w] ∧ N ((σ.set i (some v)).set j (some w)) H
theorem r_par {i j : Nat} {ta : TA} {D : Ends} {σ : L2.St} {H : Hp} (h : ta σ H fun vs H1 => rPar i j D.nx σ vs H1) : tPar i j ta D σ H := h
theorem r_rpar {i j : Nat} {N : L2.St → Hp → Prop} {σ : L2.St} {H : Hp} {v w : V} (h : N ((σ.set i (some v)).set j (some w)) H) : rPar i j N σ [v, w] H := ⟨v, w, rfl, h⟩
/-! ### o.append(e), o any expression -/
def rBMr (K : PySem.W.Frag) (r : V → List V → Hp → VK → Prop) (t : TA) (Q : VK) (σ : L2.St) (x : V) (H : Hp) : Prop := tyV K "list" x H ∧ t σ H fun xs H2 => r x xs H2 Q
section
variable {K : PySem.W.Frag} {σ : L2.St} {H : Hp} {Q : VK} {to : TE} {t : TA} {r : V → List V → Hp → VK → Prop} {p : Addr} {xs : List V}
theorem r_bmG (h : to σ H fun x H1 => rBMr K r t Q σ x H1) : tBM K "list" r to t σ H Q := h
theorem r_bmR (h : SqL K H p xs) (q : t σ H fun vs H2 => r (.ref p) vs H2 Q) : rBMr K r t Q σ (.ref p) H := ⟨.inl ⟨rfl, _, h⟩, q⟩
end
end Lay
/-! lists of references: rows of pairs; data of any shape compared; comprehensions with any target and a filter -/
namespace Lay
open PySem PySem.Spec PyProof.Rows L2 Evl
/-! ### data -/
mutual
theorem Dp.ex {K : PySem.W.Frag} {H H' : Hp} (e : Ex H H') : ∀ (d : PyData) (v : V), Dp K H v d → Dp K H' v d
  | .none, _, h => by cases h; exact .non
  | .bool b, _, h => by cases h; exact .bl b
  | .int i, _, h => by cases h; exact .int i
  | .str x, _, h => by cases h; exact .str x
  | .list ds, _, h => by
    cases h with
    | lst hs ha => exact .lst (ex_l e hs) (Dp.exAll e ds _ ha)
  | .tuple ds, _, h => by
    cases h with
    | tup hs ha => exact .tup (ex_t e hs) (Dp.exAll e ds _ ha)
  | .dict _, _, h => by cases h
theorem Dp.exAll {K : PySem.W.Frag} {H H' : Hp} (e : Ex H H') : ∀ (ds : List PyData) (vs : List V), DpAll K H vs ds → DpAll K H' vs ds
  | [], _, h => by cases h; exact .nil
  | d :: ds, _, h => by
    cases h with
    | cons h1 h2 => exact .cons (Dp.ex e d _ h1) (Dp.exAll e ds _ h2)
end
theorem DpAll.snoc {K : PySem.W.Frag} {H : Hp} {v : V} {d : PyData} (h : Dp K H v d) : ∀ {vs : List V} {ds : List PyData}, DpAll K H vs ds → DpAll K H (vs ++ [v]) (ds ++ [d])
  | _, _, .nil => .cons h .nil
  | _, _, .cons a r => .cons a (DpAll.snoc h r)
theorem DpAll.len {K : PySem.W.Frag} {H : Hp} : ∀ {vs : List V} {ds : List PyData}, DpAll K H vs ds → vs.length = ds.length
  | _, _, .nil => rfl
  | _, _, .cons a r => congrArg (· + 1) (DpAll.len r)
/-- flat data -/
def Fl (d : PyData) : Prop := d.canLay0 = true ∧ d.depth ≤ 3
theorem fl_all : ∀ {ds : List PyData}, (∀ d ∈ ds, Fl d) → PyData.canLayAll0 ds = true ∧ PyData.depthAll ds ≤ 3
  | [], _ => ⟨rfl, by simp [PyData.depthAll]⟩
  | d :: ds, h => by
    have a := h d List.mem_cons_self
    have b := fl_all fun x hx => h x (List.mem_cons_of_mem _ hx)
    refine ⟨?_, ?_⟩
    · simp only [PyData.canLayAll0, a.1, b.1, Bool.and_self]
    · simp only [PyData.depthAll]
      have := a.2
      have := b.2
      omega
theorem sh_fl {ds : List PyData} (h : ∀ d ∈ ds, Fl d) : SeqAt.shaped (.list ds) = true := by
  have a := fl_all h
  refine shape_of ?_ ?_
  · simp only [PyData.canLay0]
    exact a.1
  · simp only [PyData.depth]
    omega
theorem eqv_nil (ds : List PyData) : PyData.eqv (.list ds) (.list []) = decide (ds = []) := by
  cases ds with
  | nil => simp [PyData.eqv, PyData.eqvAll]
  | cons d ds => simp [PyData.eqv, PyData.eqvAll]
section
variable {K : PySem.W.Frag} {H : Hp} {Q : VK} {p q : Addr} {ds : List PyData} {xs : List V} {v : V} {i : Int}
theorem r_neNil (h1 : Dp K H (.ref p) (.list ds)) (hf : ∀ d ∈ ds, Fl d) (h2 : SqL K H q []) (k : Q (.bl (!decide (ds = []))) H) : rNeD K (.ref p) (.ref q) H Q :=
  r_neD h1 (.lst h2 .nil) (sh_fl hf) (sh_fl fun _ z => (List.not_mem_nil z).elim) (by rw [eqv_nil]; exact k)
theorem r_eqNil (h1 : Dp K H (.ref p) (.list ds)) (hf : ∀ d ∈ ds, Fl d) (h2 : SqL K H q []) (k : Q (.bl (decide (ds = []))) H) : rEqD K (.ref p) (.ref q) H Q :=
  r_eqD h1 (.lst h2 .nil) (sh_fl hf) (sh_fl fun _ z => (List.not_mem_nil z).elim) (by rw [eqv_nil]; exact k)
/-- x != None of a list or a tuple -/
theorem r_neNon {d : PyData} (h1 : Dp K H v d) (hs : SeqAt.shaped d = true) (hn : PyData.eqv d .none = false) (k : Q (.bl true) H) : rNeD K v .non H Q :=
  r_neD h1 .non hs rfl (by rw [hn]; exact k)
end
/-! ### isinstance of own classes -/
structure OI (K : PySem.W.Frag) (C : Addr) : Prop where
  ha : PySem.W.findIn K (.ref C) "__class__" = some (some (.builtin "object.__class__"))
  hn : PySem.W.specialIn K (.builtin "object.__class__") "__get__" = some (some (.builtin "getset_descriptor.__get__"))
  htk : PySem.W.takesIn K (.builtin "object.__class__") = some true
  hm : PySem.W.mroIn K C (.type "object") = some true
theorem r_isO {K : PySem.W.Frag} {mg : Str → Option Value} {x : Str} {ff : List Str} {H : Hp} {Q : VK} {a C C2 dx : Addr} {fs : List (Str × V)} {b : Bool} (h : H a = some (.ins C dx fs)) (c : OC K mg x C ff) (o : OI K C)
    (k : PySem.W.kitOne K (.ref C) (.ref C2) = some b) (q : Q (.bl b) H) : rIsi K [.ref a, .ref C2] H Q := ⟨.ref a, .ref C2, .ref C, .ref C2, b, rfl, .own C2, .base (.ins h c.cl o.ha o.hn o.htk o.hm), k, q⟩
/-! ### a list or a tuple is no object -/
theorem exb_lI {K : PySem.W.Frag} {l C dx : Addr} {fs : List (Str × V)} {H H' : Hp} {a : Addr} {xs : List V} (e : ExB l H H') (hl : H l = some (.ins C dx fs)) (h : SqL K H a xs) : SqL K H' a xs := by
  rcases h with (h | ⟨o, h⟩) | h
  · exact .inl (.inl (e _ _ (fun z => by rw [z, hl] at h; cases h) h))
  · exact .inl (.inr ⟨o, e _ _ (fun z => by rw [z, hl] at h; cases h) h⟩)
  · exact .inr h
theorem int_at {ns : List Int} {i : Nat} {x : V} (h : (ns.map V.int)[i]? = some x) : ∃ hi : i < ns.length, x = .int ns[i] := by
  rw [List.getElem?_map] at h
  cases e : ns[i]? with
  | none =>
    rw [e] at h
    cases h
  | some z =>
    rw [e] at h
    cases h
    obtain ⟨hi, q⟩ := List.getElem?_eq_some_iff.mp e
    exact ⟨hi, by rw [q]⟩
theorem gi_range {f : Nat → Int} {n : Nat} {i : Int} (h0 : 0 ≤ i) (h1 : i < n) : gi ((List.range n).map f) i = f i.toNat := by
  unfold gi
  rw [List.getD_eq_getElem?_getD, List.getElem?_map, List.getElem?_range (by omega)]
  rfl
theorem take_snoc {ns : List Int} {i : Nat} (h : i < ns.length) : ns.take i ++ [ns[i]] = ns.take (i + 1) := (List.take_succ_eq_append_getElem h).symm
theorem take_sum {ns : List Int} {i : Nat} (h : i < ns.length) : (ns.take i).sum + ns[i] = (ns.take (i + 1)).sum := by
  rw [List.take_succ_eq_append_getElem h, List.sum_append]
  simp
/-! ### lists of references -/
def ga (ps : List Addr) (i : Int) : Addr := ps.getD i.toNat 0
theorem atI_ga {ps : List Addr} {i : Int} (h0 : 0 ≤ i) (h1 : i < ps.length) : atI (ps.map V.ref) i = some (.ref (ga ps i)) := by
  obtain ⟨j, rfl⟩ : ∃ j : Nat, i = (j : Int) := ⟨i.toNat, by omega⟩
  have hj : j < ps.length := by omega
  refine atI_nat ?_
  rw [List.getElem?_map]
  unfold ga
  rw [Int.toNat_natCast, List.getD_eq_getElem?_getD, List.getElem?_eq_getElem hj]
  rfl
theorem ga_at {ps : List Addr} {i : Nat} {x : V} (h : (ps.map V.ref)[i]? = some x) : x = .ref (ga ps i) ∧ i < ps.length := by
  rw [List.getElem?_map] at h
  cases e : ps[i]? with
  | none =>
    rw [e] at h
    cases h
  | some z =>
    rw [e] at h
    cases h
    refine ⟨?_, (List.getElem?_eq_some_iff.mp e).1⟩
    unfold ga
    rw [Int.toNat_natCast, List.getD_eq_getElem?_getD, e]
    rfl
/-- pairs of ints -/
abbrev Prs := List (Int × Int)
def zl (sp : Prs) (i : Int) : Int := (sp.getD i.toNat (0, 0)).1
def zh (sp : Prs) (i : Int) : Int := (sp.getD i.toNat (0, 0)).2
/-- at a stands a list of these pairs -/
def PrL (K : PySem.W.Frag) (H : Hp) (a : Addr) (ps : List Addr) (sp : Prs) : Prop :=
  SqL K H a (ps.map V.ref) ∧ ps.length = sp.length ∧ ∀ i : Int, 0 ≤ i → i < sp.length → H (ga ps i) = some (.tup [.int (zl sp i), .int (zh sp i)])
theorem PrL.ex {K : PySem.W.Frag} {H H2 : Hp} {a : Addr} {ps : List Addr} {sp : Prs} (h : PrL K H a ps sp) (e : Ex H H2) : PrL K H2 a ps sp :=
  ⟨ex_l e h.1, h.2.1, fun i h0 h1 => e _ _ (h.2.2 i h0 h1)⟩
theorem PrL.exb {K : PySem.W.Frag} {H H2 : Hp} {a l : Addr} {ps : List Addr} {sp : Prs} (h : PrL K H a ps sp) (e : ExB l H H2) (n : a ≠ l) (nt : ∀ xs, H l ≠ some (.tup xs)) : PrL K H2 a ps sp :=
  ⟨exb_l e n h.1, h.2.1, fun i h0 h1 => e _ _ (fun z => nt _ (by rw [← z]; exact h.2.2 i h0 h1)) (h.2.2 i h0 h1)⟩
/-- one pair more at the list's end -/
theorem ga_snoc {ps : List Addr} {p : Addr} {i : Int} (h0 : 0 ≤ i) (h : i < ps.length) : ga (ps ++ [p]) i = ga ps i := by
  unfold ga
  rw [List.getD_eq_getElem?_getD, List.getD_eq_getElem?_getD, List.getElem?_append_left (by omega)]
theorem ga_last {ps : List Addr} {p : Addr} {i : Int} (h : i = ps.length) : ga (ps ++ [p]) i = p := by
  unfold ga
  rw [h, Int.toNat_natCast, List.getD_eq_getElem?_getD, List.getElem?_append_right (Nat.le_refl _), Nat.sub_self]
  rfl
theorem gd_snoc {sp : Prs} {p : Int × Int} {i : Int} (h0 : 0 ≤ i) (h : i < sp.length) : (sp ++ [p]).getD i.toNat (0, 0) = sp.getD i.toNat (0, 0) := by
  rw [List.getD_eq_getElem?_getD, List.getD_eq_getElem?_getD, List.getElem?_append_left (by omega)]
theorem gd_last {sp : Prs} {p : Int × Int} {i : Int} (h : i = sp.length) : (sp ++ [p]).getD i.toNat (0, 0) = p := by
  rw [h, Int.toNat_natCast, List.getD_eq_getElem?_getD, List.getElem?_append_right (Nat.le_refl _), Nat.sub_self]
  rfl
theorem snoc_at {H2 : Hp} {t : Addr} {ps : List Addr} {sp : Prs} {lo hi : Int} (hl : ps.length = sp.length) (ht : ∀ i : Int, 0 ≤ i → i < sp.length → H2 (ga ps i) = some (.tup [.int (zl sp i), .int (zh sp i)]))
    (hp : H2 t = some (.tup [.int lo, .int hi])) (i : Int) (h0 : 0 ≤ i) (h1 : i < (sp ++ [(lo, hi)]).length) : H2 (ga (ps ++ [t]) i) = some (.tup [.int (zl (sp ++ [(lo, hi)]) i), .int (zh (sp ++ [(lo, hi)]) i)]) := by
  rw [List.length_append] at h1
  change i < ((sp.length + 1 : Nat) : Int) at h1
  by_cases c : i < sp.length
  · rw [ga_snoc h0 (by omega)]
    unfold zl zh
    rw [gd_snoc h0 c]
    exact ht i h0 c
  · rw [ga_last (by omega)]
    unfold zl zh
    rw [gd_last (by omega)]
    exact hp
section
variable {K : PySem.W.Frag} {σ : L2.St} {H : Hp} {D : Ends} {g : TG} {tb : TS} {te : TE} {tt : TT} {Q : VK} {a p : Addr} {xs : List V} {ns : List Int} {m : Nat} {vs : List Nat} {i j : Int} {ps : List Addr} {sp : Prs} {v : V}
theorem r_ixP (h : PrL K H p ps sp) (h0 : 0 ≤ i) (h1 : i < sp.length) (q : H (ga ps i) = some (.tup [.int (zl sp i), .int (zh sp i)]) → Q (.ref (ga ps i)) H) : rIxL K (.ref p) (.int i) H Q :=
  r_ixL h.1 (atI_ga h0 (by rw [h.2.1]; exact h1)) (q (h.2.2 i h0 h1))
theorem r_lenP (h : PrL K H p ps sp) (q : Q (.int sp.length) H) : rLen K [.ref p] H Q := r_len h.1 (by rw [List.length_map, h.2.1]; exact q)
theorem r_listP (h : PrL K H p ps sp) (k : ∀ p2 H2, H p2 = none → Ex H H2 → PrL K H2 p2 ps sp → H2 p2 = some (.lst (ps.map V.ref)) → Q (.ref p2) H2) : rList K [.ref p] H Q :=
  r_list h.1 fun p2 H2 n e h2 => k p2 H2 n e ⟨L2.SqL.of h2, h.2.1, fun i h0 h1 => e _ _ (h.2.2 i h0 h1)⟩ h2
/-- for x in pairs -/
theorem forP (hx : PrL K H a ps sp) (Pv : Nat → L2.St → Hp → Prop) (h0 : Pv 0 σ H) (hl : ∀ i s h, i ≤ sp.length → Pv i s h → SqL K h a (ps.map V.ref))
    (hs : ∀ (i : Nat) s h, i < sp.length → Pv i s h → g (.ref (ga ps i)) s h fun s2 h2 => tb ⟨Pv (i + 1), D.rt, D.nx, Pv (i + 1)⟩ s2 h2) (hd : ∀ s h, Pv sp.length s h → D.nx s h) : ItL K (.ref a) H (ForW g tb D σ) := by
  refine forL hx.1 Pv h0 (fun i s h hi q => hl i s h (by rw [List.length_map, hx.2.1] at hi; exact hi) q) (fun i x s h hi q => ?_) (fun s h q => hd s h (by rw [List.length_map, hx.2.1] at q; exact q))
  obtain ⟨rfl, hj⟩ := ga_at hi
  exact hs i s h (by rw [← hx.2.1]; exact hj) q
/-- a comprehension with any target -/
theorem lcLG (hx : SqL K H a xs) (Pv : Addr → Nat → Hp → Prop) (h0 : ∀ p h, H p = none → Ex H h → h p = some (.lst []) → Pv p 0 h) (hl : ∀ p i h, i ≤ xs.length → Pv p i h → SqL K h a xs)
    (hs : ∀ p (i : Nat) x h, xs[i]? = some x → Pv p i h → g x (wipe σ vs) h fun σ2 h2 => wipe σ2 vs = wipe σ vs ∧ tt σ2 h2 fun b h3 => if b = true then te σ2 h3 (AppW p (Pv p (i + 1))) else Pv p (i + 1) h3)
    (hd : ∀ p h, Pv p xs.length h → Q (.ref p) h) : ItL K (.ref a) H (LcW g tt te vs σ Q) :=
  ⟨a, rfl, ⟨xs, hx⟩, fun p hp => lc_list (K := K) (a := a) (xs := xs) (Pv p) (h0 p _ hp (Ex.new hp) upd_same) (fun i h hi q => hl p i h hi q) (fun i x h hi q => hs p i x h hi q) (hd p)⟩
theorem lcP (hx : PrL K H a ps sp) (Pv : Addr → Nat → Hp → Prop) (h0 : ∀ p h, H p = none → Ex H h → h p = some (.lst []) → Pv p 0 h) (hl : ∀ p i h, i ≤ sp.length → Pv p i h → SqL K h a (ps.map V.ref))
    (hs : ∀ p (i : Nat) h, i < sp.length → Pv p i h → g (.ref (ga ps i)) (wipe σ vs) h fun σ2 h2 => wipe σ2 vs = wipe σ vs ∧ tt σ2 h2 fun b h3 => if b = true then te σ2 h3 (AppW p (Pv p (i + 1))) else Pv p (i + 1) h3)
    (hd : ∀ p h, Pv p sp.length h → Q (.ref p) h) : ItL K (.ref a) H (LcW g tt te vs σ Q) := by
  refine lcLG hx.1 Pv h0 (fun p i h hi q => hl p i h (by rw [List.length_map, hx.2.1] at hi; exact hi) q) (fun p i x h hi q => ?_) (fun p h q => hd p h (by rw [List.length_map, hx.2.1] at q; exact q))
  obtain ⟨rfl, hj⟩ := ga_at hi
  exact hs p i h (by rw [← hx.2.1]; exact hj) q
theorem r_yesC {P : Prop} {h3 : Hp} {K1 : VK} {B : Hp → Prop} (hp : P) (h : te σ h3 K1) : P ∧ tYes σ h3 fun b h3 => if b = true then te σ h3 K1 else B h3 := ⟨hp, yesL h⟩
theorem r_listRg (h : te σ H fun x H1 => NewL [] H1 Q) : te σ H fun x H1 => NewL [] H1 Q := h
end
/-! ### texts compared -/
theorem dS {a b : Str} : decide (V.str a = V.str b) = decide (a = b) := by
  by_cases e : a = b
  · rw [e]
    simp
  · rw [decide_eq_false e, decide_eq_false (fun h => e (V.str.inj h))]
section
variable {H : Hp} {Q : VK} {a b : Str}
theorem r_eqS (h : Q (.bl (decide (a = b))) H) : rEq (.str a) (.str b) H Q := ⟨rfl, by rw [dS]; exact h⟩
theorem r_neS (h : Q (.bl (!decide (a = b))) H) : rNe (.str a) (.str b) H Q := ⟨rfl, by rw [dS]; exact h⟩
end
/-! ### a list of pairs as it grows -/
def PB (h : Hp) (l : Addr) (qs : List Addr) (sp : Prs) : Prop := h l = some (.lst (qs.map V.ref)) ∧ qs.length = sp.length ∧ ∀ i : Int, 0 ≤ i → i < sp.length → h (ga qs i) = some (.tup [.int (zl sp i), .int (zh sp i)])
theorem PB.nil {h : Hp} {l : Addr} (hl : h l = some (.lst [])) : PB h l [] [] := ⟨hl, rfl, fun i a b => absurd b (by show ¬ i < 0; omega)⟩
theorem PB.ex {h h2 : Hp} {l : Addr} {qs : List Addr} {sp : Prs} (b : PB h l qs sp) (e : Ex h h2) : PB h2 l qs sp := ⟨e _ _ b.1, b.2.1, fun i h0 h1 => e _ _ (b.2.2 i h0 h1)⟩
theorem PB.exb {h h2 : Hp} {l p : Addr} {qs : List Addr} {sp : Prs} (b : PB h l qs sp) (e : ExB p h h2) (n : l ≠ p) (nt : ∀ xs, h p ≠ some (.tup xs)) : PB h2 l qs sp :=
  ⟨e _ _ n b.1, b.2.1, fun i h0 h1 => e _ _ (fun z => nt _ (by rw [← z]; exact b.2.2 i h0 h1)) (b.2.2 i h0 h1)⟩
theorem Pur.nt {h : Hp} {p : Addr} (hp : Pur h p) : ∀ xs, h p ≠ some (.tup xs) := fun xs z => by
  obtain ⟨a, b, c, hp⟩ := hp
  rw [hp] at z
  cases z
theorem PB.pr {K : PySem.W.Frag} {h : Hp} {l : Addr} {qs : List Addr} {sp : Prs} (b : PB h l qs sp) : PrL K h l qs sp := ⟨L2.SqL.of b.1, b.2⟩
theorem PB.put {h h1 H5 : Hp} {l t : Addr} {qs : List Addr} {sp : Prs} {lo hi : Int} (b : PB h l qs sp) (e : Ex h h1) (ht : h1 t = some (.tup [.int lo, .int hi])) (e5 : ExB l h1 H5) (h5 : H5 l = some (.lst (qs.map V.ref ++ [.ref t]))) : PB H5 l (qs ++ [t]) (sp ++ [(lo, hi)]) := by
  have hl := e _ _ b.1
  refine ⟨by rw [List.map_append]; exact h5, by rw [List.length_append, List.length_append, b.2.1]; rfl, snoc_at b.2.1 (fun i h0 h1' => ?_) (e5 _ _ (fun y => by rw [y, hl] at ht; cases ht) ht)⟩
  have z := e _ _ (b.2.2 i h0 h1')
  exact e5 _ _ (fun y => by rw [y, hl] at z; cases z) z
theorem PB.app {h h1 : Hp} {l t : Addr} {qs : List Addr} {sp : Prs} {lo hi : Int} {Q : VK} (b : PB h l qs sp) (lt : qs.length < 100000) (e : Ex h h1) (ht : h1 t = some (.tup [.int lo, .int hi]))
    (q : ∀ H5, ExB l h1 H5 → PB H5 l (qs ++ [t]) (sp ++ [(lo, hi)]) → Q .non H5) : rAppend (.ref l) [.ref t] h1 Q :=
  r_app (e _ _ b.1) (by rw [List.length_map]; exact lt) fun H5 e5 h5 _ => q H5 e5 (b.put e ht e5 h5)
theorem PB.appW {h h1 : Hp} {l t : Addr} {qs : List Addr} {sp : Prs} {lo hi : Int} {N : Hp → Prop} (b : PB h l qs sp) (lt : qs.length < 100000) (e : Ex h h1) (ht : h1 t = some (.tup [.int lo, .int hi]))
    (q : ∀ H5, ExB l h1 H5 → PB H5 l (qs ++ [t]) (sp ++ [(lo, hi)]) → N H5) : AppW l N (.ref t) h1 :=
  Lay.appW (e _ _ b.1) (by rw [List.length_map]; exact lt) fun H5 e5 h5 => q H5 e5 (b.put e ht e5 h5)
theorem ga_app {ps qs : List Addr} {i : Int} (h0 : 0 ≤ i) : ga (ps ++ qs) i = if i < ps.length then ga ps i else ga qs (i - ps.length) := by
  unfold ga
  split
  · rw [List.getD_eq_getElem?_getD, List.getD_eq_getElem?_getD, List.getElem?_append_left (by omega)]
  · rw [List.getD_eq_getElem?_getD, List.getD_eq_getElem?_getD, List.getElem?_append_right (by omega)]
    congr 2
    omega
theorem gd_app {ps qs : Prs} {i : Int} (h0 : 0 ≤ i) : (ps ++ qs).getD i.toNat (0, 0) = if i < ps.length then ps.getD i.toNat (0, 0) else qs.getD (i - ps.length).toNat (0, 0) := by
  split
  · rw [List.getD_eq_getElem?_getD, List.getD_eq_getElem?_getD, List.getElem?_append_left (by omega)]
  · rw [List.getD_eq_getElem?_getD, List.getD_eq_getElem?_getD, List.getElem?_append_right (by omega)]
    congr 2
    omega
theorem PB.cat {h : Hp} {l m : Addr} {qs rs : List Addr} {sp tp : Prs} {Q : VK} (b : PB h l qs sp) (c : PB h m rs tp) (lt : qs.length + rs.length ≤ 100000)
    (q : ∀ p2 H2, h p2 = none → Ex h H2 → PB H2 p2 (qs ++ rs) (sp ++ tp) → Q (.ref p2) H2) : rCat (.ref l) (.ref m) h Q :=
  r_cat b.1 c.1 (by rw [List.length_map, List.length_map]; exact lt) fun p2 H2 n e h2 => q p2 H2 n e ⟨by rw [List.map_append]; exact h2, by rw [List.length_append, List.length_append, b.2.1, c.2.1], fun i h0 h1 => by
    rw [List.length_append] at h1
    unfold zl zh
    rw [ga_app h0, gd_app h0, b.2.1]
    by_cases k : i < sp.length
    · rw [if_pos k, if_pos k]
      exact e _ _ (b.2.2 i h0 k)
    · rw [if_neg k, if_neg k]
      exact e _ _ (c.2.2 (i - sp.length) (by omega) (by omega))⟩
/-! ### a list of triples as it grows -/
def T3 (h : Hp) (t : Addr) : Prop := ∃ (a b : Int) (c : V), ((∃ k, c = .bl k) ∨ ∃ z, c = .int z) ∧ h t = some (.tup [.int a, .int b, c])
def TB (h : Hp) (l : Addr) (ts : List Addr) : Prop := h l = some (.lst (ts.map V.ref)) ∧ ∀ t ∈ ts, T3 h t
theorem TB.nil {h : Hp} {l : Addr} (hl : h l = some (.lst [])) : TB h l [] := ⟨hl, fun _ z => (List.not_mem_nil z).elim⟩
theorem T3.ex {h h2 : Hp} {t : Addr} (b : T3 h t) (e : Ex h h2) : T3 h2 t := by
  obtain ⟨a, b, c, k, z⟩ := b
  exact ⟨a, b, c, k, e _ _ z⟩
theorem TB.ex {h h2 : Hp} {l : Addr} {ts : List Addr} (b : TB h l ts) (e : Ex h h2) : TB h2 l ts := ⟨e _ _ b.1, fun t m => (b.2 t m).ex e⟩
theorem TB.put {h h1 H5 : Hp} {l t : Addr} {ts : List Addr} (b : TB h l ts) (e : Ex h h1) (ht : T3 h1 t) (e5 : ExB l h1 H5) (h5 : H5 l = some (.lst (ts.map V.ref ++ [.ref t]))) : TB H5 l (ts ++ [t]) := by
  have hl := e _ _ b.1
  have key : ∀ u, T3 h1 u → T3 H5 u := fun u ⟨a, b, c, k, z⟩ => ⟨a, b, c, k, e5 _ _ (fun y => by rw [y, hl] at z; cases z) z⟩
  refine ⟨by rw [List.map_append]; exact h5, fun u m => ?_⟩
  rcases List.mem_append.mp m with m | m
  · exact key u ((b.2 u m).ex e)
  · rw [List.mem_singleton.mp m]
    exact key t ht
theorem TB.app {h h1 : Hp} {l t : Addr} {ts : List Addr} {Q : VK} (b : TB h l ts) (lt : ts.length < 100000) (e : Ex h h1) (ht : T3 h1 t) (q : ∀ H5, ExB l h1 H5 → TB H5 l (ts ++ [t]) → Q .non H5) : rAppend (.ref l) [.ref t] h1 Q :=
  r_app (e _ _ b.1) (by rw [List.length_map]; exact lt) fun H5 e5 h5 _ => q H5 e5 (b.put e ht e5 h5)
theorem TB.appW {h h1 : Hp} {l t : Addr} {ts : List Addr} {N : Hp → Prop} (b : TB h l ts) (lt : ts.length < 100000) (e : Ex h h1) (ht : T3 h1 t) (q : ∀ H5, ExB l h1 H5 → TB H5 l (ts ++ [t]) → N H5) : AppW l N (.ref t) h1 :=
  Lay.appW (e _ _ b.1) (by rw [List.length_map]; exact lt) fun H5 e5 h5 => q H5 e5 (b.put e ht e5 h5)
theorem dp_t3 {K : PySem.W.Frag} {h : Hp} {t : Addr} (b : T3 h t) : ∃ d, Dp K h (.ref t) d ∧ Fl d := by
  obtain ⟨a, b, c, k | k, z⟩ := b
  · obtain ⟨k, rfl⟩ := k
    exact ⟨_, .tup (L2.SqT.of z) (.cons (.int a) (.cons (.int b) (.cons (.bl k) .nil))), by simp [PyData.canLay0, PyData.canLayAll0], by simp [PyData.depth, PyData.depthAll]⟩
  · obtain ⟨k, rfl⟩ := k
    exact ⟨_, .tup (L2.SqT.of z) (.cons (.int a) (.cons (.int b) (.cons (.int k) .nil))), by simp [PyData.canLay0, PyData.canLayAll0], by simp [PyData.depth, PyData.depthAll]⟩
theorem dp_t3s {K : PySem.W.Frag} {h : Hp} : ∀ {ts : List Addr}, (∀ t ∈ ts, T3 h t) → ∃ ds, DpAll K h (ts.map V.ref) ds ∧ (∀ d ∈ ds, Fl d) ∧ (ds = [] ↔ ts = [])
  | [], _ => ⟨[], .nil, fun _ z => (List.not_mem_nil z).elim, Iff.rfl.trans (by simp)⟩
  | t :: ts, b => by
    obtain ⟨d, h1, h2⟩ := dp_t3 (K := K) (b t List.mem_cons_self)
    obtain ⟨ds, g1, g2, _⟩ := dp_t3s (K := K) fun u m => b u (List.mem_cons_of_mem _ m)
    refine ⟨d :: ds, .cons h1 g1, fun e m => ?_, by simp⟩
    rcases List.mem_cons.mp m with r | m
    · rw [r]; exact h2
    · exact g2 e m
theorem r_neT3 {K : PySem.W.Frag} {h : Hp} {Q : VK} {l q : Addr} {ts : List Addr} (b : TB h l ts) (hq : SqL K h q []) (k : Q (.bl (!decide (ts = []))) h) : rNeD K (.ref l) (.ref q) h Q := by
  obtain ⟨ds, d1, d2, d3⟩ := dp_t3s (K := K) b.2
  refine r_neNil (.lst (L2.SqL.of b.1) d1) d2 hq ?_
  have e : decide (ds = []) = decide (ts = []) := decide_eq_decide.mpr d3
  rw [e]
  exact k
theorem PB.one {h : Hp} {l t : Addr} {lo hi : Int} (hl : h l = some (.lst [.ref t])) (ht : h t = some (.tup [.int lo, .int hi])) : PB h l [t] [(lo, hi)] := by
  refine ⟨hl, rfl, fun i h0 h1 => ?_⟩
  have e : i = 0 := by
    have h1' : i < 1 := h1
    omega
  rw [e]
  exact ht
theorem zl_snoc {sp : Prs} {p : Int × Int} {i : Int} (h0 : 0 ≤ i) (h : i < sp.length) : zl (sp ++ [p]) i = zl sp i := by unfold zl; rw [gd_snoc h0 h]
theorem zh_snoc {sp : Prs} {p : Int × Int} {i : Int} (h0 : 0 ≤ i) (h : i < sp.length) : zh (sp ++ [p]) i = zh sp i := by unfold zh; rw [gd_snoc h0 h]
theorem zl_last {sp : Prs} {p : Int × Int} {i : Int} (h : i = sp.length) : zl (sp ++ [p]) i = p.1 := by unfold zl; rw [gd_last h]
theorem zh_last {sp : Prs} {p : Int × Int} {i : Int} (h : i = sp.length) : zh (sp ++ [p]) i = p.2 := by unfold zh; rw [gd_last h]
theorem zl_take {sp : Prs} {i : Int} {n : Nat} (h0 : 0 ≤ i) (h : i < n) : zl (sp.take n) i = zl sp i := by unfold zl; rw [List.getD_eq_getElem?_getD, List.getD_eq_getElem?_getD, List.getElem?_take_of_lt (by omega)]
theorem zh_take {sp : Prs} {i : Int} {n : Nat} (h0 : 0 ≤ i) (h : i < n) : zh (sp.take n) i = zh sp i := by unfold zh; rw [List.getD_eq_getElem?_getD, List.getD_eq_getElem?_getD, List.getElem?_take_of_lt (by omega)]
theorem ga_take {ps : List Addr} {i : Int} {n : Nat} (h0 : 0 ≤ i) (h : i < n) : ga (ps.take n) i = ga ps i := by unfold ga; rw [List.getD_eq_getElem?_getD, List.getD_eq_getElem?_getD, List.getElem?_take_of_lt (by omega)]
/-- pairs[:e] -/
theorem r_slPE {K : PySem.W.Frag} {H : Hp} {Q : VK} {p : Addr} {ps : List Addr} {sp : Prs} {e : Nat} {y : Int} (hP : PrL K H p ps sp) (hy : y = (e : Int)) (h1 : e ≤ sp.length)
    (q : ∀ p2 H2, H p2 = none → Ex H H2 → PB H2 p2 (ps.take e) (sp.take e) → Q (.ref p2) H2) : rSlL K (.ref p) none (some y) H Q := by
  refine r_slL hP.1 fun p2 H2 n ex h => q p2 H2 n ex ⟨?_, ?_, fun i h0 hi => ?_⟩
  · have c : cutV (ps.map V.ref) none (some y) = (ps.take e).map V.ref := by
      unfold cutV
      rw [hy, List.length_map, HT.sIx_nat, Nat.min_eq_left (by rw [hP.2.1]; exact h1)]
      show ((ps.map V.ref).drop 0).take (e - 0) = _
      rw [List.drop_zero, Nat.sub_zero, List.map_take]
    rw [c] at h
    exact h
  · rw [List.length_take, List.length_take, hP.2.1]
  · rw [List.length_take] at hi
    rw [ga_take h0 (by omega), zl_take h0 (by omega), zh_take h0 (by omega)]
    exact ex _ _ (hP.2.2 i h0 (by omega))
/-- a part is shown apart, with what is known of it -/
theorem r_KP {te : TE} {σ : L2.St} {H : Hp} {Q : VK} (P : Int → Prop) (h1 : ∀ Q' : VK, (∀ i H1, P i → Ex H H1 → Q' (.int i) H1) → te σ H Q') (h2 : ∀ i H1, P i → Ex H H1 → Q (.int i) H1) : te σ H Q := h1 Q h2
/-! ### list(range(..)) -/
def rRg1 (Q : VK) (x : V) (H1 : Hp) : Prop := ∃ n : Int, x = .int n ∧ RgOk 0 n ∧ ∀ q, H1 q = none → Q (.ref q) (upd H1 q (.lst (rgV 0 n)))
theorem r_lRg1 {ta : TE} {σ : L2.St} {H : Hp} {Q : VK} (h : ta σ H fun x H1 => rRg1 Q x H1) : tLstRg (tRg1 ta) σ H Q := h
theorem rg_ints (n : Int) : rgV 0 n = ((List.range n.toNat).map fun i : Nat => (i : Int)).map V.int := by
  unfold rgV
  rw [List.map_map, Int.sub_zero]
  refine List.map_congr_left fun i _ => ?_
  show V.int (0 + (i : Int)) = V.int i
  rw [Int.zero_add]
theorem r_rRg1 {H : Hp} {Q : VK} {n : Int} (h0 : 0 ≤ n) (h1 : n ≤ 1000000) (k : ∀ p H2, H p = none → Ex H H2 → H2 p = some (.lst (((List.range n.toNat).map fun i : Nat => (i : Int)).map V.int)) → Q (.ref p) H2) : rRg1 Q (.int n) H :=
  ⟨n, rfl, RgOk.of_le (by decide) (by omega) (by decide) h0, fun q hq => k q _ hq (Ex.new hq) (by rw [← rg_ints]; exact upd_same)⟩
/-- a statement is shown apart from what follows it -/
theorem r_cut {t : TS} {D : Ends} {σ : L2.St} {H : Hp} (P : L2.St → Hp → Prop) (h1 : ∀ N : L2.St → Hp → Prop, (∀ s h, P s h → N s h) → t ⟨N, D.rt, D.bk, D.ct⟩ σ H) (h2 : ∀ s h, P s h → D.nx s h) : t D σ H := h1 D.nx h2
/-- x = e, x is .non or a list of ints -/
def NonL (F h : Hp) (v : V) (P : Prop) (L : List Int) : Prop := (v = .non ∧ P) ∨ ∃ l, v = .ref l ∧ F l = none ∧ h l = some (.lst (L.map V.int)) ∧ ¬ P
/-! ### a def with defaults, all its parameters written -/
theorem binds_d {K : PySem.W.Frag} {fd : FuncData} {ps : List Str} {T : Addr} {o : Obj} {its : List Value} {n : Nat} (lT : K.lookup T = some o) (oT : o.data = .seq its.toArray n)
    (h : ∀ us : List Value, us.length = ps.length → ∃ k, bindArgs fd ⟨us, []⟩ = seqItems? (.ref T) >>= k ∧ k (some its.toArray) = pure (ps.zip us)) : Binds K fd ps [] := fun s us X hl => by
  rw [List.append_nil] at hl ⊢
  obtain ⟨k, e1, e2⟩ := h us hl
  refine L2.BindsTo.of_looks fun M => ?_
  rw [e1]
  exact L2.looks_items X lT oT (.of_pure e2)
end Lay
/-! lambdas without parameters handed to a def that calls them in a try; isinstance of caught errors with fields -/
namespace Lay
open PySem PySem.Spec PyProof.Rows L2 Evl
/-! ### isinstance of a caught error -/
structure XI (K : PySem.W.Frag) (C : Addr) : Prop where
  cl : (PySem.W.clsIn K C).isSome = true
  ga : PySem.W.findIn K (.ref C) "__getattribute__" = some (some (.builtin "BaseException.__getattribute__"))
  gg : PySem.W.findIn K (.ref C) "__getattr__" = some none
  sub : PySem.W.subIn K (.ref C) (.type "BaseException") = some true
  ha : PySem.W.findIn K (.ref C) "__class__" = some (some (.builtin "object.__class__"))
  hn : PySem.W.specialIn K (.builtin "object.__class__") "__get__" = some (some (.builtin "getset_descriptor.__get__"))
  ht : PySem.W.takesIn K (.builtin "object.__class__") = some true
  hm : PySem.W.mroIn K C (.type "object") = some true
def rIsX (K : PySem.W.Frag) (C a : Addr) (cls : Value) (d : Option Addr) : List V → Hp → VK → Prop := fun xs H Q => ∃ (c : V) (u : Value) (b : Bool) (dd : Addr) (fs : List (Str × V)), xs = [.ref a, c] ∧ cls = .ref C ∧ ClsV c u ∧ d = some dd ∧ H dd = some (.xd fs) ∧ PySem.W.kitOne K (.ref C) u = some b ∧ Q (.bl b) H
def rIsXT (K : PySem.W.Frag) (C a : Addr) (cls : Value) (d : Option Addr) : List V → Hp → VK → Prop := fun xs H Q => ∃ (tp : Addr) (cs : List V) (us : List Value) (b : Bool) (dd : Addr) (fs : List (Str × V)), xs = [.ref a, .ref tp] ∧ cls = .ref C ∧ H tp = some (.tup cs) ∧ Paired ClsV cs us ∧ d = some dd ∧ H dd = some (.xd fs) ∧ PySem.W.kitAny K (.ref C) us = some b ∧ Q (.bl b) H
section
variable {X : Cx} {a C : Addr} {oe : Obj} {cls : Value} {d : Option Addr} {pn : List (Addr × Obj)}
theorem inst_exc {pins : List (Addr × Obj)} {σ : L2.St} {H : Hp} {s : Shared} {fs : List (Str × V)} {dd : Addr} (I : Inv (X.suite a ((a, oe) :: pn)) pins σ H s) (hz : Zc (.ref C) (some dd) oe) (hf : ∃ vs, oe.data = .fields vs) (ea : H dd = some (.xd fs)) :
    ∃ od, PySem.W.InstAt s.heap a oe C (some od) := by
  obtain ⟨ha, _⟩ := I.pin (a, oe) (List.mem_append_left _ List.mem_cons_self)
  obtain ⟨vs, hd⟩ := hf
  have hx : ObjOk X.prog X.w H s.heap dd (.xd fs) := I.hok dd _ ea
  obtain ⟨mA, hns, hr⟩ := hx
  obtain ⟨od, ho, hl⟩ := lookIn_ns hns
  exact ⟨od, ha, hz.1, by unfold PySem.W.notCls; rw [hd] <;> rfl, by rw [hz.2]; exact ho⟩
theorem call_isX (T : XI X.K C) (hz : Zc cls d oe) (hf : ∃ vs, oe.data = .fields vs) : CallR (X.suite a ((a, oe) :: pn)) (.builtin "isinstance") (rIsX X.K C a cls d) := by
  intro pins s σ H xs us Q I r h
  obtain ⟨c, u, b, dd, fs, rfl, rfl, k, rfl, ea, e, q⟩ := h
  obtain ⟨u1, u2, rfl, r1, r2⟩ := vals2 r
  have e2 := k.eq r2
  subst e2
  cases (show u1 = Value.ref a from r1)
  obtain ⟨od, J⟩ := inst_exc I hz hf ea
  exact PySem.W.kia_one (PySem.W.kitx_exc T.cl T.ga T.gg T.sub T.ha T.hn T.ht T.hm) I.kIn J e (fun z => nomatch z) fun tk => ⟨.bl b, H, I.tok tk, rfl, q⟩
theorem call_isXT (T : XI X.K C) (hz : Zc cls d oe) (hf : ∃ vs, oe.data = .fields vs) : CallR (X.suite a ((a, oe) :: pn)) (.builtin "isinstance") (rIsXT X.K C a cls d) := by
  intro pins s σ H xs us Q I r h
  obtain ⟨tp, cs, ws, b, dd, fs, rfl, rfl, hT, k, rfl, ea, e, q⟩ := h
  obtain ⟨u1, u2, rfl, r1, r2⟩ := vals2 r
  cases (show u1 = Value.ref a from r1)
  cases (show u2 = Value.ref tp from r2)
  obtain ⟨_, its, rv, o, h1, h2, n, h3⟩ := (show ObjOk X.prog X.w H s.heap tp (.tup cs) from I.hok tp _ hT)
  have e3 := ClsV.all k rv
  subst e3
  obtain ⟨oc, od, dt, sl⟩ := o
  simp only at h2 h3
  subst h2 h3
  obtain ⟨od, J⟩ := inst_exc I hz hf ea
  exact PySem.W.kia_tup (PySem.W.kitx_exc T.cl T.ga T.gg T.sub T.ha T.hn T.ht T.hm) I.kIn J h1 e (fun z => nomatch z) fun tk => ⟨.bl b, H, I.tok tk, rfl, q⟩
end
/-! ### heaps, but for the tables -/
abbrev ExN := LamX.ExtN
theorem exn_at {H H' : Hp} {a : Addr} {o : HO} (e : LamX.ExtN H H') (n : ∀ ps, o ≠ .tbl ps) (h : H a = some o) : H' a = some o := e a o h n
theorem exn_l {K : PySem.W.Frag} {H H' : Hp} {a : Addr} {xs : List V} (e : LamX.ExtN H H') (h : SqL K H a xs) : SqL K H' a xs := by
  rcases h with (h | ⟨o, h⟩) | h
  · exact .inl (.inl (e _ _ h fun _ z => by cases z))
  · exact .inl (.inr ⟨o, e _ _ h fun _ z => by cases z⟩)
  · exact .inr h
theorem Ex.n {H H' : Hp} (e : Ex H H') : LamX.ExtN H H' := fun b o h _ => e b o h
theorem Pur.exn {H H2 : Hp} {p : Addr} (h : Pur H p) (e : LamX.ExtN H H2) : Pur H2 p := by
  obtain ⟨a, b, c, h⟩ := h
  exact ⟨a, b, c, e _ _ h fun _ z => by cases z⟩
theorem Tabs.exb {T : List (Addr × Str)} {H H2 : Hp} {p : Addr} (t : LamX.Tabs T H) (e : ExB p H H2) (n : (∃ xs, H p = some (.lst xs)) ∨ ∃ C dx fs, H p = some (.ins C dx fs)) : LamX.Tabs T H2 := fun q hq => by
  obtain ⟨ps, h1, h2, h3⟩ := t q hq
  have np : ∀ b o, H b = some o → ((∃ qs, o = .tbl qs) ∨ ∃ f, o = .ext f) → b ≠ p := fun b o hb k z => by
    rw [z] at hb
    rcases n with ⟨xs, n⟩ | ⟨C, dx, fs, n⟩ <;> rw [n] at hb <;> cases hb <;> rcases k with ⟨_, k⟩ | ⟨_, k⟩ <;> cases k
  refine ⟨ps, e _ _ (np _ _ h1 (.inl ⟨_, rfl⟩)) h1, h2, fun pos cv hc => ?_⟩
  obtain ⟨c, e1, e2⟩ := h3 pos cv hc
  exact ⟨c, e1, e _ _ (np _ _ e2 (.inr ⟨_, rfl⟩)) e2⟩
theorem Pur.lst {H : Hp} {p : Addr} (h : Pur H p) : ∃ xs, H p = some (.lst xs) := by
  obtain ⟨a, b, c, h⟩ := h
  exact ⟨_, h⟩
/-- all but the purse and the tables -/
def ExP (p : Addr) (H H' : Hp) : Prop := ∀ b o, b ≠ p → H b = some o → (∀ ps, o ≠ .tbl ps) → H' b = some o
theorem ExP.refl (p : Addr) (H : Hp) : ExP p H H := fun _ _ _ h _ => h
theorem ExP.trans {p : Addr} {H H1 H2 : Hp} (a : ExP p H H1) (b : ExP p H1 H2) : ExP p H H2 := fun c o n h k => b c o n (a c o n h k) k
theorem ExP.ofN {p : Addr} {H H1 : Hp} (a : LamX.ExtN H H1) : ExP p H H1 := fun c o _ h k => a c o h k
theorem ExP.ofB {p : Addr} {H H1 : Hp} (a : ExB p H H1) : ExP p H H1 := fun c o n h _ => a c o n h
theorem ExP.ofE {p : Addr} {H H1 : Hp} (a : Ex H H1) : ExP p H H1 := fun c o _ h _ => a c o h
/-! ### a lambda handed to a def that calls it in a try -/
theorem takes_len {X : Cx} {W : WX} (t : Takes X W) : Takes X (fun cls d σ H => σ.length = X.N.length → W cls d σ H) := fun u s' ⟨a, B, sI, pins, σ, H, cls, d, e, I, nb, up, sky, na, os, ag, w⟩ =>
  t u s' ⟨a, B, sI, pins, σ, H, cls, d, e, I, nb, up, sky, na, os, ag, w I.len⟩
/-- try: a() / except ..: .. / the rest -/
def TTry (K : PySem.W.Frag) (Ng : List Str) (l : List ClA) (tr : TS) : (XK → Hp → VK → Prop) → Hp → VK → Prop := fun tl H Q =>
  ∀ f : Addr, tl (fun cls d H' => ∀ σ' : L2.St, σ'.length = Ng.length → wManyA K (fun _ _ _ _ => False) ⟨tr { nx := fun _ H' => Q .non H', rt := Q }, Q, fun _ _ => False, fun _ _ => False⟩ l cls d σ' H') H
    (fun _ H1 => tr { nx := fun _ H' => Q .non H', rt := Q } (start Ng [.ref f]) H1)
abbrev gX (X : Cx) (Ng : List Str) (x : Str) (sg : Scope) (g : Addr) (cdg : Value) (s : Shared) (H : Hp) : Cx := (cxOf C8.CX0 X.prog X.w X.K X.mg X.base Ng x sg g cdg X.A X.stack s H C8.E0).nox
theorem try_gives {X : Cx} {Ng : List Str} {x a q : Str} {sg : Scope} {h0 : ExceptHandler} {hds : List ExceptHandler} {l : List ClA} {r0 : Stmt} {rest : List Stmt} {tr : TS} {p1 p2 p3 p8 : Pos} (hn : Ng.Nodup) (hs : ∀ f : Addr, (start Ng [V.ref f])[0]? = some (some (V.ref f)))
    (hh : ∀ (g : Addr) (cdg : Value) (s : Shared) (H : Hp), HdsA (gX X Ng x sg g cdg s H) (h0 :: hds) l) (hr : ∀ (g : Addr) (cdg : Value) (s : Shared) (H : Hp), PSs (gX X Ng x sg g cdg s H) (r0 :: rest) tr) (g : Addr) (cdg : Value) :
    LamX.GivesTo X Ng x sg g cdg (.Try [.Expr (.Call (.Name a p1) [] [] p2) p3] (h0 :: hds) [] [] p8 :: r0 :: rest) a q (TTry X.K Ng l tr) := by
  intro f c' s H Q tl act hc h
  refine ⟨_, pss_cons (ps_tryA (X := gX X Ng x sg g cdg s H) (W0 := fun _ _ _ _ => False)
      (tb := fun W D σ H => ∃ Ech : XK, (∀ cls d σ' H', σ'.length = Ng.length → Ech cls d H' → W cls d σ' H') ∧ σ[0]? = some (some (.ref f)) ∧ H c' = some (LamX.CodeO c' q) ∧ tl Ech H (fun _ H1 => D.nx σ H1))
      rfl rfl hn takes0 (fun W pn xe tk _ => ?_) (hh g cdg s H)) (hr g cdg s H), ?_⟩
  · refine ⟨fun pins s' σ H' D I h' => ?_⟩
    obtain ⟨Ech, hW, h1, h2, h3⟩ := h'
    have tk' : Takes ((cxOf C8.CX0 X.prog X.w X.K X.mg X.base Ng x sg g cdg X.A X.stack s H C8.E0).tr pn xe) (fun cls d σ H => σ.length = Ng.length → W cls d σ H) := takes_len tk
    have hp := act _ pn xe Ech p1 p2 tk' (fun cls d σ' H' e l => hW cls d σ' H' l e)
    have hq := pss_one (ps_expr (pos := p3) hp)
    exact hq.run pins s' σ H' D I ⟨h1, h2, h3⟩
  · exact ⟨_, fun cls d σ' H' l e => e σ' l, hs f, hc, h f⟩
/-! ### defs that make lambdas: their code object is known -/
structure AtL (K : PySem.W.Frag) (mg : Str → Option Value) (x : Str) (st : Stmt) (ps : List Str) (c : Addr) : Prop where
  ex : ∃ (f : Addr) (oc : Value) (od : Option Addr) (kV doc pm : Value) (an : Option Addr) (ct : Value) (osl : Array (Option Value)),
    K.lookup f = some ⟨oc, od, .func (PySem.W.fnOf x x (defArgs st) (defBody st) (defScope st) .none kV doc pm an (.ref c) ct), osl⟩ ∧ PySem.W.codeIn K (.ref c) x = true ∧ mg x = some (.ref f) ∧ PySem.W.keepIn K (.ref f) = true ∧
    Binds K (PySem.W.fnOf x x (defArgs st) (defBody st) (defScope st) .none kV doc pm an (.ref c) ct) ps []
section
variable {P : Program} {w : World} {K : PySem.W.Frag} {mg : Str → Option Value} {base : Heap}
theorem Def.mkL {x : Str} {st : Stmt} {N ps : List Str} {k : Nat} {sp : Sp} {c : Addr} (F : AtL K mg x st ps c) (S : FnScope N ps (defScope st)) (len : ∀ vs H Q E, sp vs H Q E → vs.length = ps.length)
    (hbody : ∀ (f : Addr) (A : Around) (outer : List Env) (s : Shared) (H : Hp) (vs : List V) (Q : VK) (E : XK), Room k (A.deeper (envOfC x (defScope st) s.heap.objs.size f (.ref c))) → sp vs H Q E →
      ∃ t, PSs (cxOf (L2.CX P w) P w K mg base N x (defScope st) f (.ref c) A outer s H E) (defBody st) t ∧ t { nx := fun _ H' => Q .non H', rt := Q } (start N vs) H) : Def P w K mg base x (k + 1) ps sp := by
  obtain ⟨f, oc, od, kV, doc, pm, an, ct, osl, lk, hcd, g, kp, b⟩ := F.ex
  exact ⟨f, _, fn_of lk hcd S len fun A outer s H vs Q E hr hsp => hbody f A outer s H vs Q E hr hsp, g, kp, b⟩
theorem atL_mk {x : Str} {st : Stmt} {f c : Addr} {ps : List Str} {oc : Value} {od an : Option Addr} {osl : Array (Option Value)} {kV doc pm ct : Value} {h : Heap} (X : K.In h) (G : h.Ns mainGlobals mg)
    (a : PySem.W.nsIn K mainGlobals x = some (some (.ref f))) (l : K.lookup f = some ⟨oc, od, .func (PySem.W.fnOf x x (defArgs st) (defBody st) (defScope st) .none kV doc pm an (.ref c) ct), osl⟩) (hc : PySem.W.codeIn K (.ref c) x = true) (k : PySem.W.keepIn K (.ref f) = true)
    (hb : ∀ (kV doc pm : Value) (an : Option Addr) (cdv ct : Value) (us : List Value), us.length = ps.length → bindArgs (PySem.W.fnOf x x (defArgs st) (defBody st) (defScope st) .none kV doc pm an cdv ct) ⟨us, []⟩ = pure (ps.zip us)) : AtL K mg x st ps c :=
  ⟨f, oc, od, kV, doc, pm, an, ct, osl, l, hc, PySem.W.mg_of X G a, k, (fun_mk l hc k).binds hb⟩
end
def lamQ (x : Str) : Str := (x ++ ".<locals>.") ++ "<lambda>"
section
variable {X : Cx}
/-- x(lambda: body) -/
theorem pe_lam {T : List (Addr × Str)} {TT : (XK → Hp → VK → Prop) → Hp → VK → Prop} {x a : Str} {st : Stmt} {c P : Addr} {k : Nat} {Ng : List Str} {params : Arguments} {body : Expr} {scope : Scope} {t : XK → TE} {p lpos pos : Pos}
    (F : At X.K X.mg x st [a]) (Sg : FnScope Ng [a] (defScope st)) (hNg : Ng[0]? = some a) (hva : Vis (defScope st) a)
    (hG : ∀ (g : Addr) (cdg : Value), LamX.GivesTo X Ng x (defScope st) g cdg (defBody st) a (X.env.qual ++ "<lambda>") TT)
    (TB : LamX.TabB X.base X.mg c P) (hmT : (P, X.env.qual ++ "<lambda>") ∈ T) (hu : ∀ p ∈ T, p.1 = P → p.2 = X.env.qual ++ "<lambda>") (hr : Room (k + 2) X.A) (L : LamX.LamS X.env.scope scope)
    (hbind : ∀ (q : Str) (cl : List (Str × Addr)) (pm cv ctv : Value), bindArgs (PySem.W.kla_fn "<lambda>" q params body scope cl pm cv ctv) ⟨[], []⟩ = pure [])
    (hbody : ∀ (A : Around) (outer : List Env) (s : Shared) (H : Hp) (E : XK) (f c' : Addr), Room k (A.deeper (LamX.lamEnv X scope s.heap.objs.size f c')) → PE (LamX.lamCx X A outer s H E scope f c') body (t E))
    (hg : Gl X x := by rfl) (hcode : X.env.code = .ref c := by rfl) (hdef : defaultsOf params X.env = ([], []) := by rfl) (hdb : (x == ("__debug__" : Str)) = false := by decide) (hd : (a == ("__debug__" : Str)) = false := by decide) (hcd : (a == ("__classdict__" : Str)) = false := by decide) :
    PE X (.Call (.Name x p) [.Lambda params body scope lpos] [] pos) (LamX.tLam T TT t) := by
  obtain ⟨f, fd, Ff, hm, b⟩ := F.ex
  have kp := Ff.kp
  obtain ⟨oc, od, kV, doc, pm, an, cdv, ct, osl, rfl, lk, hcdv⟩ := Ff.ex
  exact LamX.pe_lamcall hg hm kp lk hcdv b Sg hNg hva (hG f cdv) TB hcode hmT hu hr L hdef hbind hbody hdb hd hcd
end
theorem r_lam {T : List (Addr × Str)} {TT : (XK → Hp → VK → Prop) → Hp → VK → Prop} {t : XK → TE} {σ : L2.St} {H : Hp} {Q : VK} (hT : LamX.Tabs T H) (h : ∀ H1, LamX.ExtN H H1 → LamX.Tabs T H1 → TT (fun E H' Q' => t E σ H' Q') H1 Q) : LamX.tLam T TT t σ H Q := ⟨hT, h⟩
/-- one clause's suite: return (tag, e.f) -/
def retF (tag : Str) (C : Addr) (f : Str) (i : Nat) : Addr → Value → Option Addr → TS := fun a cls d => tRet (tTup (tCons (tC (.str tag)) (tCons (tXf a cls d C f (tVar i)) tNil)))
section
variable {K : PySem.W.Frag} {W0 : WX} {D : Ends} {l : List ClA} {C C' : Addr} {f tag : Str} {i : Nat} {ts : Addr → Value → Option Addr → TS} {σ : L2.St} {H : Hp} {dd : Addr} {v : V}
theorem wm_no (h : PySem.W.exmOne K (.ref C) (.ref C') = some false) (k : wManyA K W0 D l (.ref C) (some dd) σ H) : wManyA K W0 D ((.ref C', i, ts) :: l) (.ref C) (some dd) σ H :=
  ⟨false, h, (fun z => absurd z (by decide)), fun _ => k⟩
theorem wm_yes (h : PySem.W.exmOne K (.ref C) (.ref C) = some true) (hd : H dd = some (.xd [(f, v)])) (hi : i < σ.length) (k : ∀ t H2, Ex H H2 → H2 t = some (.tup [.str tag, v]) → D.rt (.ref t) H2) : wManyA K W0 D ((.ref C, i, retF tag C f i) :: l) (.ref C) (some dd) σ H :=
  ⟨true, h, fun _ a ha => by
    show tXf a (.ref C) (some dd) C f (tVar i) (σ.set i (some (.ref a))) H fun x H1 => tNil (σ.set i (some (.ref a))) H1 fun xs H2 => NewT (.str tag :: x :: xs) H2 D.rt
    refine r_xf (by rw [List.getElem?_set_self hi]) hd ?_
    exact r_newT (len3 rfl) fun t H2 _ e h => k t H2 e h, fun z => absurd z (by decide)⟩
end
/-! ### the end, with tables -/
theorem end_ofTs {l : PySem.W.OpenLaw} {k : Nat} {q : Program} {loose : List Str} {XP : (Str → Option Value) → Heap → Prop} {YP : World → Heap → Prop} {d : DefRec} {K : Params → PySem.W.Frag} {sp : PySem.W.Frag → List (Addr × Addr) → Sp}
    (hn : l.most = some 63) (hdf : d.params.defaults = []) (hr : Room k callerA) (hY : ∀ (w : World) (h : Heap), YP w h → (K w.params).In h)
    (hsp : ∀ (K : PySem.W.Frag) (cs : List (Addr × Addr)) (H : Hp) (a : Addr) (ns : List Int), ns.length ≤ 63 → (∀ p ∈ cs, H p.2 = some (.tbl #[])) → SqL K H a (ns.map V.int) → sp K cs [.ref a] H (fun v _ => v = .bl true) fun _ _ _ => False)
    (F : ∀ (w : World) (mg : Str → Option Value) (fa : Addr) (h : Heap), (K w.params).In h → h.Ns mainGlobals mg → mg d.name = some (.ref fa) →
      ∃ (fd : FuncData) (cs : List (Addr × Addr)), (∀ p ∈ cs, (∃ x, ((recsOf q).find? fun e => e.name == x).isSome = true ∧ PySem.W.tabIn (K w.params) x = some p) ∧ (K w.params).lookup p.2 = none) ∧
        (∀ (s : Shared) (u : Value), BindsTo s fd ⟨[u], []⟩ [("script", u)]) ∧ ∀ base : Heap, (K w.params).In base → base.Ns mainGlobals mg → (∀ p ∈ cs, LamX.TabB base mg p.1 p.2) → FnOk l.prog w (K w.params) mg base (L2.CX l.prog w) k fa fd ["script"] (sp (K w.params) cs)) :
    PySem.W.WalkO q loose XP YP l.row.toRowW d [] (fun f vs => PySem.call f vs) := by
  refine Att.attach_callB hn hdf fun w s₀ s₁ mg mb fa o pm cd doc a vs ns G Y ho hd hcd hmg hobj hints hlen hbits hg => ?_
  have KX := hY w _ Y
  obtain ⟨fd, cs, hcs, hb, hF⟩ := F w mg fa _ KX G.T.g hmg
  have tb : ∀ p ∈ cs, PySem.W.CodeHd s₁.heap p.1 p.2 ∧ s₁.heap.get? p.2 = some (PySem.W.tabObj #[]) := fun p hp => by
    obtain ⟨⟨x, hx, ht⟩, _⟩ := hcs p hp
    obtain ⟨dr, hdr⟩ := Option.isSome_iff_exists.mp hx
    exact PySem.W.tab_of G.T KX hdr ht
  refine LamX.law_callTs (cs := cs) KX G.T.g G.T.b G.T.builtins G.T.nolimit hg (fun p hp => (tb p hp).2) (fun p hp => (hcs p hp).2) (fun p hp => (tb p hp).1) G.T.bmain hobj hints (Nat.le_trans hlen (by decide)) hr hF hb (fun H hH hS => hsp _ cs H a ns hlen hH hS) fun H e s' z => ?_
  obtain ⟨_, _, _, _, _, _, _, _, _, _, _, _, z⟩ := z
  exact z.elim
end Lay
/-! own errors with two fields; making with defaults -/
namespace Lay
open PySem PySem.Spec PyProof.Rows L2 Evl
def tellR : V → Prop
  | .str s => s = ""
  | _ => False
def spExc2 (K : PySem.W.Frag) (C : Addr) (f1 f2 : Str) : Sp := fun vs H Q _ => ∃ (a : Addr) (v1 v2 : V), vs = [.ref a, v1, v2] ∧ tellR v1 ∧ tellV v2 ∧ H a = some (exo a C none) ∧
  ∀ dx, H dx = none → dx ≠ a → Q .non (upd (upd (upd H dx (exd dx [(f1, v1)])) a (exo a C (some dx))) dx (exd dx [(f2, v2), (f1, v1)]))
structure Exn2 (P : Program) (w : World) (K : PySem.W.Frag) (mg : Str → Option Value) (base : Heap) (x f1 f2 : Str) (C : Addr) : Prop where
  o : OexC K C
  g : mg x = some (.ref C)
  init : ∃ (fI : Addr) (fd : FuncData), PySem.W.findIn K (.ref C) "__init__" = some (some (.ref fI)) ∧ PySem.W.typeIn K (.ref fI) = some (.type "function") ∧ FnOk P w K mg base (L2.CX P w) 1 fI fd ["self", f1, f2] (spExc2 K C f1 f2) ∧ Binds K fd ["self", f1, f2] []
  xf : XfC K C
  no : PySem.W.findIn K (.ref C) f1 = some none
  no2 : PySem.W.findIn K (.ref C) f2 = some none
  te : PySem.W.exmOne K (.ref C) (.ref C) = some true
def tRaiseE2 (C : Addr) (f1 f2 : Str) (W : WX) (te1 te2 : TE) : TS := fun _ σ H => te1 σ H fun v1 H1 => te2 σ H1 fun v2 H2 => tellR v1 ∧ tellV v2 ∧ ∀ d H3, Ex H2 H3 → H3 d = some (.xd [(f2, v2), (f1, v1)]) → W (.ref C) (some d) σ H3
section
variable {X : Cx} {x f1 f2 : Str} {C : Addr} {W : WX} {e1 e2 : Expr} {te1 te2 : TE} {p pos pos2 : Pos}
theorem ps_raiseE2 (T : Exn2 X.prog X.w X.K X.mg X.base x f1 f2 C) (hc : X.calm = true) (hr : Room 2 X.A) (tk : Takes X W) (he1 : PE X e1 te1) (he2 : PE X e2 te2) (hg : Gl X x := by rfl) (hdb : (x == ("__debug__" : Str)) = false := by decide)
    (hs2 : starEach (e2 :: []) X.env = (false, eval e2 X.env) :: starEach [] X.env := by rfl) (hs : starEach (e1 :: e2 :: []) X.env = (false, eval e1 X.env) :: starEach [e2] X.env := by rfl) (hpl : (backTo pos (starEach [e2] X.env)).any (·.1) = false := by rfl) :
    PS X (.Raise (some (.Call (.Name x p) [e1, e2] [] pos)) none pos2) (tRaiseE2 C f1 f2 W te1 te2) := by
  obtain ⟨fI, fd, iC, tI, F, b⟩ := T.init
  have hx : Passes (L2.CX X.prog X.w) X (fun _ _ _ => False) := passL
  have m := pmk_oex (pos := pos) (p := p) T.o iC tI F (hr.mono (Nat.le_refl _)) b .nil hx hg T.g (pa_cons (pe_cl he1) (pa_cons (pe_cl he2) pa_nil hs2) hs) hdb hs hpl
  have r := ps_raise (pos := pos2) hc tk m
  refine ⟨fun pins s σ H D I h => r.run pins s σ H D I ?_⟩
  show ∃ P1 : VK, te1 σ H P1 ∧ _
  have key : ∀ v1 v2 H1, (tellR v1 ∧ tellV v2 ∧ ∀ d H2, Ex H1 H2 → H2 d = some (.xd [(f2, v2), (f1, v1)]) → W (.ref C) (some d) σ H2) →
      ([v1, v2] : List V).length ≤ 1000 ∧ ∀ a, H1 a = none → spExc2 X.K C f1 f2 (.ref a :: ([v1, v2] ++ [])) (upd H1 a (exo a C none))
        (fun u H2 => u = .non ∧ ∃ (d : Addr) (fs : List (Str × V)), H2 a = some (exo a C (some d)) ∧ H2 d = some (exd d fs) ∧ H1 d = none ∧ W (.ref C) (some d) σ (upd (del H2 a) d (.xd fs))) (fun _ _ _ => False) := by
    intro v1 v2 H1 q
    refine ⟨by show 2 ≤ 1000; decide, fun a ha => ⟨a, v1, v2, rfl, q.1, q.2.1, upd_same, fun dx hdx hne => ⟨rfl, dx, [(f2, v2), (f1, v1)], ?_, upd_same, ?_, ?_⟩⟩⟩
    · rw [upd_ne hne.symm, upd_same]
    · rw [upd_ne hne] at hdx
      exact hdx
    · have hd1 : H1 dx = none := by
        rw [upd_ne hne] at hdx
        exact hdx
      refine q.2.2 dx _ (fun b o hb => ?_) upd_same
      have n1 : b ≠ dx := ne_of_none hb hd1
      have n2 : b ≠ a := ne_of_none hb ha
      rw [upd_ne n1, del_ne n2, upd_ne n1, upd_ne n2, upd_ne n1, upd_ne n2]
      exact hb
  exact ⟨_, h, fun v1 H1 q1 => ⟨_, q1, fun v2 H2 q2 => key v1 v2 H2 q2⟩⟩
end
section
variable {K : PySem.W.Frag} {σ : L2.St} {H : Hp} {D : Ends} {a C : Addr} {f1 f2 : Str} {v1 v2 : V}
theorem r_raise2 {W : WX} {te1 te2 : TE} (h : te1 σ H fun v1 H1 => te2 σ H1 fun v2 H2 => tellR v1 ∧ tellV v2 ∧ ∀ d H3, Ex H2 H3 → H3 d = some (.xd [(f2, v2), (f1, v1)]) → W (.ref C) (some d) σ H3) : tRaiseE2 C f1 f2 W te1 te2 D σ H := h
theorem exc_body2 {parts : List TE} (js : ∀ R : Str → Hp → Prop, (∀ s, R s H) → tJs parts Str.empty σ H R) (e0 : σ[0]? = some (some (.ref a))) (e1 : σ[1]? = some (some v1)) (e2 : σ[2]? = some (some v2)) (o : OexC K C) (no : PySem.W.findIn K (.ref C) f1 = some none) (no2 : PySem.W.findIn K (.ref C) f2 = some none)
    (ha : H a = some (exo a C none)) (q : ∀ dx, H dx = none → dx ≠ a → D.nx σ (upd (upd (upd H dx (exd dx [(f1, v1)])) a (exo a C (some dx))) dx (exd dx [(f2, v2), (f1, v1)]))) :
    tSeq (tDrop (tVeI K (tCons (tVar 0) (tCons (fun σ H Q => tJs parts Str.empty σ H fun out H1 => Q (.str out) H1) tNil)))) (tSeq (tOst K f1 (tVar 0) (tVar 1)) (tOst K f2 (tVar 0) (tVar 2))) D σ H := by
  refine ⟨_, e0, ?_⟩
  refine js _ fun s => ?_
  refine ⟨a, C, [.str s], rfl, by show 1 ≤ 1000; decide, o, ha, _, e1, _, e0, a, C, rfl, o, no, .inl ⟨ha, fun dx hdx hne => ?_⟩⟩
  refine ⟨_, e2, _, e0, a, C, rfl, o, no2, .inr ⟨dx, [(f1, v1)], upd_same, ?_, by show 1 ≤ 900; decide, q dx hdx hne⟩⟩
  rw [upd_ne hne, upd_same]
theorem js_r {n k : Nat} {ts : List TE} {acc : Str} {R : Str → Hp → Prop} (e1 : σ[n]? = some (some v1)) (tr : tellR v1) (ha : acc.length ≤ k) (hk : k ≤ 50000) (h : ∀ acc' : Str, acc'.length ≤ k + 2 → tJs ts acc' σ H R) : tJs (tFmtR (tVar n) :: ts) acc σ H R := by
  cases v1 with
  | str s =>
    obtain rfl : s = "" := tr
    have rl : (reprText "").length = 2 := by decide +kernel
    refine ⟨_, e1, .inl ⟨"", rfl, by rw [rl]; exact sz_of (by decide), _, rfl, sz_of (by rw [app_len, rl]; omega), h _ (by rw [app_len, rl]; omega)⟩⟩
  | non => exact tr.elim
  | bl b => exact tr.elim
  | int i => exact tr.elim
  | byt b => exact tr.elim
  | flt b => exact tr.elim
  | ref b => exact tr.elim
  | ty b => exact tr.elim
end
/-- one clause's suite: return (tag, e.f1, e.f2) -/
def retF2 (tag : Str) (C : Addr) (f1 f2 : Str) (i : Nat) : Addr → Value → Option Addr → TS := fun a cls d => tRet (tTup (tCons (tC (.str tag)) (tCons (tXf a cls d C f1 (tVar i)) (tCons (tXf a cls d C f2 (tVar i)) tNil))))
section
variable {K : PySem.W.Frag} {W0 : WX} {D : Ends} {l : List ClA} {C : Addr} {f1 f2 tag : Str} {i : Nat} {σ : L2.St} {H : Hp} {dd : Addr} {v1 v2 : V}
theorem wm_yes2 (h : PySem.W.exmOne K (.ref C) (.ref C) = some true) (hd : H dd = some (.xd [(f2, v2), (f1, v1)])) (hf : (f1 == f2) = false) (hi : i < σ.length) (k : ∀ t H2, Ex H H2 → H2 t = some (.tup [.str tag, v1, v2]) → D.rt (.ref t) H2) :
    wManyA K W0 D ((.ref C, i, retF2 tag C f1 f2 i) :: l) (.ref C) (some dd) σ H :=
  ⟨true, h, fun _ a ha => by
    have e : (σ.set i (some (V.ref a)))[i]? = some (some (.ref a)) := by rw [List.getElem?_set_self hi]
    refine ⟨_, e, rfl, rfl, dd, _, v1, rfl, hd, by simp [List.lookup, hf], _, e, rfl, rfl, dd, _, v2, rfl, hd, by simp [List.lookup], ?_⟩
    exact r_newT (len3 rfl) fun t H2 _ e h => k t H2 e h, fun z => absurd z (by decide)⟩
end
/-! ### C(..), the rest of the parameters by their defaults -/
structure DID (P : Program) (w : World) (K : PySem.W.Frag) (mg : Str → Option Value) (base : Heap) (x : Str) (C : Addr) (k : Nat) (ps : List Str) (dvs : List V) (sp : Sp) : Prop where
  ex : ∃ (f : Addr) (fd : FuncData) (ds : List Value), FnOk P w K mg base (L2.CX P w) k f fd ps sp ∧ Mk K C f ∧ mg x = some (.ref C) ∧ Vals dvs ds ∧ Binds K fd ps ds
structure AtID (K : PySem.W.Frag) (mg : Str → Option Value) (x : Str) (C : Addr) (qual : Str) (st : Stmt) (ps : List Str) (dvs : List V) : Prop where
  ex : ∃ (f : Addr) (fd : FuncData) (ds : List Value), FunD K "__init__" qual st f fd ∧ Mk K C f ∧ mg x = some (.ref C) ∧ Vals dvs ds ∧ Binds K fd ps ds
theorem DI.dflt {P : Program} {w : World} {K : PySem.W.Frag} {mg : Str → Option Value} {base : Heap} {x : Str} {C : Addr} {qual : Str} {st : Stmt} {N ps : List Str} {dvs : List V} {k : Nat} {sp : Sp} (F : AtID K mg x C qual st ps dvs) (S : FnScope N ps (defScope st)) (len : ∀ vs H Q E, sp vs H Q E → vs.length = ps.length)
    (hbody : ∀ (f : Addr) (cdv : Value) (A : Around) (outer : List Env) (s : Shared) (H : Hp) (vs : List V) (Q : VK) (E : XK), Room k (A.deeper (envOfC qual (defScope st) s.heap.objs.size f cdv)) → sp vs H Q E →
      ∃ t, PSs (cxOf (L2.CX P w) P w K mg base N qual (defScope st) f cdv A outer s H E) (defBody st) t ∧ t { nx := fun _ H' => Q .non H', rt := Q } (start N vs) H) : DID P w K mg base x C (k + 1) ps dvs sp := by
  obtain ⟨f, fd, ds, Ff, g, m, v, b⟩ := F.ex
  exact ⟨f, fd, ds, Ff.okX S len (hbody f), g, m, v, b⟩
section
variable {X : Cx} {k : Nat} {ps : List Str} {dvs : List V} {sp : Sp} {E : XK} {x : Str} {C : Addr} {p pos : Pos} {e : Expr} {es : List Expr} {t : TA}
theorem pe_mkDD (d : DID X.prog X.w X.K X.mg X.base x C k ps dvs sp) (hr : Room (k + 1) X.A) (hx : Passes (L2.CX X.prog X.w) X E) (ha : PA X (e :: es) t) (hg : Gl X x := by rfl)
    (hdb : (x == ("__debug__" : Str)) = false := by decide) (he : starEach (e :: es) X.env = (false, eval e X.env) :: starEach es X.env := by rfl) (hpl : (backTo pos (starEach es X.env)).any (·.1) = false := by rfl) :
    PE X (.Call (.Name x p) (e :: es) [] pos) (tMake C sp dvs E t) := by
  obtain ⟨f, fd, ds, F, hm, g, v, b⟩ := d.ex
  exact pe_make hm F hr hg g b v hx ha hdb he hpl
end
def rMkD (C : Addr) (sp : Sp) (dvs : List V) (E : XK) (Q : VK) (vs : List V) (H : Hp) : Prop := ∀ x dx, H x = none → H dx = none → dx ≠ x → sp (.ref x :: (vs ++ dvs)) (upd (upd H dx (.own x)) x (.ins C dx [])) (fun v H2 => v = .non ∧ Q (.ref x) H2) E
theorem r_makeD {C : Addr} {sp : Sp} {dvs : List V} {E : XK} {t : TA} {σ : L2.St} {H : Hp} {Q : VK} (h : t σ H fun vs H1 => rMkD C sp dvs E Q vs H1) : tMake C sp dvs E t σ H Q := h
theorem r_rmkD {C : Addr} {sp : Sp} {dvs : List V} {E : XK} {H : Hp} {Q : VK} {vs : List V} (h : ∀ x dx H2, H x = none → H dx = none → dx ≠ x → Ex H H2 → H2 x = some (.ins C dx []) → sp (.ref x :: (vs ++ dvs)) H2 (fun v H3 => v = .non ∧ Q (.ref x) H3) E) : rMkD C sp dvs E Q vs H := fun x dx nx nd ne => by
  have e : Ex H (upd (upd H dx (.own x)) x (.ins C dx [])) := fun b o hb => by
    rw [upd_ne (ne_of_none hb nx), upd_ne (ne_of_none hb nd)]
    exact hb
  exact h x dx _ nx nd ne e upd_same
/-- a def's last parameters by their defaults -/
theorem binds_dd {K : PySem.W.Frag} {fd : FuncData} {ps : List Str} {T : Addr} {o : Obj} {its : List Value} {n m : Nat} (lT : K.lookup T = some o) (oT : o.data = .seq its.toArray n) (hm : m + its.length = ps.length)
    (h : ∀ us : List Value, us.length = m → ∃ k, bindArgs fd ⟨us, []⟩ = seqItems? (.ref T) >>= k ∧ k (some its.toArray) = pure (ps.zip (us ++ its))) : Binds K fd ps its := fun s us X hl => by
  obtain ⟨k, e1, e2⟩ := h us (by rw [List.length_append] at hl; omega)
  refine L2.BindsTo.of_looks fun M => ?_
  rw [e1]
  exact L2.looks_items X lT oT (.of_pure e2)
/-! ### lists of data as they grow: what stands without the list itself -/
theorem ex_del {h h2 : Hp} {f : Addr} (e : Ex h h2) : Ex (del h f) (del h2 f) := fun b o hb => by
  by_cases n : b = f
  · rw [n] at hb
    unfold del at hb
    rw [if_pos rfl] at hb
    cases hb
  · rw [del_ne n] at hb ⊢
    exact e _ _ hb
theorem exb_del {p f : Addr} {h h2 : Hp} (e : ExB p h h2) : ExB p (del h f) (del h2 f) := fun b o np hb => by
  by_cases n : b = f
  · rw [n] at hb
    unfold del at hb
    rw [if_pos rfl] at hb
    cases hb
  · rw [del_ne n] at hb ⊢
    exact e _ _ np hb
theorem del_ex {h : Hp} {f : Addr} : Ex (del h f) h := fun b o hb => by
  by_cases n : b = f
  · rw [n] at hb
    unfold del at hb
    rw [if_pos rfl] at hb
    cases hb
  · rw [del_ne n] at hb
    exact hb
theorem exB_del {h h2 : Hp} {f : Addr} (e : ExB f h h2) : Ex (del h f) (del h2 f) := fun b o hb => by
  by_cases n : b = f
  · rw [n] at hb
    unfold del at hb
    rw [if_pos rfl] at hb
    cases hb
  · rw [del_ne n] at hb ⊢
    exact e _ _ n hb
/-- what stood before f -/
theorem ex_to_del {h0 h : Hp} {f : Addr} (e : Ex h0 h) (n : h0 f = none) : Ex h0 (del h f) := fun b o hb => by
  rw [del_ne (ne_of_none hb n)]
  exact e _ _ hb
def LB (K : PySem.W.Frag) (h : Hp) (f : Addr) (xs : List V) (ds : List PyData) : Prop := h f = some (.lst xs) ∧ DpAll K (del h f) xs ds
theorem LB.nil {K : PySem.W.Frag} {h : Hp} {f : Addr} (hf : h f = some (.lst [])) : LB K h f [] [] := ⟨hf, .nil⟩
theorem LB.ex {K : PySem.W.Frag} {h h2 : Hp} {f : Addr} {xs : List V} {ds : List PyData} (b : LB K h f xs ds) (e : Ex h h2) : LB K h2 f xs ds := ⟨e _ _ b.1, Dp.exAll (ex_del e) _ _ b.2⟩
theorem LB.dp {K : PySem.W.Frag} {h : Hp} {f : Addr} {xs : List V} {ds : List PyData} (b : LB K h f xs ds) : Dp K h (.ref f) (.list ds) := .lst (L2.SqL.of b.1) (Dp.exAll del_ex _ _ b.2)
theorem LB.len {K : PySem.W.Frag} {h : Hp} {f : Addr} {xs : List V} {ds : List PyData} (b : LB K h f xs ds) : xs.length = ds.length := Lay.DpAll.len b.2
theorem LB.put {K : PySem.W.Frag} {h H5 : Hp} {f : Addr} {xs : List V} {ds : List PyData} {v : V} {d : PyData} (b : LB K h f xs ds) (hv : Dp K (del h f) v d) (e5 : ExB f h H5) (h5 : H5 f = some (.lst (xs ++ [v]))) : LB K H5 f (xs ++ [v]) (ds ++ [d]) :=
  ⟨h5, DpAll.snoc (Dp.ex (exB_del e5) _ _ hv) (Dp.exAll (exB_del e5) _ _ b.2)⟩
theorem LB.app {K : PySem.W.Frag} {h : Hp} {f : Addr} {xs : List V} {ds : List PyData} {v : V} {d : PyData} {Q : VK} (b : LB K h f xs ds) (lt : xs.length < 100000) (hv : Dp K (del h f) v d) (q : ∀ H5, ExB f h H5 → LB K H5 f (xs ++ [v]) (ds ++ [d]) → Q .non H5) : rAppend (.ref f) [v] h Q :=
  r_app b.1 lt fun H5 e5 h5 _ => q H5 e5 (b.put hv e5 h5)
theorem LB.appW {K : PySem.W.Frag} {h : Hp} {f : Addr} {xs : List V} {ds : List PyData} {v : V} {d : PyData} {N : Hp → Prop} (b : LB K h f xs ds) (lt : xs.length < 100000) (hv : Dp K (del h f) v d) (q : ∀ H5, ExB f h H5 → LB K H5 f (xs ++ [v]) (ds ++ [d]) → N H5) : AppW f N v h :=
  Lay.appW b.1 lt fun H5 e5 h5 => q H5 e5 (b.put hv e5 h5)
/-! ### data read -/
section
variable {K : PySem.W.Frag} {H : Hp} {Q : VK} {l : Addr} {ds : List PyData} {i : Int} {v : V} {d : PyData}
theorem dpa_at {K : PySem.W.Frag} {H : Hp} : ∀ {xs : List V} {ds : List PyData}, DpAll K H xs ds → ∀ {i : Nat} {d : PyData}, ds[i]? = some d → ∃ x, xs[i]? = some x ∧ Dp K H x d
  | _, _, .nil, i, x, h => by cases h
  | _, _, .cons a r, 0, x, h => by cases h; exact ⟨_, rfl, a⟩
  | _, _, .cons a r, i + 1, x, h => dpa_at r (i := i) h
theorem r_ixDp (h : Dp K H (.ref l) (.list ds)) (h0 : 0 ≤ i) (hd : ds[i.toNat]? = some d) (q : ∀ v, Dp K H v d → Q v H) : rIxL K (.ref l) (.int i) H Q := by
  cases h with
  | lst hs ha =>
    obtain ⟨x, hx, hv⟩ := dpa_at ha hd
    exact r_ixL hs (atI_V (j := i.toNat) (by omega) hx) (q x hv)
theorem r_ixDt (h : Dp K H (.ref l) (.tuple ds)) (h0 : 0 ≤ i) (hd : ds[i.toNat]? = some d) (q : ∀ v, Dp K H v d → Q v H) : rIxT K (.ref l) (.int i) H Q := by
  cases h with
  | tup hs ha =>
    obtain ⟨x, hx, hv⟩ := dpa_at ha hd
    exact r_ixT hs (atI_V (j := i.toNat) (by omega) hx) (q x hv)
theorem dp_l (h : Dp K H v (.list ds)) : ∃ a, v = .ref a := by cases h; exact ⟨_, rfl⟩
theorem dp_t (h : Dp K H v (.tuple ds)) : ∃ a, v = .ref a := by cases h; exact ⟨_, rfl⟩
theorem dp_b {b : Bool} (h : Dp K H v (.bool b)) : v = .bl b := by cases h; rfl
theorem dp_i {n : Int} (h : Dp K H v (.int n)) : v = .int n := by cases h; rfl
end
theorem DpAll.append {K : PySem.W.Frag} {H : Hp} {ys : List V} {es : List PyData} (h : DpAll K H ys es) : ∀ {xs : List V} {ds : List PyData}, DpAll K H xs ds → DpAll K H (xs ++ ys) (ds ++ es)
  | _, _, .nil => h
  | _, _, .cons a r => .cons a (DpAll.append h r)
section
variable {K : PySem.W.Frag} {σ : L2.St} {H : Hp} {te : TE} {tt : TT} {Q : VK} {m : Nat} {vs : List Nat} {i j : Int} {P : Prop} [Decidable P]
theorem r_iteCN (h : Q (.int (if P then j else i)) H) : if (!decide P) = true then tC (.int i) σ H Q else tC (.int j) σ H Q := by
  by_cases c : P
  · rw [decide_eq_true c]
    rw [if_pos c] at h
    exact iteF h
  · rw [decide_eq_false c]
    rw [if_neg c] at h
    exact iteT h
/-- a comprehension over a range, with a filter -/
theorem lcR1G (h1 : -1000000000 ≤ j) (h2 : j ≤ 1000000000) (Pv : Addr → Nat → Hp → Prop) (h0 : ∀ p h, H p = none → Ex H h → h p = some (.lst []) → Pv p 0 h)
    (hs : ∀ p (i : Nat) h, (i : Int) < j → Pv p i h → tt ((wipe σ vs).set m (some (.int i))) h fun b h3 => if b = true then te ((wipe σ vs).set m (some (.int i))) h3 (AppW p (Pv p (i + 1))) else Pv p (i + 1) h3) (hd : ∀ p h, Pv p j.toNat h → Q (.ref p) h)
    (hw : ∀ x, wipe ((wipe σ vs).set m (some x)) vs = wipe σ vs) : ItR1 [.int j] H (LcW (gName m) tt te vs σ Q) := by
  refine ⟨j, rfl, by omega, by omega, fun p hp => lc_range (lo := 0) (n := j.toNat) (Pv p) (h0 p _ hp (Ex.new hp) upd_same) (fun i h hi q => ?_) (hd p)⟩
  have e : (0 : Int) + (i : Int) = (i : Int) := Int.zero_add _
  rw [e]
  exact ⟨hw _, hs p i h (by omega) q⟩
end
/-- where a def's table of code objects stands -/
theorem tab_mk {K : PySem.W.Frag} {x q : Str} {f c P : Addr} {o1 o2 : Value} {e1 e2 : Option Addr} {dA : Arguments} {dB : List Stmt} {dS : Scope} {d k m t dc : Value} {n : Option Addr} {s1 s2 : Array (Option Value)} {vs : Array Value}
    (a : PySem.W.nsIn K mainGlobals x = some (some (.ref f))) (l : K.lookup f = some ⟨o1, e1, .func (PySem.W.fnOf x q dA dB dS d k dc m n (.ref c) t), s1⟩)
    (lc : K.lookup c = some ⟨o2, e2, .fields vs, s2⟩) (hv : vs[11]? = some (.ref P)) : PySem.W.tabIn K x = some (c, P) := by
  unfold PySem.W.tabIn
  rw [a]
  simp only []
  rw [show List.lookup f K = _ from l]
  show (match List.lookup c K with | some ⟨_, _, .fields vs, _⟩ => _ | x => none) = _
  rw [show List.lookup c K = _ from lc]
  simp only []
  rw [hv]
end Lay
/-! a list or a tuple walked; enumerate over a tuple -/
namespace Lay
open PySem PySem.Spec PyProof.Rows L2 Evl
/-! ### one of two ways -/
def iOr (a b : TI) : TI := fun σ H R => a σ H R ∨ b σ H R
theorem pi_or {X : Cx} {tg e : Expr} {a b : TI} (ha : PI X tg e a) (hb : PI X tg e b) : PI X tg e (iOr a b) := ⟨fun pins s σ H R I h => h.elim (fun h => ha.run pins s σ H R I h) fun h => hb.run pins s σ H R I h⟩
/-! ### enumerate(t) of a tuple -/
set_option maxHeartbeats 1000000 in
theorem newEnum1 {v : Value} {o : Obj} {HH : Heap → Prop} (B : Begins v o HH) :
    Meets (Builtin.«enumerate.__new__» ⟨[.type "enumerate", v], []⟩) (fun _ R s => HH s.heap ∧ R (.ok (.ret (.ref (s.heap.push o).objs.size)))
      { s with heap := (s.heap.push o).push { cls := .type "enumerate", data := .fields #[.none, .bool false, .ref s.heap.objs.size, rawInt 0, .none, .none] } }) :=
  .of_wp fun P w A R s hh => by
    obtain ⟨hp, g1, d1, t1, o1⟩ := s
    obtain ⟨hB, hR⟩ := hh
    have hsub := sub_enumerate
    have qi : ∀ {A2 : Around} {E2 Q2 : Value → Shared → Prop}, Q2 (.ref hp.objs.size) ⟨hp.push o, g1, d1, t1, o1⟩ → wpAny (model P w) A2 (pyIter v) Q2 E2 ⟨hp, g1, d1, t1, o1⟩ := fun z => B.iter P w _ _ ⟨hp, g1, d1, t1, o1⟩ _ hB z
    wp_walk using qi
    refine wpAny_stack_any fun st => wpAny_pure ?_
    split
    · rename_i cc _ _ _ _ _
      cases (cc == Value.type "enumerate") <;> (wp_walk using qi; exact ⟨_, rfl, hR⟩)
    · wp_walk using qi
      exact ⟨_, rfl, hR⟩
theorem callEnum1 {P : Program} {w : World} {A : Around} {E Q : Value → Shared → Prop} {s : Shared} {v : Value} {o : Obj} {HH : Heap → Prop} (B : Begins v o HH) (hb : HH s.heap)
    (k : ∀ h2, IsEnum h2 (s.heap.objs.size + 1) s.heap.objs.size 0 .none → h2.get? s.heap.objs.size = some o → (∀ b ob, s.heap.get? b = some ob → h2.get? b = some ob) → Q (.ref (s.heap.objs.size + 1)) { s with heap := h2 }) :
    wpAny (model P w) A (call (.type "enumerate") [v]) Q E s := by
  have hz : (s.heap.push o).objs.size = s.heap.objs.size + 1 := Heap.size_push ..
  refine callType_new F.called_enumerate (by decide) (F.typeCall_enumerate_1 _) (F.newCall_enumerate_1 _) (fun ob => F.args_object_init_2 ob _) F.entry_enumerate_new (newEnum1 B) ⟨hb, ?_⟩
  show _ ∧ _
  rw [hz]
  have en : IsEnum ((s.heap.push o).push { cls := .type "enumerate", data := .fields #[.none, .bool false, .ref s.heap.objs.size, rawInt 0, .none, .none] }) (s.heap.objs.size + 1) s.heap.objs.size 0 .none := by
    have z := Heap.get?_push_size (s.heap.push o) (o := { cls := .type "enumerate", data := .fields #[.none, .bool false, .ref s.heap.objs.size, rawInt 0, .none, .none] }) rfl
    rw [hz] at z
    exact z
  exact ⟨⟨_, en, rfl⟩, k _ en (Heap.get?_push_of_some _ (Heap.get?_push_size _ B.free)) fun b ob x => Heap.get?_push_of_some _ (Heap.get?_push_of_some _ x)⟩
/-- the tuple at a (n of them), each item in a new pair -/
def IteT (K : PySem.W.Frag) (a : Addr) (n : Nat) : It :=
  ⟨fun i H => i < n ∧ ∃ xs : List V, SqT K H a xs ∧ xs.length = n, fun i H v H' => ∃ T x, v = .ref T ∧ H T = none ∧ H' = upd H T (.tup [.int (i : Nat), x]) ∧ ∀ xs, SqT K H a xs → xs[i]? = some x,
    fun i H => n ≤ i ∧ ∃ xs : List V, SqT K H a xs ∧ xs.length = n⟩
theorem enum_tup_ne {h : Heap} {e it a : Addr} {i : Int} {old : Value} {j : Nat} {its : Array Value} (he : IsEnum h e it i old) (hi : h.IsTupleIter it a j) (ht : h.IsTuple a its) : e ≠ a ∧ a ≠ it := by
  obtain ⟨o, h1, c1, _⟩ := ht
  obtain ⟨o2, h2, c2, _⟩ := hi
  refine ⟨fun z => ?_, fun z => ?_⟩
  · rw [← z] at h1
    have h3 := h1.symm.trans he
    cases h3
    injection c1 with c3
    exact absurd c3 (by decide)
  · rw [z] at h1
    have h3 := h1.symm.trans h2
    cases h3
    rw [c1] at c2
    injection c2 with c3
    exact absurd c3 (by decide)
theorem turnEnumT {P : Program} {w : World} {K : PySem.W.Frag} {elts : List Expr} {kk : Nat} {tpos : Pos} (a e it : Addr) (n : Nat) :
    Turn P w K (.Tuple elts kk tpos) (IteT K a n) [e, it] e (fun i h => (∃ old, IsEnum h e it ((i : Nat) : Int) old) ∧ h.IsTupleIter it a i ∧ e ≠ it ∧ i ≤ n) where
  mem := List.mem_cons_self
  obj := fun i h st b hb => by
    obtain ⟨⟨old, he⟩, ⟨o, ho, hc, hd⟩, _⟩ := st
    rcases List.mem_cons.mp hb with z | z
    · exact ⟨_, by rw [z]; exact he, fun v q => by cases q⟩
    · exact ⟨o, by rw [List.mem_singleton.mp z]; exact ho, fun v q => by rw [hd] at q; cases q⟩
  keep := fun i h h' st k => ⟨⟨st.1.choose, k e List.mem_cons_self _ st.1.choose_spec⟩, st.2.1.at fun o q => k it (List.mem_cons_of_mem _ List.mem_cons_self) o q, st.2.2⟩
  item := fun X hP hw hK hc i pins s σ H E I hf st hg => by
    subst hP hw hK
    obtain ⟨⟨old, he⟩, hit, hne, _⟩ := st
    obtain ⟨hin, xs, hq, hl⟩ := hg
    obtain ⟨its, rv, p, _⟩ := I.tuple hq
    have pt : s.heap.IsTuple a its.toArray := p
    have hlen := rv.length
    obtain ⟨u, hu, ru⟩ := rv.get (show xs[i]? = some xs[i] from List.getElem?_eq_getElem (by omega))
    obtain ⟨n1, n2⟩ := enum_tup_ne he hit pt
    have hel : e < s.heap.objs.size := Heap.lt_size he
    have hil : it < s.heap.objs.size := by obtain ⟨_, q, _⟩ := hit; exact Heap.lt_size q
    refine wpAny_pyNext_enum_itemD (n := its.toArray.size) (Draws.tuple (A := X.A.in1) (I.ok.hd hc) it a n2 its.toArray) he ⟨hit, pt⟩ (by simp; omega) hne (fun z => ?_) fun x h2 tk hPx ho hst2 hT hsz hk => ?_
    · rcases List.mem_cons.mp z with z | z
      · exact hne z
      · exact n1 (List.mem_singleton.mp z)
    have ex : x = u := by
      have z : its[i]? = some x := by simpa using hPx
      rw [hu] at z
      exact (Option.some.inj z).symm
    subst ex
    refine ⟨_, rfl, wpAny_letOwnedTupleGo_enum (s := { s with heap := h2, toks := tk + 1 }) ho fun h3 he3 sb => ?_⟩
    have hT3 : h3.get? s.heap.objs.size = some { cls := .type "tuple", data := .seq #[.int i tk, x] } := (sb.2 _ (Nat.ne_of_gt hel)).trans hT
    have nw : ObjOk X.prog X.w (upd H s.heap.objs.size (.tup [.int (i : Nat), xs[i]])) h3 s.heap.objs.size (.tup [.int (i : Nat), xs[i]]) := ⟨by show 2 ≤ sizeLine; decide, [.int i tk, x], .cons ⟨_, rfl⟩ (.cons ru .nil), ⟨_, hT3, rfl, _, rfl⟩⟩
    have kp : ∀ b ob, b ∉ [e, it] → s.heap.get? b = some ob → h3.get? b = some ob := fun b ob hb q => (sb.2 b fun z => hb (by rw [z]; exact List.mem_cons_self)).trans (hk b ob (fun z => hb (by rw [z]; exact List.mem_cons_self)) (fun z => hb (by rw [z]; exact List.mem_cons_of_mem _ List.mem_cons_self)) q)
    have I1 : Inv X pins σ (upd H s.heap.objs.size (.tup [.int (i : Nat), xs[i]])) { s with heap := h3, toks := tk + 1 } := I.turnedNew (ch := [e, it]) kp hf (Nat.le_refl _) nw
    refine ⟨.ref s.heap.objs.size, _, I1, rfl, ⟨_, xs[i], rfl, I.hok.fresh (Nat.le_refl _), rfl, fun ys hy => by rw [I.tuple_inj hy hq]; exact List.getElem?_eq_getElem (by omega)⟩, ⟨⟨x, ?_⟩, hst2.1.at fun o q => (sb.2 it (Ne.symm hne)).trans q, hne, hin⟩, fun b hb => ?_⟩
    · rw [show ((i + 1 : Nat) : Int) = (i : Int) + 1 by omega]
      exact he3
    · have lt : b < s.heap.objs.size := by
        rcases List.mem_cons.mp hb with z | z
        · rw [z]; exact hel
        · rw [List.mem_singleton.mp z]; exact hil
      rw [upd_ne (Nat.ne_of_lt lt)]
      exact (hf b hb).1
  done := fun X hP hw hK hc i pins s σ H E I hf st hg => by
    subst hP hw hK
    obtain ⟨⟨old, he⟩, hit, hne, hle⟩ := st
    obtain ⟨hin, xs, hq, hl⟩ := hg
    obtain ⟨its, rv, p, _⟩ := I.tuple hq
    have pt : s.heap.IsTuple a its.toArray := p
    have hlen := rv.length
    obtain ⟨n1, n2⟩ := enum_tup_ne he hit pt
    obtain ⟨f0, f1, f2, f3, f4, f5⟩ := hf it (List.mem_cons_of_mem _ List.mem_cons_self)
    have ei : its.toArray.size = i := by simp; omega
    refine wpAny_pyNext_enum_endD (n := its.toArray.size) (Draws.tuple (A := X.A.in1) (I.ok.hd hc) it a n2 its.toArray) he ⟨by rw [ei]; exact hit, pt⟩ fun h2 eb => ⟨rfl, I.turned (t' := s.toks) (fun b ob hb q => eb b ob hb q) f0 f1 f3 f4 f5⟩
  self := fun A i s Q E st h => wpAny_pyIter_enum st.1.choose_spec h
def ItET (K : PySem.W.Frag) (vs : List V) (H : Hp) (R : It → Hp → Prop) : Prop := ∃ a xs, vs = [.ref a] ∧ SqT K H a xs ∧ R (IteT K a xs.length) H
def iEnumT (K : PySem.W.Frag) (ta : TA) : TI := fun σ H R => ta σ H fun vs H1 => ItET K vs H1 R
theorem pi_enumT {X : Cx} {e : Expr} {ta : TA} {p pos tpos : Pos} {elts : List Expr} {kk : Nat} (hg : Gl X "enumerate") (hm : X.mg "enumerate" = none) (ha : PA X [e] ta) (hs : starEach [e] X.env = [(false, eval e X.env)] := by rfl) :
    PI X (.Tuple elts kk tpos) (.Call (.Name "enumerate" p) [e] [] pos) (iEnumT X.K ta) := ⟨fun pins s σ H R I h => by
  refine Call_ (ld_blt I hg hm boot_enumerate (PyProof.Rows.callWith_type1 (thn (ha.run pos pins s σ H _ I h) fun us s1 z => ?_) hs rfl))
  obtain ⟨vs, H1, I1, r1, a, xs, rfl, hq, q⟩ := z
  cases r1 with
  | cons r rr =>
    cases rr
    cases r
    obtain ⟨its, rv, pt, _⟩ := I1.tuple hq
    refine callEnum1 (begins_tuple a its.toArray) (show s1.heap.IsTuple a its.toArray from pt) fun h2 he hit hk => wpAny_pyIter_enum he ?_
    have I2 : Inv X pins σ H1 { s1 with heap := h2 } := I1.kept (t' := s1.toks) hk
    refine ⟨s1.heap.objs.size + 1, [s1.heap.objs.size + 1, s1.heap.objs.size], _, _, H1, rfl, I2, turnEnumT a (s1.heap.objs.size + 1) s1.heap.objs.size xs.length, ⟨⟨.none, he⟩, ⟨_, hit, rfl, rfl⟩, Nat.succ_ne_self _, Nat.zero_le _⟩, fun b hb => ?_, q⟩
    have le : s1.heap.objs.size ≤ b := by
      rcases List.mem_cons.mp hb with z | z
      · rw [z]; exact Nat.le_add_right _ _
      · rw [List.mem_singleton.mp z]; exact Nat.le_refl _
    exact I1.fpOk le (I1.hok.fresh le)⟩
/-! ### loops over a list or a tuple -/
def SqQ (K : PySem.W.Frag) (H : Hp) (a : Addr) (xs : List V) : Prop := SqL K H a xs ∨ SqT K H a xs
/-- a list or a tuple stands on -/
def SqK (K : PySem.W.Frag) (H h : Hp) (a : Addr) (xs : List V) : Prop := (SqL K H a xs → SqL K h a xs) ∧ (SqT K H a xs → SqT K h a xs)
theorem sqT_fresh {K : PySem.W.Frag} {H0 H1 H2 : Hp} {s p : Addr} {xs : List V} (h0 : SqT K H0 s xs) (np : H0 p = none) (h : SqT K H1 s xs) (e : ExB p H1 H2) : SqT K H2 s xs := by
  rcases h with h | h
  · rcases h0 with h0 | h0
    · have n : s ≠ p := fun z => by rcases h0 with h0 | ⟨o, h0⟩ <;> rw [z, np] at h0 <;> cases h0
      rcases h with h | ⟨o, h⟩
      · exact .inl (.inl (e _ _ n h))
      · exact .inl (.inr ⟨o, e _ _ n h⟩)
    · exact .inr h0
  · exact .inr h
theorem SqK.refl {K : PySem.W.Frag} {H : Hp} {a : Addr} {xs : List V} : SqK K H H a xs := ⟨id, id⟩
theorem SqK.ex {K : PySem.W.Frag} {H h h2 : Hp} {a : Addr} {xs : List V} (k : SqK K H h a xs) (e : Ex h h2) : SqK K H h2 a xs := ⟨fun z => ex_l e (k.1 z), fun z => ext e (k.2 z)⟩
theorem SqK.fresh {K : PySem.W.Frag} {H h h2 : Hp} {a p : Addr} {xs : List V} (k : SqK K H h a xs) (n : H p = none) (e : ExB p h h2) : SqK K H h2 a xs := ⟨fun z => sq_fresh z n (k.1 z) e, fun z => sqT_fresh z n (k.2 z) e⟩
theorem exb_tI {K : PySem.W.Frag} {l C dx : Addr} {fs : List (Str × V)} {H H' : Hp} {a : Addr} {xs : List V} (e : ExB l H H') (hl : H l = some (.ins C dx fs)) (h : SqT K H a xs) : SqT K H' a xs := by
  rcases h with (h | ⟨o, h⟩) | h
  · exact .inl (.inl (e _ _ (fun z => by rw [z, hl] at h; cases h) h))
  · exact .inl (.inr ⟨o, e _ _ (fun z => by rw [z, hl] at h; cases h) h⟩)
  · exact .inr h
theorem SqK.ins {K : PySem.W.Frag} {H h h2 : Hp} {a x C dx : Addr} {fs : List (Str × V)} {xs : List V} (k : SqK K H h a xs) (hx : h x = some (.ins C dx fs)) (e : ExB x h h2) : SqK K H h2 a xs := ⟨fun z => exb_lI e hx (k.1 z), fun z => exb_tI e hx (k.2 z)⟩
theorem SqK.q {K : PySem.W.Frag} {H h : Hp} {a : Addr} {xs : List V} (k : SqK K H h a xs) (z : SqQ K H a xs) : SqQ K h a xs := z.elim (fun z => .inl (k.1 z)) fun z => .inr (k.2 z)
section
variable {K : PySem.W.Frag} {σ : L2.St} {H : Hp} {D : Ends} {g : TG} {tb : TS} {Q : VK} {a : Addr} {xs : List V} {ns : List Int} {n m m1 m2 : Nat} {v : V} {R : It → Hp → Prop}
theorem r_lenQ (h : SqQ K H a xs) (q : Q (.int xs.length) H) : rLen K [.ref a] H Q := ⟨a, xs, rfl, h, q⟩
theorem r_iOrV (e : σ[n]? = some (some v)) (h : ItL K v H R ∨ ItT K v H R) : iOr (iList K (tVar n)) (iTup K (tVar n)) σ H R := h.elim (fun h => .inl ⟨_, e, h⟩) fun h => .inr ⟨_, e, h⟩
theorem r_iOrE (e : σ[n]? = some (some v)) (h : ItE K [v] H R ∨ ItET K [v] H R) : iOr (iEnum K (tCons (tVar n) tNil)) (iEnumT K (tCons (tVar n) tNil)) σ H R := h.elim (fun h => .inl ⟨_, e, h⟩) fun h => .inr ⟨_, e, h⟩
theorem forQ (hx : SqQ K H a xs) (Pv : Nat → L2.St → Hp → Prop) (h0 : Pv 0 σ H) (hl : ∀ i s h, i ≤ xs.length → Pv i s h → SqK K H h a xs)
    (hs : ∀ i x s h, xs[i]? = some x → Pv i s h → g x s h fun s2 h2 => tb ⟨Pv (i + 1), D.rt, D.nx, Pv (i + 1)⟩ s2 h2) (hd : ∀ s h, Pv xs.length s h → D.nx s h) : ItL K (.ref a) H (ForW g tb D σ) ∨ ItT K (.ref a) H (ForW g tb D σ) :=
  hx.elim (fun z => .inl (forL z Pv h0 (fun i s h hi p => (hl i s h hi p).1 z) hs hd)) fun z => .inr (forT z Pv h0 (fun i s h hi p => (hl i s h hi p).2 z) hs hd)
theorem forET (hx : SqT K H a xs) (Pv : Nat → L2.St → Hp → Prop) (h0 : Pv 0 σ H) (hl : ∀ i s h, i ≤ xs.length → Pv i s h → SqT K h a xs)
    (hs : ∀ (i : Nat) x s h h2, xs[i]? = some x → Pv i s h → Ex h h2 → tb ⟨Pv (i + 1), D.rt, D.nx, Pv (i + 1)⟩ ((s.set m1 (some (.int i))).set m2 (some x)) h2) (hd : ∀ s h, Pv xs.length s h → D.nx s h) :
    ItET K [.ref a] H (ForW (gTup K 2 (gCons (gName m1) (gCons (gName m2) gNil))) tb D σ) := by
  refine ⟨a, xs, rfl, hx, fun i m s h => m = xs.length - i ∧ i ≤ xs.length ∧ Pv i s h, ⟨xs.length, by simp, Nat.zero_le _, h0⟩, ?_⟩
  rintro i m s h ⟨rfl, hi, p⟩
  have q := hl i s h hi p
  by_cases hlt : i < xs.length
  · refine .inr ⟨⟨hlt, xs, q, rfl⟩, Pv (i + 1), fun s' h' p' => ⟨xs.length - (i + 1), by omega, rfl, hlt, p'⟩, fun x h' y => ?_⟩
    obtain ⟨T, z, rfl, hT, rfl, hz⟩ := y
    exact ⟨T, _, rfl, .inl (.inl upd_same), rfl, _, _, rfl, _, _, rfl, rfl, hs i z s h _ (hz xs q) p (Ex.new hT)⟩
  · have e : i = xs.length := by omega
    subst e
    exact .inl ⟨⟨Nat.le_refl _, xs, q, rfl⟩, hd s h p⟩
theorem forEQ {H0 : Hp} (hx : SqQ K H0 a xs) (k0 : SqK K H0 H a xs) (Pv : Nat → L2.St → Hp → Prop) (h0 : Pv 0 σ H) (hl : ∀ i s h, i ≤ xs.length → Pv i s h → SqK K H0 h a xs)
    (hs : ∀ (i : Nat) x s h h2, xs[i]? = some x → Pv i s h → Ex h h2 → tb ⟨Pv (i + 1), D.rt, D.nx, Pv (i + 1)⟩ ((s.set m1 (some (.int i))).set m2 (some x)) h2) (hd : ∀ s h, Pv xs.length s h → D.nx s h) :
    ItE K [.ref a] H (ForW (gTup K 2 (gCons (gName m1) (gCons (gName m2) gNil))) tb D σ) ∨ ItET K [.ref a] H (ForW (gTup K 2 (gCons (gName m1) (gCons (gName m2) gNil))) tb D σ) :=
  hx.elim (fun z => .inl (forE (k0.1 z) Pv h0 (fun i s h hi p => (hl i s h hi p).1 z) hs hd)) fun z => .inr (forET (k0.2 z) Pv h0 (fun i s h hi p => (hl i s h hi p).2 z) hs hd)
end
/-! ### C(..) in a try's body -/
theorem pe_mkT {X : Cx} {W : WX} (n : Nat) {k : Nat} {ps : List Str} {sp : Sp} {x : Str} {C : Addr} {p pos : Pos} {e : Expr} {es : List Expr} {t : TA} (d : DI X.prog X.w X.K X.mg X.base x C k ps sp) (hr : Room (k + 1) X.A) (tk : Takes X W) (ha : PA X (e :: es) t) (hg : Gl X x := by rfl)
    (hdb : (x == ("__debug__" : Str)) = false := by decide) (he : starEach (e :: es) X.env = (false, eval e X.env) :: starEach es X.env := by rfl) (hpl : (backTo pos (starEach es X.env)).any (·.1) = false := by rfl) (hn : X.N.length = n := by rfl) :
    PE X (.Call (.Name x p) (e :: es) [] pos) (tMake C sp [] (fun cls d H => ∀ σ' : L2.St, σ'.length = n → W cls d σ' H) t) :=
  pe_mkD d hr (passes_call (takes_len tk) (fun cls d σ H h l => h σ (l.trans hn))) ha hg hdb he hpl
/-! ### i in ns -/
theorem eqV_int (n i : Int) : L2.eqV (.int n) (.int i) = decide (n = i) := by
  unfold L2.eqV
  first | rfl | (simp [BEq.beq]) 
theorem inV_int (i : Int) : ∀ ns : List Int, L2.inV (.int i) (ns.map V.int) = decide (i ∈ ns) := by
  intro ns
  unfold L2.inV
  induction ns with
  | nil => rfl
  | cons n ns ih =>
    rw [List.map_cons, List.any_cons, ih, eqV_int, decide_eq_decide.mpr List.mem_cons, Bool.decide_or]
    congr 1
    exact decide_eq_decide.mpr ⟨Eq.symm, Eq.symm⟩
theorem flat_int (ns : List Int) : (ns.map V.int).all L2.flatV = true := by
  rw [List.all_eq_true]
  intro x hx
  obtain ⟨n, _, rfl⟩ := List.mem_map.mp hx
  rfl
theorem r_inI {K : PySem.W.Frag} {H : Hp} {Q : VK} {p : Addr} {ns : List Int} {i : Int} (h : SqL K H p (ns.map V.int)) (q : Q (.bl (decide (i ∈ ns))) H) : rIn K false (.int i) (.ref p) H Q := ⟨p, _, rfl, .inl h, rfl, flat_int ns, by rw [inV_int]; exact q⟩
end Lay
local macro_rules | `(tactic| walk_at "hp") => `(tactic| first
  | assumption
  | (refine' Lay.ex_at (by assumption) ?a1; (case a1 => walk_at "hp"))
  | (refine' Lay.exb_at (by assumption) ?a1 ?a2; (case a1 => walk_at "ne"); (case a2 => walk_at "hp")))
local macro_rules | `(tactic| walk_at "hpe") => `(tactic| first
  | assumption
  | (refine' Lay.ex_at (by assumption) ?a1; (case a1 => walk_at "hpe")))
local macro_rules | `(tactic| walk_at "ne") => `(tactic| first
  | assumption
  | exact Ne.symm (by assumption)
  | (refine' L2.ne_of_none (H := ?hh) (o := ?oo) ?a1 ?a2; (case a2 => assumption); (case a1 => walk_at "hp"))
  | (refine' Ne.symm (L2.ne_of_none (H := ?hh) (o := ?oo) ?a1 ?a2); (case a2 => assumption); (case a1 => walk_at "hp"))
  | (refine' Lay.ne_pur (H := ?hh) ?a1 ?a2; (case a2 => assumption); (case a1 => walk_at "pu"))
  | (refine' Ne.symm (Lay.ne_pur (H := ?hh) ?a1 ?a2); (case a2 => assumption); (case a1 => walk_at "pu"))
  | (refine' L2.ne_of (H := ?hh) (o := ?oo) (u := ?uu) ?a1 ?a2 ?a3; (case a1 => assumption); (case a2 => assumption); (case a3 => (intro z; cases z))))
local macro_rules | `(tactic| walk_at "sq") => `(tactic| first
  | assumption
  | (refine' L2.SqL.of ?a1; (case a1 => walk_at "hp"))
  | (refine' Evl.ex_l (by assumption) ?a1; (case a1 => walk_at "sq"))
  | (refine' Lay.exb_l (by assumption) ?a1 ?a2; (case a1 => walk_at "ne"); (case a2 => walk_at "sq"))
  | (refine' Lay.exb_lI (by assumption) ?a1 ?a2; (case a1 => walk_at "hp"); (case a2 => walk_at "sq")))
local macro_rules | `(tactic| walk_at "ex") => `(tactic| first
  | assumption
  | exact Evl.Ex.refl _
  | exact Lay.ExB.refl _ _
  | exact Lay.Ex.b (by assumption)
  | (refine' Evl.Ex.trans ?a1 ?a2; (case a2 => assumption); (case a1 => walk_at "ex"))
  | (refine' Lay.ExB.ex ?a1 ?a2 ?a3; (case a2 => assumption); (case a1 => walk_at "ex"); (case a3 => walk_at "fr"))
  | (refine' Lay.ExB.trans ?a1 ?a2; (case a2 => assumption); (case a1 => walk_at "ex"))
  | (refine' Lay.ExB.trans ?a1 (Lay.Ex.b ?a2); (case a2 => assumption); (case a1 => walk_at "ex"))
  | (refine' Lay.ExB.exB ?a1 ?a2 ?a3; (case a2 => assumption); (case a1 => walk_at "ex"); (case a3 => walk_at "fr")))
local macro_rules | `(tactic| walk_at "fr") => `(tactic| first
  | assumption
  | (refine' Evl.fresh_back ?a1 ?a2; (case a2 => assumption); (case a1 => walk_at "ex"))
  | (refine' Lay.freshB ?a1 ?a2 ?a3; (case a3 => assumption); (case a1 => walk_at "ex"); (case a2 => walk_at "ne")))
local macro_rules | `(tactic| walk_at "pu") => `(tactic| first
  | assumption
  | (refine' Lay.Pur.ex ?a1 ?a2; (case a2 => assumption); (case a1 => walk_at "pu"))
  | (refine' Lay.Pur.upd ?a1 ?a2 ?a3; (case a2 => assumption); (case a1 => walk_at "pu"); (case a3 => walk_at "ne")))
local macro_rules | `(tactic| walk_at "ln") => `(tactic| first
  | omega
  | (simp only [List.length_append, List.length_map, List.length_cons, List.length_nil, List.length_replicate, List.length_set, List.length_reverse, List.length_take, List.length_drop]; omega))
local macro_rules | `(tactic| walk_at "st") => `(tactic| first
  | assumption
  | (refine' L2.SqT.of ?a1; (case a1 => walk_at "hp"))
  | (refine' Lay.ext ?a1 ?a2; (case a1 => assumption); (case a2 => walk_at "st"))
  | (refine' Lay.exb_t ?a1 ?a2 ?a3; (case a1 => assumption); (case a2 => walk_at "ne"); (case a3 => walk_at "st")))
local macro_rules | `(tactic| walk_at "go1") => `(tactic| first
  | with_reducible refine' Lay.r_seq ?_
  | with_reducible refine' Lay.r_set ?_
  | with_reducible refine' Lay.r_sub ?_
  | ((with_reducible refine' Lay.r_aug (x := ?vv) ?ee ?_); (case ee => exact rfl))
  | with_reducible refine' Lay.r_ipI ?_
  | with_reducible refine' Lay.r_drop ?_
  | with_reducible refine' Lay.r_ret ?_
  | with_reducible refine' Lay.r_retN ?_
  | with_reducible refine' Lay.r_if ?_
  | with_reducible refine' Lay.r_next ?_
  | with_reducible refine' Lay.r_brk ?_
  | with_reducible refine' Lay.r_cont ?_
  | ((with_reducible refine' Lay.r_var (v := ?vv) ?ee ?_); (case ee => exact rfl))
  | with_reducible refine' Lay.r_c ?_
  | with_reducible refine' Lay.r_op ?_
  | with_reducible refine' Lay.r_un ?_
  | with_reducible refine' Lay.r_I0 ?_
  | with_reducible refine' Lay.r_U ?_
  | with_reducible refine' Lay.r_eqI ?_
  | with_reducible refine' Lay.r_neI ?_
  | with_reducible refine' Lay.r_eqB ?_
  | with_reducible refine' Lay.r_neB ?_
  | with_reducible refine' Lay.r_eqS ?_
  | with_reducible refine' Lay.r_neS ?_
  | with_reducible refine' Lay.r_isN ?_
  | with_reducible refine' Lay.r_notN ?_
  | with_reducible refine' Lay.r_test ?_
  | with_reducible refine' Lay.r_tB ?_
  | with_reducible refine' Lay.r_bl ?_
  | with_reducible refine' Lay.r_and ?_
  | with_reducible refine' Lay.r_or ?_
  | with_reducible refine' Lay.r_not ?_
  | with_reducible refine' Lay.r_andV ?_
  | with_reducible refine' Lay.r_orV ?_
  | with_reducible refine' Lay.r_notV ?_
  | with_reducible refine' Lay.r_nil ?_
  | with_reducible refine' Lay.r_cons ?_
  | with_reducible refine' Lay.r_call ?_
  | with_reducible refine' Lay.r_cb ?_
  | with_reducible refine' Lay.r_lst ?_
  | with_reducible refine' Lay.r_tup ?_
  | with_reducible refine' Lay.r_augS ?_
  | with_reducible refine' Lay.r_for ?_
  | with_reducible refine' Lay.r_lc ?_
  | with_reducible refine' Lay.r_iList ?_
  | with_reducible refine' Lay.r_iTup ?_
  | with_reducible refine' Lay.r_iRng1 ?_
  | with_reducible refine' Lay.r_iRng2 ?_
  | with_reducible refine' Lay.r_iEnum ?_
  | with_reducible refine' Lay.r_raise ?_
  | with_reducible refine' Lay.r_sl ?_
  | with_reducible refine' Lay.r_noP ?_
  | with_reducible refine' Lay.r_part ?_
  | with_reducible refine' Lay.r_in ?_
  | with_reducible refine' Lay.r_int ?_
  | with_reducible refine' Lay.r_abs ?_
  | with_reducible refine' Lay.r_mx2 ?_
  | with_reducible refine' Lay.r_mn2 ?_
  | with_reducible refine' Lay.r_asg ?_
  | with_reducible refine' Lay.r_gCons ?_
  | with_reducible refine' Lay.r_gNil ?_
  | with_reducible refine' Lay.r_gName ?_
  | ((with_reducible refine' Lay.r_gTup (xs := ?vv) ?a1 ?a2 ?_); (case a1 => walk_at "st"); (case a2 => exact rfl))
  | ((with_reducible refine' Lay.r_gUnl (xs := ?vv) ?a1 ?a2 ?_); (case a1 => walk_at "sq"); (case a2 => exact rfl))
  | ((with_reducible refine' Lay.r_isTT (xs := ?vv) ?ee ?_); (case ee => walk_at "hp"))
  | ((with_reducible refine' Lay.r_isTL (xs := ?vv) ?ee ?_); (case ee => walk_at "hp"))
  | ((with_reducible refine' Lay.r_isLT (xs := ?vv) ?ee ?_); (case ee => walk_at "hp"))
  | with_reducible refine' Lay.r_fld ?_
  | ((with_reducible refine' Lay.r_rfld (C := ?cc) (dx := ?dd) (fs := ?ff) (x := ?xx) (ff := ?gg) (v := ?vv) ?a1 ?a2 ?a3 ?a4 ?_); (case a1 => walk_at "hp"); (case a2 => assumption); (case a3 => decide); (case a4 => exact rfl))
  | with_reducible refine' Lay.r_bmG ?_
  | ((with_reducible refine' Lay.r_bmR (xs := ?vv) ?a1 ?_); (case a1 => walk_at "sq"))
  | with_reducible refine' Lay.r_fst ?_
  | with_reducible refine' Lay.r_mth ?_
  | with_reducible refine' Lay.r_make ?_
  | with_reducible refine' Lay.r_par ?_
  | with_reducible refine' Lay.r_rpar ?_
  | with_reducible refine' Lay.r_isII ?_
  | with_reducible refine' Lay.r_isIB ?_
  | ((with_reducible refine' Lay.r_isLL (xs := ?vv) ?ee ?_); (case ee => walk_at "hp"))
  | ((with_reducible refine' Lay.r_I ?_ ?_); first | exact (by decide) | exact (.inl (by omega)) | exact (.inr (by omega)) | exact (by omega) | exact (And.intro (by omega) (by omega)))
  | ((with_reducible refine' Lay.r_lenP (ps := ?vv) (sp := ?ww) ?a1 ?_); (case a1 => assumption))
  | ((with_reducible refine' Lay.r_ixP (ps := ?vv) (sp := ?ww) ?a1 ?a2 ?a3 ?_); (case a1 => assumption); (case a2 => omega); (case a3 => omega); (intro _))
  | ((with_reducible refine' Lay.r_lenI (ns := ?vv) ?ee ?_); (case ee => walk_at "sq"))
  | ((with_reducible refine' Lay.r_ix0 (v := ?vv) ?a1 ?_); (case a1 => walk_at "sq"))
  | ((with_reducible refine' Lay.r_ix1 (v := ?vv) ?a1 ?_); (case a1 => walk_at "sq"))
  | ((with_reducible refine' Lay.r_ix2 (v := ?vv) ?a1 ?_); (case a1 => walk_at "sq"))
  | ((with_reducible refine' Lay.r_ixI (ns := ?vv) ?a1 ?a2 ?a3 ?_); (case a1 => walk_at "sq"); (case a2 => omega); (case a3 => omega))
  | ((with_reducible refine' Lay.r_ixT0 (v := ?vv) ?a1 ?_); (case a1 => walk_at "st"))
  | ((with_reducible refine' Lay.r_ixT1 (v := ?vv) ?a1 ?_); (case a1 => walk_at "st"))
  | ((with_reducible refine' Lay.r_ixT2 (v := ?vv) ?a1 ?_); (case a1 => walk_at "st"))
  | ((with_reducible refine' Lay.r_strI ?a1 ?a2 ?_); (case a1 => omega); (case a2 => omega))
  | with_reducible refine' Lay.r_chain ?_
  | with_reducible refine' Lay.r_iteC ?_
  | with_reducible refine' Lay.r_tIfI ?_
  | with_reducible refine' Lay.r_nT ?_
  | with_reducible refine' Lay.r_nF ?_
  | with_reducible refine L2.iteT ?_
  | with_reducible refine L2.iteF ?_)
local macro_rules | `(tactic| walk_at "go") => `(tactic| repeat (walk_at "go1"))
local macro_rules | `(tactic| walk_at "go0") => `(tactic| ((try dsimp only [L2.cxOf]); walk_at "go"))
local macro_rules | `(tactic| walk_at "gn1") => `(tactic| first
  | walk_at "go1"
  | ((with_reducible refine' Lay.r_newI0 ?_); (intro _ _ _ _ _))
  | ((with_reducible refine' Lay.r_newI1 ?_); (intro _ _ _ _ _))
  | ((with_reducible refine' Lay.r_newI2 ?_); (intro _ _ _ _ _))
  | ((with_reducible refine' Lay.r_newI3 ?_); (intro _ _ _ _ _))
  | ((with_reducible refine' Lay.r_newI4 ?_); (intro _ _ _ _ _))
  | ((with_reducible refine' Lay.r_newL (Lay.len3 rfl) ?_); (intro _ _ _ _ _))
  | ((with_reducible refine' Lay.r_newT (Lay.len3 rfl) ?_); (intro _ _ _ _ _))
  | ((with_reducible refine' Lay.r_listI (ns := ?vv) ?a1 ?_); (case a1 => walk_at "sq"); (intro _ _ _ _ _))
  | ((with_reducible refine' Lay.r_catI (ns := ?vv) (ms := ?ww) ?a1 ?a2 ?a3 ?_); (case a1 => walk_at "hp"); (case a2 => walk_at "hp"); (case a3 => walk_at "ln"); (intro _ _ _ _ _)))
local macro_rules | `(tactic| walk_at "gn") => `(tactic| repeat (walk_at "gn1"))
local macro_rules | `(tactic| walk_at "gn0") => `(tactic| ((try dsimp only [L2.cxOf]); walk_at "gn"))
/-! tables and rulers -/
namespace WK
open Lay
abbrev Sp := Prs
def Ok (sp : Sp) : Prop := ∀ i : Int, 0 ≤ i → i < sp.length → 0 ≤ zl sp i ∧ zl sp i ≤ zh sp i
theorem Ok.nil : Ok [] := fun i a b => absurd b (by show ¬ i < 0; omega)
theorem Ok.snoc {sp : Sp} {lo hi : Int} (h : Ok sp) (h0 : 0 ≤ lo) (h1 : lo ≤ hi) : Ok (sp ++ [(lo, hi)]) := fun i a b => by
  rw [List.length_append] at b
  change i < ((sp.length + 1 : Nat) : Int) at b
  by_cases c : i < sp.length
  · rw [zl_snoc a c, zh_snoc a c]
    exact h i a c
  · rw [zl_last (by omega), zh_last (by omega)]
    exact ⟨h0, h1⟩
/-- no end is greater -/
def HiB (sp : Sp) (B : Int) : Prop := ∀ i : Int, 0 ≤ i → i < sp.length → zh sp i ≤ B
theorem HiB.nil {B : Int} : HiB [] B := fun i a b => absurd b (by show ¬ i < 0; omega)
theorem HiB.snoc {sp : Sp} {lo hi B B2 : Int} (h : HiB sp B) (h1 : hi ≤ B2) (h2 : B ≤ B2) : HiB (sp ++ [(lo, hi)]) B2 := fun i a b => by
  rw [List.length_append] at b
  change i < ((sp.length + 1 : Nat) : Int) at b
  by_cases c : i < sp.length
  · rw [zh_snoc a c]
    exact Int.le_trans (h i a c) h2
  · rw [zh_last (by omega)]
    exact h1
def spw (sp : Sp) (f : Int) : Sp := sp.map fun p => (p.1 * f, p.2 * f)
theorem spw_len {sp : Sp} {f : Int} : (spw sp f).length = sp.length := by unfold spw; rw [List.length_map]
theorem spw_l {sp : Sp} {f : Int} {i : Int} (h0 : 0 ≤ i) (h1 : i < sp.length) : zl (spw sp f) i = zl sp i * f := by
  unfold zl spw
  rw [List.getD_eq_getElem?_getD, List.getD_eq_getElem?_getD, List.getElem?_map, List.getElem?_eq_getElem (by omega)]
  rfl
theorem spw_h {sp : Sp} {f : Int} {i : Int} (h0 : 0 ≤ i) (h1 : i < sp.length) : zh (spw sp f) i = zh sp i * f := by
  unfold zh spw
  rw [List.getD_eq_getElem?_getD, List.getD_eq_getElem?_getD, List.getElem?_map, List.getElem?_eq_getElem (by omega)]
  rfl
theorem spw_take {sp : Sp} {f : Int} {i : Nat} (h : i < sp.length) : spw (sp.take i) f ++ [(zl sp i * f, zh sp i * f)] = spw (sp.take (i + 1)) f := by
  unfold spw
  rw [List.take_succ_eq_append_getElem h, List.map_append]
  congr 1
  unfold zl zh
  rw [Int.toNat_natCast, List.getD_eq_getElem?_getD, List.getElem?_eq_getElem h]
  rfl
def fallP (sp : Sp) : Prop := ∃ p q : Int, 0 ≤ p ∧ p < q ∧ q < sp.length ∧ zh sp q < zl sp p
def leapP (sp : Sp) : Prop := ∃ i : Int, 1 ≤ i ∧ i < sp.length ∧ (zh sp (i - 1) < zl sp i ∨ zh sp i < zl sp (i - 1))
/-- running maxima -/
def top (sp : Sp) : Nat → Int
  | 0 => zl sp 0
  | i + 1 => mx (top sp i) (zl sp ((i + 1 : Nat) : Int))
def heldL (sp : Sp) : List Int := (List.range sp.length).map (top sp)
def evL (sp : Sp) : List Int := (List.range (sp.length - 1)).map fun i : Nat => mx (zl sp i) (zl sp ((i + 1 : Nat) : Int))
def lows (sp : Sp) : List Int := sp.map (·.1)
theorem lows_take {sp : Sp} : ∀ i : Nat, i < sp.length → mxl ((lows sp).take (i + 1)) = top sp i := by
  intro i
  induction i with
  | zero =>
    intro h
    cases sp with
    | nil => exact absurd h (Nat.not_lt_zero _)
    | cons a sp => rfl
  | succ i ih =>
    intro h
    have hi' : i + 1 < (lows sp).length := by unfold lows; rw [List.length_map]; exact h
    rw [List.take_succ_eq_append_getElem hi']
    have e : (lows sp)[i + 1] = zl sp ((i + 1 : Nat) : Int) := by
      have a : (lows sp)[i + 1] = (sp[i + 1]).1 := List.getElem_map _
      rw [a]
      unfold zl
      rw [Int.toNat_natCast, List.getD_eq_getElem?_getD, List.getElem?_eq_getElem h]
      rfl
    have ih := ih (by omega)
    have ne : (lows sp).take (i + 1) ≠ [] := fun z => by
      have := congrArg List.length z
      rw [List.length_take] at this
      change min (i + 1) (lows sp).length = 0 at this
      omega
    cases hx : (lows sp).take (i + 1) with
    | nil => exact absurd hx ne
    | cons z zs =>
      rw [hx] at ih
      rw [e]
      show (zs ++ [zl sp ((i + 1 : Nat) : Int)]).foldl (fun a b => if b > a then b else a) z = _
      rw [List.foldl_append]
      change zs.foldl (fun a b => if b > a then b else a) z = top sp i at ih
      rw [ih]
      rfl
theorem evL_at {sp : Sp} {i : Int} (h0 : 0 ≤ i) (h1 : i < sp.length - 1) : gi (evL sp) i = mx (zl sp i) (zl sp (i + 1)) := by
  obtain ⟨n, rfl⟩ : ∃ n : Nat, i = n := ⟨i.toNat, by omega⟩
  unfold gi evL
  rw [Int.toNat_natCast, List.getD_eq_getElem?_getD, List.getElem?_map, List.getElem?_range (by omega)]
  rfl
theorem evL_len (sp : Sp) : (evL sp).length = sp.length - 1 := by unfold evL; rw [List.length_map, List.length_range]
/-! rulers -/
def ed (hs : List Int) (i : Nat) : Int := (hs.take (i + 1)).sum
def edges (hs : List Int) : List Int := (List.range hs.length).map (ed hs)
def HOk (hs : List Int) : Prop := ∀ z ∈ hs, 1 ≤ z
theorem ed_succ {hs : List Int} {i : Nat} (h : i + 1 < hs.length) : ed hs (i + 1) = ed hs i + hs[i + 1] := by
  unfold ed
  rw [List.take_succ_eq_append_getElem h, List.sum_append]
  simp
theorem ed_lt {hs : List Int} (ho : HOk hs) {i j : Nat} (h : i < j) (hj : j < hs.length) : ed hs i < ed hs j := by
  obtain ⟨k, rfl⟩ : ∃ k, j = i + 1 + k := ⟨j - i - 1, by omega⟩
  induction k with
  | zero =>
    rw [Nat.add_zero, ed_succ (by omega)]
    have := ho hs[i + 1] (List.getElem_mem _)
    omega
  | succ k ih =>
    have a := ih (by omega) (by omega)
    rw [show i + 1 + (k + 1) = i + 1 + k + 1 by omega, ed_succ (by omega)]
    have := ho hs[i + 1 + k + 1] (List.getElem_mem _)
    omega
/-- how many edges lie at or before the line -/
def cnt (hs : List Int) (line : Int) : Nat → Nat
  | 0 => 0
  | i + 1 => cnt hs line i + (if ed hs i ≤ line then 1 else 0)
theorem cnt_split {hs : List Int} {line : Int} {c : Nat} (h1 : ∀ i, i < c → ed hs i ≤ line) : ∀ n, c ≤ n → (∀ i, c ≤ i → i < n → line < ed hs i) → cnt hs line n = c := by
  have base : ∀ k, k ≤ c → cnt hs line k = k := by
    intro k
    induction k with
    | zero => intro _; rfl
    | succ k ih =>
      intro hk
      rw [cnt, ih (by omega), if_pos (h1 k (by omega))]
  intro n hn h2
  obtain ⟨k, rfl⟩ : ∃ k, n = c + k := ⟨n - c, by omega⟩
  induction k with
  | zero => exact base c (Nat.le_refl _)
  | succ k ih =>
    have := h2 (c + k) (by omega) (by omega)
    rw [show c + (k + 1) = c + k + 1 by omega, cnt, ih (by omega) (fun i a b => h2 i a (by omega)), if_neg (by omega), Nat.add_zero]
theorem cnt_ex {hs : List Int} (ho : HOk hs) (line : Int) : ∀ n, n ≤ hs.length → ∃ c, c ≤ n ∧ (∀ i, i < c → ed hs i ≤ line) ∧ ∀ i, c ≤ i → i < n → line < ed hs i := by
  intro n
  induction n with
  | zero => exact fun _ => ⟨0, Nat.le_refl _, fun i h => absurd h (Nat.not_lt_zero _), fun i _ h => absurd h (Nat.not_lt_zero _)⟩
  | succ n ih =>
    intro hn
    obtain ⟨c, h1, h2, h3⟩ := ih (by omega)
    by_cases e : c = n
    · by_cases g : ed hs n ≤ line
      · refine ⟨n + 1, Nat.le_refl _, fun i hi => ?_, fun i a b => absurd a (by omega)⟩
        by_cases z : i = n
        · rw [z]; exact g
        · exact h2 i (by omega)
      · refine ⟨n, by omega, fun i hi => h2 i (by omega), fun i a b => ?_⟩
        rw [show i = n by omega]
        omega
    · refine ⟨c, by omega, h2, fun i a b => ?_⟩
      by_cases z : i = n
      · rw [z]
        have := ed_lt ho (i := c) (j := n) (by omega) (by omega)
        have := h3 c (Nat.le_refl _) (by omega)
        omega
      · exact h3 i a (by omega)
theorem cnt_spec {hs : List Int} (ho : HOk hs) (line : Int) : cnt hs line hs.length ≤ hs.length ∧ (∀ i, i < cnt hs line hs.length → ed hs i ≤ line) ∧ ∀ i, cnt hs line hs.length ≤ i → i < hs.length → line < ed hs i := by
  obtain ⟨c, h1, h2, h3⟩ := cnt_ex ho line hs.length (Nat.le_refl _)
  rw [cnt_split h2 _ h1 h3]
  exact ⟨h1, h2, h3⟩
/-! lines between edges -/
def lp (sp : Sp) : Bool → Int → Int
  | true, j => zl sp j - zh sp (j - 1)
  | false, j => zl sp (j - 1) - zh sp j
theorem leap_lp {sp : Sp} : leapP sp ↔ ∃ (b : Bool) (j : Int), 1 ≤ j ∧ j < sp.length ∧ 0 < lp sp b j := by
  constructor
  · rintro ⟨i, h1, h2, h | h⟩
    · exact ⟨true, i, h1, h2, by show 0 < _ - _; omega⟩
    · exact ⟨false, i, h1, h2, by show 0 < _ - _; omega⟩
  · rintro ⟨b, j, h1, h2, h⟩
    refine ⟨j, h1, h2, ?_⟩
    cases b
    · change 0 < _ - _ at h; exact .inr (by omega)
    · change 0 < _ - _ at h; exact .inl (by omega)
def eL (sp : Sp) (i : Int) : Int := mx (zl sp i) (zl sp (i + 1))
/-- what is due at a line -/
def due (sp : Sp) (hs : List Int) (line : Int) : Int × Int :=
  if hs.length = 0 then (zl sp 0, 1)
  else if cnt hs line hs.length = 0 then (eL sp 0, 1)
  else if cnt hs line hs.length = hs.length then (eL sp (hs.length - 1), 1)
  else (eL sp (cnt hs line hs.length - 1) * (gi hs (cnt hs line hs.length) - (line - (hs.take (cnt hs line hs.length)).sum)) + eL sp (cnt hs line hs.length) * (line - (hs.take (cnt hs line hs.length)).sum), gi hs (cnt hs line hs.length))
structure ValOk (sp : Sp) (hs : List Int) (line a b : Int) : Prop where
  b1 : 1 ≤ b
  a0 : 0 ≤ a
  b2 : b ≤ 1000000000
  g : Nat.gcd a.toNat b.toNat = 1
  q : a * (due sp hs line).2 = (due sp hs line).1 * b
  lo : zl sp (cnt hs line hs.length) * b ≤ a
  hi : a ≤ zh sp (cnt hs line hs.length) * b
theorem eL_in {sp : Sp} (ho : Ok sp) (hn : ¬ leapP sp) {i : Int} (h0 : 0 ≤ i) (h1 : i + 1 < sp.length) : zl sp i ≤ eL sp i ∧ eL sp i ≤ zh sp i ∧ zl sp (i + 1) ≤ eL sp i ∧ eL sp i ≤ zh sp (i + 1) := by
  have a := ho i h0 (by omega)
  have b := ho (i + 1) (by omega) h1
  have c : ¬ (zh sp i < zl sp (i + 1)) := fun z => hn ⟨i + 1, by omega, h1, .inl (by rw [show i + 1 - 1 = i by omega]; exact z)⟩
  have d : ¬ (zh sp (i + 1) < zl sp i) := fun z => hn ⟨i + 1, by omega, h1, .inr (by rw [show i + 1 - 1 = i by omega]; exact z)⟩
  unfold eL mx
  split <;> omega
theorem val_one {sp : Sp} {hs : List Int} {line v : Int} (h0 : 0 ≤ v) (hd : due sp hs line = (v, 1)) (h1 : zl sp (cnt hs line hs.length) ≤ v) (h2 : v ≤ zh sp (cnt hs line hs.length)) : ValOk sp hs line v 1 := by
  refine ⟨by decide, h0, by decide, ?_, ?_, by omega, by omega⟩
  · exact Nat.gcd_one_right _
  · rw [hd]
/-- a / b in lowest terms -/
theorem val_low {sp : Sp} {hs : List Int} {line A L : Int} (hA : 0 ≤ A) (hL : 1 ≤ L) (hL2 : L ≤ 1000000000) (hd : due sp hs line = (A, L)) (h1 : zl sp (cnt hs line hs.length) * L ≤ A) (h2 : A ≤ zh sp (cnt hs line hs.length) * L) :
    ValOk sp hs line (A / (Nat.gcd A.toNat L.toNat : Nat)) (L / (Nat.gcd A.toNat L.toNat : Nat)) := by
  obtain ⟨n, rfl⟩ : ∃ n : Nat, A = n := ⟨A.toNat, by omega⟩
  obtain ⟨m, rfl⟩ : ∃ m : Nat, L = m := ⟨L.toNat, by omega⟩
  rw [Int.toNat_natCast, Int.toNat_natCast]
  have gp : 0 < Nat.gcd n m := Nat.gcd_pos_of_pos_right _ (by omega)
  obtain ⟨u, hu⟩ := Nat.gcd_dvd_left n m
  obtain ⟨v, hv⟩ := Nat.gcd_dvd_right n m
  have cop : Nat.gcd (n / Nat.gcd n m) (m / Nat.gcd n m) = 1 := by rw [Nat.gcd_div (Nat.gcd_dvd_left n m) (Nat.gcd_dvd_right n m), Nat.div_self gp]
  generalize hg : Nat.gcd n m = g at *
  have du : n / g = u := by rw [hu]; exact Nat.mul_div_cancel_left _ gp
  have dv : m / g = v := by rw [hv]; exact Nat.mul_div_cancel_left _ gp
  have e1 : (n : Int) / (g : Int) = (u : Int) := by rw [← Int.natCast_ediv, du]
  have e2 : (m : Int) / (g : Int) = (v : Int) := by rw [← Int.natCast_ediv, dv]
  rw [du, dv] at cop
  rw [e1, e2]
  have g1 : (1 : Int) ≤ g := by omega
  have hn : (n : Int) = g * u := by rw [← Int.natCast_mul, ← hu]
  have hm : (m : Int) = g * v := by rw [← Int.natCast_mul, ← hv]
  have vp : 1 ≤ v := by
    cases v with
    | zero => rw [Nat.mul_zero] at hv; omega
    | succ v => omega
  have gpos : (0 : Int) < g := by omega
  refine ⟨by omega, by omega, ?_, ?_, ?_, ?_, ?_⟩
  · have : v ≤ m := by rw [← dv]; exact Nat.div_le_self _ _
    omega
  · rw [Int.toNat_natCast, Int.toNat_natCast]
    exact cop
  · rw [hd]
    show (u : Int) * (m : Int) = (n : Int) * (v : Int)
    rw [hn, hm, Int.mul_left_comm, Int.mul_assoc]
  · refine Int.le_of_mul_le_mul_left (a := g) ?_ gpos
    rw [← hn, Int.mul_left_comm, ← hm]
    exact h1
  · refine Int.le_of_mul_le_mul_left (a := g) ?_ gpos
    rw [← hn, Int.mul_left_comm, ← hm]
    exact h2
/-- between two numbers -/
theorem between {a b h lo hi p : Int} (h0 : 0 ≤ p) (h1 : p ≤ h) (a1 : lo ≤ a) (b1 : lo ≤ b) (a2 : a ≤ hi) (b2 : b ≤ hi) : lo * h ≤ a * (h - p) + b * p ∧ a * (h - p) + b * p ≤ hi * h := by
  have e1 : lo * h = lo * (h - p) + lo * p := by rw [← Int.mul_add, show h - p + p = h by omega]
  have e2 : hi * h = hi * (h - p) + hi * p := by rw [← Int.mul_add, show h - p + p = h by omega]
  have c1 : lo * (h - p) ≤ a * (h - p) := Int.mul_le_mul_of_nonneg_right a1 (by omega)
  have c2 : lo * p ≤ b * p := Int.mul_le_mul_of_nonneg_right b1 h0
  have c3 : a * (h - p) ≤ hi * (h - p) := Int.mul_le_mul_of_nonneg_right a2 (by omega)
  have c4 : b * p ≤ hi * p := Int.mul_le_mul_of_nonneg_right b2 h0
  omega
theorem lin {a b h p : Int} : a * h + (b - a) * p = a * (h - p) + b * p := by
  rw [Int.sub_mul, Int.mul_sub]
  omega
/-! Euclid -/
def est (s : Nat × Nat) : Nat × Nat := if s.2 = 0 then s else (s.2, s.1 % s.2)
def eit (s : Nat × Nat) : Nat → Nat × Nat
  | 0 => s
  | n + 1 => est (eit s n)
theorem est_gcd (s : Nat × Nat) : Nat.gcd (est s).1 (est s).2 = Nat.gcd s.1 s.2 := by
  unfold est
  split
  · rfl
  · show Nat.gcd s.2 (s.1 % s.2) = _
    rw [Nat.gcd_comm, ← Nat.gcd_rec, Nat.gcd_comm]
theorem eit_gcd (s : Nat × Nat) : ∀ n, Nat.gcd (eit s n).1 (eit s n).2 = Nat.gcd s.1 s.2
  | 0 => rfl
  | n + 1 => (est_gcd _).trans (eit_gcd s n)
theorem est_half (s : Nat × Nat) : 2 * (est (est s)).2 ≤ s.2 := by
  unfold est
  by_cases h : s.2 = 0
  · rw [if_pos h, if_pos h, h]
    exact Nat.le_refl _
  · rw [if_neg h]
    by_cases h2 : s.1 % s.2 = 0
    · rw [if_pos h2]
      show 2 * (s.1 % s.2) ≤ s.2
      omega
    · rw [if_neg h2]
      show 2 * (s.2 % (s.1 % s.2)) ≤ s.2
      have a : s.1 % s.2 < s.2 := Nat.mod_lt _ (by omega)
      have b : s.2 % (s.1 % s.2) < s.1 % s.2 := Nat.mod_lt _ (by omega)
      have c := Nat.div_add_mod s.2 (s.1 % s.2)
      have d : 1 ≤ s.2 / (s.1 % s.2) := Nat.div_pos (by omega) (by omega)
      have e : (s.1 % s.2) * 1 ≤ (s.1 % s.2) * (s.2 / (s.1 % s.2)) := Nat.mul_le_mul_left _ d
      omega
theorem eit_small (s : Nat × Nat) : ∀ k, s.2 < 2 ^ k → (eit s (2 * k)).2 = 0 := by
  have key : ∀ k, 2 ^ k * (eit s (2 * k)).2 ≤ s.2 := by
    intro k
    induction k with
    | zero => rw [Nat.pow_zero, Nat.one_mul]; exact Nat.le_refl _
    | succ k ih =>
      have h := est_half (eit s (2 * k))
      show 2 ^ (k + 1) * (est (est (eit s (2 * k)))).2 ≤ s.2
      have e : 2 ^ (k + 1) * (est (est (eit s (2 * k)))).2 = 2 ^ k * (2 * (est (est (eit s (2 * k)))).2) := by rw [Nat.pow_succ, Nat.mul_assoc]
      rw [e]
      exact Nat.le_trans (Nat.mul_le_mul_left _ h) ih
  intro k h
  have a := key k
  cases hz : (eit s (2 * k)).2 with
  | zero => rfl
  | succ z =>
    rw [hz] at a
    have : 2 ^ k * 1 ≤ 2 ^ k * (z + 1) := Nat.mul_le_mul_left _ (by omega)
    omega
end WK
/-! rulers: the next edge, the cells line by line -/
namespace WR
open Lay
theorem edg_get {hs : List Int} {i : Nat} (h : i < hs.length) : (WK.edges hs)[i]? = some (WK.ed hs i) := by
  unfold WK.edges
  rw [List.getElem?_map, List.getElem?_range h]
  rfl
theorem edg_len {hs : List Int} : (WK.edges hs).length = hs.length := by unfold WK.edges; rw [List.length_map, List.length_range]
theorem find_at {hs : List Int} {line : Int} {i : Nat} (h : i < hs.length) (h1 : line ≤ WK.ed hs i) (h2 : ∀ j, j < i → WK.ed hs j < line) : (WK.edges hs).find? (fun e => decide (line ≤ e)) = some (WK.ed hs i) := by
  have hi : i < (WK.edges hs).length := by rw [edg_len]; exact h
  rw [List.find?_eq_some_iff_getElem]
  refine ⟨decide_eq_true h1, i, hi, ?_, fun j hj => ?_⟩
  · exact Option.some.inj ((List.getElem?_eq_getElem hi).symm.trans (edg_get h))
  · have hj2 : j < (WK.edges hs).length := by omega
    have e : (WK.edges hs)[j] = WK.ed hs j := Option.some.inj ((List.getElem?_eq_getElem hj2).symm.trans (edg_get (by omega)))
    rw [e]
    have := h2 j hj
    simp only [Bool.not_eq_true', decide_eq_false_iff_not]
    omega
theorem nx_in {hs : List Int} {line : Int} (ho : WK.HOk hs) (h : line ∈ WK.edges hs) : (WK.edges hs).find? (fun e => decide (line ≤ e)) = some line := by
  obtain ⟨i, hi, e⟩ := List.mem_iff_getElem.mp h
  have hl : i < hs.length := by rw [edg_len] at hi; exact hi
  have e2 : WK.ed hs i = line := (Option.some.inj ((List.getElem?_eq_getElem hi).symm.trans (edg_get hl))).symm.trans e
  have := find_at (line := line) hl (by omega) fun j hj => by
    have := WK.ed_lt ho hj hl
    omega
  rw [this, e2]
theorem nx_no {hs : List Int} {line : Int} (ho : WK.HOk hs) (h : ¬ line ∈ WK.edges hs) : (WK.edges hs).find? (fun e => decide (line ≤ e)) = if WK.cnt hs line hs.length = hs.length then none else some (WK.ed hs (WK.cnt hs line hs.length)) := by
  obtain ⟨s1, s2, s3⟩ := WK.cnt_spec ho line
  have ne : ∀ j, j < hs.length → WK.ed hs j ≠ line := fun j hj z => h (by rw [← z]; exact List.mem_of_getElem? (edg_get hj))
  split
  · rename_i c
    rw [List.find?_eq_none]
    intro e he
    obtain ⟨i, hi, e2⟩ := List.mem_iff_getElem.mp he
    have hl : i < hs.length := by rw [edg_len] at hi; exact hi
    have e3 : WK.ed hs i = e := (Option.some.inj ((List.getElem?_eq_getElem hi).symm.trans (edg_get hl))).symm.trans e2
    have := s2 i (by omega)
    have := ne i hl
    simp only [decide_eq_true_eq]
    omega
  · rename_i c
    have hl : WK.cnt hs line hs.length < hs.length := by omega
    refine find_at hl ?_ fun j hj => ?_
    · have := s3 _ (Nat.le_refl _) hl
      omega
    · have := s2 j hj
      have := ne j (by omega)
      omega
/-- the cells of the lines, the first k cells -/
def cbN (hs : List Int) : Nat → List Int
  | 0 => []
  | k + 1 => cbN hs k ++ List.replicate (gi hs k).toNat ((k : Int) + 1)
theorem gi_get {hs : List Int} {k : Nat} (h : k < hs.length) : gi hs k = hs[k] := by
  unfold gi
  rw [Int.toNat_natCast, List.getD_eq_getElem?_getD, List.getElem?_eq_getElem h]
  rfl
theorem ed_take {hs : List Int} (k : Nat) : WK.ed hs k = (hs.take (k + 1)).sum := rfl
theorem cnt_is {hs : List Int} (ho : WK.HOk hs) {line : Int} {k : Nat} (hk : k ≤ hs.length) (h1 : (hs.take k).sum ≤ line) (h2 : k < hs.length → line < (hs.take (k + 1)).sum) : WK.cnt hs line hs.length = k := by
  refine WK.cnt_split (fun i hi => ?_) hs.length hk fun i hi hl => ?_
  · by_cases z : i + 1 = k
    · rw [ed_take, z]; exact h1
    · have := WK.ed_lt ho (i := i) (j := k - 1) (by omega) (by omega)
      rw [ed_take (k - 1), show k - 1 + 1 = k by omega] at this
      omega
  · have a := h2 (by omega)
    by_cases z : i = k
    · rw [z, ed_take]; exact a
    · have := WK.ed_lt ho (i := k) (j := i) (by omega) hl
      rw [ed_take k] at this
      omega
theorem cb_at {hs : List Int} (ho : WK.HOk hs) : ∀ k, k ≤ hs.length → ((cbN hs k).length : Int) = (hs.take k).sum ∧ ∀ line : Nat, line < (cbN hs k).length → (cbN hs k)[line]? = some ((WK.cnt hs line hs.length : Int) + 1) := by
  intro k
  induction k with
  | zero => exact fun _ => ⟨rfl, fun line h => absurd h (Nat.not_lt_zero _)⟩
  | succ k ih =>
    intro hk
    obtain ⟨i1, i2⟩ := ih (by omega)
    have hg := gi_get (show k < hs.length by omega)
    have h1 := ho _ (List.getElem_mem (show k < hs.length by omega))
    have hs1 := Lay.take_sum (show k < hs.length by omega)
    have hl : (cbN hs (k + 1)).length = (cbN hs k).length + (gi hs k).toNat := by rw [cbN, List.length_append, List.length_replicate]
    refine ⟨by rw [hl]; omega, fun line h => ?_⟩
    rw [hl] at h
    rw [cbN]
    by_cases c : line < (cbN hs k).length
    · rw [List.getElem?_append_left c]
      exact i2 line c
    · rw [List.getElem?_append_right (by omega), List.getElem?_replicate, if_pos (by omega)]
      rw [cnt_is ho (k := k) (by omega) (by omega) fun _ => by omega]
def cbl (hs : List Int) (b : Nat) : List Int := cbN hs hs.length ++ List.replicate b ((hs.length : Int) + 1)
theorem cbl_gi {hs : List Int} (ho : WK.HOk hs) {b : Nat} {line : Int} (h0 : 0 ≤ line) (h : line < (cbl hs b).length) : gi (cbl hs b) line = (WK.cnt hs line hs.length : Int) + 1 := by
  obtain ⟨n, rfl⟩ : ∃ n : Nat, line = n := ⟨line.toNat, by omega⟩
  obtain ⟨i1, i2⟩ := cb_at ho hs.length (Nat.le_refl _)
  have e : (cbl hs b)[n]? = some ((WK.cnt hs n hs.length : Int) + 1) := by
    unfold cbl at h ⊢
    rw [List.length_append, List.length_replicate] at h
    by_cases c : n < (cbN hs hs.length).length
    · rw [List.getElem?_append_left c]
      exact i2 n c
    · rw [List.getElem?_append_right (by omega), List.getElem?_replicate, if_pos (by omega)]
      rw [cnt_is ho (k := hs.length) (Nat.le_refl _) (by omega) fun z => absurd z (Nat.lt_irrefl _)]
  unfold gi
  rw [Int.toNat_natCast, List.getD_eq_getElem?_getD, e]
  rfl
theorem cbl_len {hs : List Int} (ho : WK.HOk hs) {b : Nat} : ((cbl hs b).length : Int) = hs.sum + b := by
  obtain ⟨i1, _⟩ := cb_at ho hs.length (Nat.le_refl _)
  unfold cbl
  rw [List.length_append, List.length_replicate]
  rw [List.take_length] at i1
  omega
end WR
namespace K00
open PySem PySem.Spec PyProof.Rows L2 Evl Lay
section
variable {P : Program} {w : World} {K : PySem.W.Frag} {mg : Str → Option Value} {base : Heap} {CB CT CW CRuler CBadStyle CBadWords CBadBook CBadTold CBadPlan CBadText CBadCommand cL__law_ends_right PL__law_ends_right cL__law_bounds_right PL__law_bounds_right : Addr} {tkC tkH : Tok}
def top (i : Nat) : Stmt := PySem.Challenge.pw_comestrue_k00_cells_of_rulers_at_all_lin.main.body.getD i (.Pass ⟨0, 0, 0, 0⟩)
structure Txt (K : PySem.W.Frag) (mg : Str → Option Value) (CB : Addr) (tkC tkH : Tok) (CBadStyle CBadWords CBadBook CBadTold CBadPlan CBadText CBadCommand : Addr) : Prop where
  n_ValueError : mg "ValueError" = none
  n_abs : mg "abs" = none
  n_bool : mg "bool" = none
  n_enumerate : mg "enumerate" = none
  n_int : mg "int" = none
  n_isinstance : mg "isinstance" = none
  n_len : mg "len" = none
  n_list : mg "list" = none
  n_range : mg "range" = none
  n_sum : mg "sum" = none
  n_tuple : mg "tuple" = none
  g_CELLS : mg "CELLS" = some (.int 64 tkC)
  g_HEIGHTS : mg "HEIGHTS" = some (.int 1000000000 tkH)
  g_BadStyle : mg "BadStyle" = some (.ref CBadStyle)
  g_BadWords : mg "BadWords" = some (.ref CBadWords)
  g_BadBook : mg "BadBook" = some (.ref CBadBook)
  g_BadTold : mg "BadTold" = some (.ref CBadTold)
  g_BadPlan : mg "BadPlan" = some (.ref CBadPlan)
  g_BadText : mg "BadText" = some (.ref CBadText)
  g_BadCommand : mg "BadCommand" = some (.ref CBadCommand)
  g_ComesError : mg "ComesError" = some (.ref CB)
  rd_ComesError : ClX.CRead K CB (.type "type")
  vi_ComesError : PySem.W.findCls K (.ref CB) (.type "type") "__init__" = some (.val (.builtin "ValueError.__init__"))
end
end K00
namespace K00
open PySem PySem.Spec PyProof.Rows L2 Evl Lay
section
variable {P : Program} {w : World} {K : PySem.W.Frag} {mg : Str → Option Value} {base : Heap} {CB CT CW CRuler CBadStyle CBadWords CBadBook CBadTold CBadPlan CBadText CBadCommand cL__law_ends_right PL__law_ends_right cL__law_bounds_right PL__law_bounds_right : Addr} {tkC tkH : Tok}
/-! ### the errors' __init__ -/
abbrev s_TooMany___init__ : Stmt := inClass (top 2) 0
theorem sc_TooMany___init__ : FnScope ["self", "what"] ["self", "what"] (defScope s_TooMany___init__) := ⟨rfl, rfl, rfl, by decide +kernel, rfl, by decide +kernel, by decide +kernel⟩
theorem ok_initT {f : Addr} {fd : FuncData} (T : Txt K mg CB tkC tkH  CBadStyle CBadWords CBadBook CBadTold CBadPlan CBadText CBadCommand) (F : Fun K "__init__" "TooMany.__init__" s_TooMany___init__ f fd) (o : OexC K CT) (no : PySem.W.findIn K (.ref CT) "what" = some none) : FnOk P w K mg base (L2.CX P w) 1 f fd ["self", "what"] (spExc K CT "what") := by
  refine F.okX sc_TooMany___init__ (fun vs H Q E h => ?_) (fun cdv Ar outer s H vs Q E hr h => ⟨_, (pss_cons (ps_expr (pe_binit rfl T.g_ComesError T.rd_ComesError T.vi_ComesError (pa_cons (pv 0) (pa_cons (pe_joined (PJ.cons pe_str (PJ.cons (pe_fmt (pv 1)) PJ.nil))) pa_nil))))
      (pss_one (ps_ost (pv 0) (pv 1)))), ?_⟩)
  · obtain ⟨a, v, rfl, _⟩ := h
    rfl
  · obtain ⟨a, v, rfl, tv, ha, q⟩ := h
    exact exc_body (fun R hR => js_c (n := 0) (by decide) (by decide +kernel) fun a1 h1 => js_v tv rfl h1 (by decide +kernel) fun a2 h2 => hR _) rfl rfl o no ha q
abbrev s_BadRuler___init__ : Stmt := inClass (top 3) 0
theorem sc_BadRuler___init__ : FnScope ["self", "place"] ["self", "place"] (defScope s_BadRuler___init__) := ⟨rfl, rfl, rfl, by decide +kernel, rfl, by decide +kernel, by decide +kernel⟩
theorem ok_initW {f : Addr} {fd : FuncData} (T : Txt K mg CB tkC tkH  CBadStyle CBadWords CBadBook CBadTold CBadPlan CBadText CBadCommand) (F : Fun K "__init__" "BadRuler.__init__" s_BadRuler___init__ f fd) (o : OexC K CW) (no : PySem.W.findIn K (.ref CW) "place" = some none) : FnOk P w K mg base (L2.CX P w) 1 f fd ["self", "place"] (spExc K CW "place") := by
  refine F.okX sc_BadRuler___init__ (fun vs H Q E h => ?_) (fun cdv Ar outer s H vs Q E hr h => ⟨_, (pss_cons (ps_expr (pe_binit rfl T.g_ComesError T.rd_ComesError T.vi_ComesError (pa_cons (pv 0) (pa_cons (pe_joined (PJ.cons pe_str (PJ.cons (pe_fmt (pv 1)) PJ.nil))) pa_nil))))
      (pss_one (ps_ost (pv 0) (pv 1)))), ?_⟩)
  · obtain ⟨a, v, rfl, _⟩ := h
    rfl
  · obtain ⟨a, v, rfl, tv, ha, q⟩ := h
    exact exc_body (fun R hR => js_c (n := 0) (by decide) (by decide +kernel) fun a1 h1 => js_v tv rfl h1 (by decide +kernel) fun a2 h2 => hR _) rfl rfl o no ha q
/-! ### what is refused -/
inductive Er | many (s : Str) | ruler (p : Int)
def Raised (CT CW : Addr) (e : Er) (H : Hp) (E : XK) : Prop := match e with
  | .many s => ∀ d H2, Ex H H2 → H2 d = some (.xd [("what", .str s)]) → E (.ref CT) (some d) H2
  | .ruler p => ∀ d H2, Ex H H2 → H2 d = some (.xd [("place", .int p)]) → E (.ref CW) (some d) H2
/-- ends with None, or refuses -/
def Outc (CT CW : Addr) (r : Option Er) (H : Hp) (Q : VK) (E : XK) : Prop := match r with
  | none => ∀ H2, Ex H H2 → Q .non H2
  | some e => Raised CT CW e H E
theorem Raised.mono {e : Er} {H H2 : Hp} {E : XK} (r : Raised CT CW e H E) (x : Ex H H2) : Raised CT CW e H2 E := by
  cases e with
  | many s => exact fun d H3 e3 h => r d H3 (x.trans e3) h
  | ruler s => exact fun d H3 e3 h => r d H3 (x.trans e3) h
theorem Outc.raised {e : Er} {H : Hp} {Q : VK} {E : XK} (q : Outc CT CW (some e) H Q E) : Raised CT CW e H E := q
theorem Outc.mono {r : Option Er} {H H2 : Hp} {Q : VK} {E : XK} (q : Outc CT CW r H Q E) (x : Ex H H2) : Outc CT CW r H2 Q E := by
  cases r with
  | none => exact fun H3 e3 => q H3 (x.trans e3)
  | some e => exact Raised.mono (Outc.raised q) x
end
end K00
namespace K00
open PySem PySem.Spec PyProof.Rows L2 Evl Lay
section
variable {P : Program} {w : World} {K : PySem.W.Frag} {mg : Str → Option Value} {base : Heap} {CB CT CW CRuler CBadStyle CBadWords CBadBook CBadTold CBadPlan CBadText CBadCommand cL__law_ends_right PL__law_ends_right cL__law_bounds_right PL__law_bounds_right : Addr} {tkC tkH : Tok}
def spIsWhole : Sp := fun vs H Q _ => ∃ i : Int, vs = [.int i] ∧ Q (.bl true) H
abbrev s_is_whole : Stmt := top 12
theorem sc_is_whole : FnScope ["value"] ["value"] (defScope s_is_whole) := ⟨rfl, rfl, rfl, by decide +kernel, rfl, by decide +kernel, by decide +kernel⟩
theorem ok_is_whole (T : Txt K mg CB tkC tkH  CBadStyle CBadWords CBadBook CBadTold CBadPlan CBadText CBadCommand) (F : At K mg "is_whole" s_is_whole ["value"]) : Def P w K mg base "is_whole" 1 ["value"] spIsWhole := by
  refine Def.mk' F sc_is_whole (fun vs H Q E h => ?_) (fun f cdv Ar outer s H vs Q E hr h => ⟨_, (pss_one (ps_ret (pe_and (pe_callB (r := rIsi K) call_isi rfl T.n_isinstance (by decide +kernel) (pa_cons (pv 0) (pa_cons (pe_bltn (v := .ty "int") (u := .type "int") rfl T.n_int (by decide +kernel) rfl) pa_nil))) (pe_one (pe_not (pe_callB (r := rIsi K) call_isi rfl T.n_isinstance (by decide +kernel) (pa_cons (pv 0) (pa_cons (pe_bltn (v := .ty "bool") (u := .type "bool") rfl T.n_bool (by decide +kernel) rfl) pa_nil)))))))), ?_⟩)
  · obtain ⟨i, rfl, _⟩ := h
    rfl
  · obtain ⟨i, rfl, q⟩ := h
    walk_at "go0"
    exact q
end
end K00
namespace K00
open PySem PySem.Spec PyProof.Rows L2 Evl Lay
section
variable {P : Program} {w : World} {K : PySem.W.Frag} {mg : Str → Option Value} {base : Heap} {CB CT CW CRuler CBadStyle CBadWords CBadBook CBadTold CBadPlan CBadText CBadCommand cL__law_ends_right PL__law_ends_right cL__law_bounds_right PL__law_bounds_right : Addr} {tkC tkH : Tok}
def ckMost (s : Str) (n m : Int) : Option Er := if m < n then some (.many s) else none
def spMost (CT CW : Addr) : Sp := fun vs H Q E => ∃ (s : Str) (n m : Int), vs = [.str s, .int n, .int m] ∧ s.length ≤ 1000 ∧ Outc CT CW (ckMost s n m) H Q E
abbrev s_check_most : Stmt := top 16
theorem sc_check_most : FnScope ["what", "many", "most"] ["what", "many", "most"] (defScope s_check_most) := ⟨rfl, rfl, rfl, by decide +kernel, rfl, by decide +kernel, by decide +kernel⟩
theorem ok_check_most (T : Txt K mg CB tkC tkH  CBadStyle CBadWords CBadBook CBadTold CBadPlan CBadText CBadCommand) (F : At K mg "check_most" s_check_most ["what", "many", "most"]) (x_TooMany : Exn P w K mg base "TooMany" "what" CT) (d_is_whole : Def P w K mg base "is_whole" 1 ["value"] spIsWhole) :
    Def P w K mg base "check_most" 3 ["what", "many", "most"] (spMost CT CW) := by
  refine Def.mk' F sc_check_most (fun vs H Q E h => ?_) (fun f cdv Ar outer s H vs Q E hr h => ⟨_, (pss_one (ps_if (PW.pt (pw_and (pt_val (pe_d d_is_whole (hr.mono (by decide)) (passes_call (takes_of rfl rfl rfl rfl) (fun _ _ _ _ h => h)) (pa_cons (pv 1) pa_nil))) (pw_and1 (pt_cmpR op_gt (pv 1) (pv 2) (nomark _))))) (pss_one (ps_raiseE x_TooMany rfl (hr.mono (by decide)) (takes_of rfl rfl rfl rfl) (pv 0))) pss_nil)), ?_⟩)
  · obtain ⟨s, n, m, rfl, _⟩ := h
    rfl
  · obtain ⟨s, n, m, rfl, hs, q⟩ := h
    walk_at "go0"
    refine ⟨n, rfl, ?_⟩
    walk_at "go"
    refine r_ite (fun c => ?_) (fun c => ?_)
    · walk_at "go"
      unfold ckMost at q
      rw [if_pos c] at q
      exact ⟨hs, q⟩
    · walk_at "go"
      unfold ckMost at q
      rw [if_neg c] at q
      exact q H (Ex.refl H)
def ckNums (s : Str) (ns : List Int) (m : Int) : Option Er := if ns.any (fun n => decide (m < n)) then some (.many s) else none
theorem ckNums_take {s : Str} {ns : List Int} {m z : Int} {i : Nat} (h : ns[i]? = some z) (c : m < z) : ckNums s ns m = some (.many s) := by
  unfold ckNums
  rw [if_pos]
  exact List.any_eq_true.mpr ⟨z, List.mem_of_getElem? h, decide_eq_true c⟩
def spNums (K : PySem.W.Frag) (CT CW : Addr) : Sp := fun vs H Q E => ∃ (s : Str) (a : Addr) (ns : List Int) (m : Int), vs = [.str s, .ref a, .int m] ∧ s.length ≤ 1000 ∧ SqQ K H a (ns.map V.int) ∧ Outc CT CW (ckNums s ns m) H Q E
abbrev s_check_numbers : Stmt := top 17
theorem sc_check_numbers : FnScope ["what", "numbers", "most", "number"] ["what", "numbers", "most"] (defScope s_check_numbers) := ⟨rfl, rfl, rfl, by decide +kernel, rfl, by decide +kernel, by decide +kernel⟩
theorem ok_check_numbers (T : Txt K mg CB tkC tkH  CBadStyle CBadWords CBadBook CBadTold CBadPlan CBadText CBadCommand) (F : At K mg "check_numbers" s_check_numbers ["what", "numbers", "most"]) (d_check_most : Def P w K mg base "check_most" 3 ["what", "many", "most"] (spMost CT CW)) :
    Def P w K mg base "check_numbers" 4 ["what", "numbers", "most"] (spNums K CT CW) := by
  refine Def.mk' F sc_check_numbers (fun vs H Q E h => ?_) (fun f cdv Ar outer s H vs Q E hr h => ⟨_, (pss_one (ps_for (passes_of rfl) rfl (pi_or (pi_list (pv 1)) (pi_tup (pv 1))) (pg_name (i := 3) sc_check_numbers.nd rfl (Or.inl rfl)) (pss_one (ps_expr (pe_d d_check_most (hr.mono (by decide)) (passes_call (takes_of rfl rfl rfl rfl) (fun _ _ _ _ h => h)) (pa_cons (pv 0) (pa_cons (pv 3) (pa_cons (pv 2) pa_nil)))))))), ?_⟩)
  · obtain ⟨s, a, ns, m, rfl, _⟩ := h
    rfl
  · obtain ⟨s, a, ns, m, rfl, hs, ha, q⟩ := h
    walk_at "go0"
    refine r_iOrV rfl ?_
    refine forQ ha (fun i σ' H' => (∃ v, σ' = [some (.str s), some (.ref a), some (.int m), v]) ∧ Ex H H' ∧ ∀ (j : Nat) (z : Int), j < i → ns[j]? = some z → ¬ m < z) ?_ ?_ ?_ ?_
    · exact ⟨⟨none, rfl⟩, Ex.refl H, fun j z hj => absurd hj (Nat.not_lt_zero _)⟩
    · intro i σ' H' _ ⟨_, e, _⟩
      exact SqK.refl.ex e
    · rintro i x σ' H' hx ⟨⟨v, rfl⟩, e, hn⟩
      obtain ⟨hi, rfl⟩ := int_at hx
      have hz : ns[i]? = some ns[i] := List.getElem?_eq_getElem hi
      refine r_gName ?_
      walk_at "go"
      refine ⟨s, ns[i], m, rfl, hs, ?_⟩
      unfold ckMost
      by_cases c : m < ns[i]
      · rw [if_pos c]
        rw [ckNums_take hz c] at q
        exact Raised.mono (Outc.raised q) e
      · rw [if_neg c]
        intro H2 e2
        refine ⟨⟨_, rfl⟩, e.trans e2, fun j y hj hy => ?_⟩
        by_cases hji : j = i
        · rw [hji, hz] at hy
          cases hy
          exact c
        · exact hn j y (by omega) hy
    · rintro σ' H' ⟨_, e, hn⟩
      rw [List.length_map] at hn
      have hc : ckNums s ns m = none := by
        unfold ckNums
        rw [if_neg]
        intro hany
        obtain ⟨z, hz, hd⟩ := List.any_eq_true.mp hany
        obtain ⟨j, hj⟩ := List.getElem?_of_mem hz
        exact hn j z (List.getElem?_eq_some_iff.mp hj).1 hj (of_decide_eq_true hd)
      rw [hc] at q
      walk_at "go"
      exact q H' e
end
end K00
namespace K00
open PySem PySem.Spec PyProof.Rows L2 Evl Lay
section
variable {P : Program} {w : World} {K : PySem.W.Frag} {mg : Str → Option Value} {base : Heap} {CB CT CW CRuler CBadStyle CBadWords CBadBook CBadTold CBadPlan CBadText CBadCommand cL__law_ends_right PL__law_ends_right cL__law_bounds_right PL__law_bounds_right : Addr} {tkC tkH : Tok}
/-! ### rulers -/
def RulerAt (CRuler : Addr) (H : Hp) (x : Addr) (hs : List Int) : Prop := ∃ dx hl el, H x = some (.ins CRuler dx [("height_list", .ref hl), ("edge_list", .ref el)]) ∧ H hl = some (.lst (hs.map V.int)) ∧ H el = some (.lst ((WK.edges hs).map V.int))
theorem RulerAt.ex {CRuler : Addr} {H H2 : Hp} {x : Addr} {hs : List Int} (h : RulerAt CRuler H x hs) (e : Ex H H2) : RulerAt CRuler H2 x hs := by
  obtain ⟨dx, hl, el, h1, h2, h3⟩ := h
  exact ⟨dx, hl, el, e _ _ h1, e _ _ h2, e _ _ h3⟩
theorem RulerAt.exn {CRuler : Addr} {H H2 : Hp} {x : Addr} {hs : List Int} (h : RulerAt CRuler H x hs) (e : LamX.ExtN H H2) : RulerAt CRuler H2 x hs := by
  obtain ⟨dx, hl, el, h1, h2, h3⟩ := h
  exact ⟨dx, hl, el, exn_at e (fun _ z => by cases z) h1, exn_at e (fun _ z => by cases z) h2, exn_at e (fun _ z => by cases z) h3⟩
/-- the first wrong height -/
def badAt (hs : List Int) : Option Nat := hs.findIdx? fun z => decide (z < 1)
def ckRuler (hs : List Int) : Option Er := if (64 : Int) < hs.length + 1 then some (.many "cells") else match ckNums "heights" hs 1000000000 with
  | some e => some e
  | none => match badAt hs with
    | some i => some (.ruler (i + 1))
    | none => none
theorem badAt_some {hs : List Int} {i : Nat} {z : Int} (h : hs[i]? = some z) (hz : z < 1) (hb : ∀ (j : Nat) (y : Int), j < i → hs[j]? = some y → 1 ≤ y) : badAt hs = some i := by
  obtain ⟨hi, e⟩ := List.getElem?_eq_some_iff.mp h
  unfold badAt
  rw [List.findIdx?_eq_some_iff_getElem]
  refine ⟨hi, decide_eq_true (by rw [e]; exact hz), fun j hj => ?_⟩
  have := hb j hs[j] hj (List.getElem?_eq_getElem (by omega))
  simp only [decide_eq_true_eq]
  omega
theorem badAt_none {hs : List Int} (h : ∀ z ∈ hs, 1 ≤ z) : badAt hs = none := by
  unfold badAt
  rw [List.findIdx?_eq_none_iff]
  intro z hz
  have := h z hz
  exact decide_eq_false (by omega)
theorem ck_ok {hs : List Int} (h : ckRuler hs = none) : hs.length ≤ 63 ∧ WK.HOk hs ∧ ∀ z ∈ hs, z ≤ 1000000000 := by
  unfold ckRuler at h
  split at h
  · cases h
  · rename_i c
    unfold ckNums at h
    split at h
    · cases h
    · rename_i e
      split at e
      · cases e
      · rename_i d
        split at h
        · cases h
        · rename_i b
          refine ⟨by omega, fun z hz => ?_, fun z hz => ?_⟩
          · have := List.findIdx?_eq_none_iff.mp b z hz
            have := of_decide_eq_false this
            omega
          · by_cases k : z ≤ 1000000000
            · exact k
            · exact absurd (List.any_eq_true.mpr ⟨z, hz, decide_eq_true (by omega)⟩) d
theorem ck_yes {hs : List Int} (h1 : hs.length ≤ 63) (h2 : WK.HOk hs) (h3 : ∀ z ∈ hs, z ≤ 1000000000) : ckRuler hs = none := by
  unfold ckRuler
  rw [if_neg (by omega)]
  have n : ckNums "heights" hs 1000000000 = none := by
    unfold ckNums
    rw [if_neg]
    intro hany
    obtain ⟨z, hz, hd⟩ := List.any_eq_true.mp hany
    have := h3 z hz
    have := of_decide_eq_true hd
    omega
  rw [n, badAt_none h2]
def spRuler (K : PySem.W.Frag) (CT CW CRuler : Addr) : Sp := fun vs H Q E => ∃ (x a dx : Addr) (hs : List Int) (H0 : Hp), vs = [.ref x, .ref a] ∧ H x = some (.ins CRuler dx []) ∧ SqQ K H a (hs.map V.int) ∧ H0 x = none ∧ Ex H0 H ∧
  (match ckRuler hs with
  | none => ∀ H2 hl el, ExB x H H2 → H hl = none → H el = none → H2 x = some (.ins CRuler dx [("height_list", .ref hl), ("edge_list", .ref el)]) → H2 hl = some (.lst (hs.map V.int)) → H2 el = some (.lst ((WK.edges hs).map V.int)) → Q .non H2
  | some e => Raised CT CW e H0 E)
abbrev s_Ruler___init__ : Stmt := inClass (top 19) 0
theorem sc_Ruler___init__ : FnScope ["self", "heights", "line", "place", "height"] ["self", "heights"] (defScope s_Ruler___init__) := ⟨rfl, rfl, rfl, by decide +kernel, rfl, by decide +kernel, by decide +kernel⟩
theorem ok_Ruler_init (T : Txt K mg CB tkC tkH  CBadStyle CBadWords CBadBook CBadTold CBadPlan CBadText CBadCommand) (F : AtI K mg "Ruler" CRuler "Ruler.__init__" s_Ruler___init__ ["self", "heights"]) (o_Ruler : OC K mg "Ruler" CRuler ["height_list", "edge_list"]) (x_BadRuler : Exn P w K mg base "BadRuler" "place" CW)
    (d_check_most : Def P w K mg base "check_most" 3 ["what", "many", "most"] (spMost CT CW)) (d_check_numbers : Def P w K mg base "check_numbers" 4 ["what", "numbers", "most"] (spNums K CT CW)) :
    DI P w K mg base "Ruler" CRuler 5 ["self", "heights"] (spRuler K CT CW CRuler) := by
  refine DI.mk' F sc_Ruler___init__ (fun vs H Q E h => ?_) (fun f cdv Ar outer s H vs Q E hr h => ⟨_, (pss_cons (ps_expr (pe_d d_check_most (hr.mono (by decide)) (passes_call (takes_of rfl rfl rfl rfl) (fun _ _ _ _ h => h)) (pa_cons pe_str (pa_cons (pe_op op_add (pe_callB (r := Lay.rLen K) c_len rfl T.n_len PySem.boot_len (pa_cons (pv 1) pa_nil)) pe_int) (pa_cons (pe_glob (v := .int 64) rfl T.g_CELLS ⟨_, rfl⟩) pa_nil)))))
      (pss_cons (ps_expr (pe_d d_check_numbers (hr.mono (by decide)) (passes_call (takes_of rfl rfl rfl rfl) (fun _ _ _ _ h => h)) (pa_cons pe_str (pa_cons (pv 1) (pa_cons (pe_glob (v := .int 1000000000) rfl T.g_HEIGHTS ⟨_, rfl⟩) pa_nil)))))
      (pss_cons (ps_fld (pv 0) (pe_lst pa_nil) rfl)
      (pss_cons (ps_fld (pv 0) (pe_lst pa_nil) rfl)
      (pss_cons (ps_set (i := 2) sc_Ruler___init__.nd rfl (Or.inl rfl) pe_int)
      (pss_one (ps_for (passes_of rfl) rfl (pi_or (pi_enum rfl T.n_enumerate (pa_cons (pv 1) pa_nil)) (pi_enumT rfl T.n_enumerate (pa_cons (pv 1) pa_nil))) (pg_tup (n := 2) rfl (pgs_cons (pg_name (i := 3) sc_Ruler___init__.nd rfl (Or.inl rfl)) (pgs_cons (pg_name (i := 4) sc_Ruler___init__.nd rfl (Or.inl rfl)) pgs_nil))) (pss_cons (ps_if (pt_cmpR op_lt (pv 4) pe_int (nomark _)) (pss_one (ps_raiseE x_BadRuler rfl (hr.mono (by decide)) (takes_of rfl rfl rfl rfl) (pe_op op_add (pv 3) pe_int))) pss_nil)
      (pss_cons (ps_set (i := 2) sc_Ruler___init__.nd rfl (Or.inl rfl) (pe_op op_add (pv 2) (pv 4)))
      (pss_cons (ps_expr (pe_bm PySem.F.plainAttrs_list PySem.F.slot_list_append PySem.F.type_list_append mt_append (pe_fld (pv 0) rfl) (pa_cons (pv 4) pa_nil)))
      (pss_one (ps_expr (pe_bm PySem.F.plainAttrs_list PySem.F.slot_list_append PySem.F.type_list_append mt_append (pe_fld (pv 0) rfl) (pa_cons (pv 2) pa_nil)))))))))))))), ?_⟩)
  · obtain ⟨x, a, dx, hs, H0, rfl, _⟩ := h
    rfl
  · obtain ⟨x, a, dx, hs, H0, rfl, hx, ha0, nx, e00, q⟩ := h
    have ha := ha0
    have e0 := e00
    walk_at "go0"
    refine r_lenQ ha ?_
    rw [List.length_map]
    walk_at "go"
    refine ⟨"cells", _, 64, rfl, by decide +kernel, ?_⟩
    unfold ckRuler at q
    unfold ckMost
    by_cases c1 : (64 : Int) < hs.length + 1
    · rw [if_pos c1] at q ⊢
      exact Raised.mono q e0
    rw [if_neg c1] at q ⊢
    intro Ha ea
    have hx := ea _ _ hx
    have ha := (SqK.refl.ex ea).q ha
    have e0 := e0.trans ea
    walk_at "go"
    refine ⟨"heights", a, hs, 1000000000, rfl, by decide +kernel, ha, ?_⟩
    cases c2 : ckNums "heights" hs 1000000000 with
    | some e =>
      rw [c2] at q
      exact Raised.mono q e0
    | none =>
    rw [c2] at q
    intro Hb eb
    have hx := eb _ _ hx
    have ha := (SqK.refl.ex eb).q ha
    have e0 := e0.trans eb
    have eab := ea.trans eb
    clear ea eb
    walk_at "go"
    refine r_newI0 fun h1 H1 n1 e1 hh1 => ?_
    walk_at "go"
    refine r_rfst (e1 _ _ hx) o_Ruler (by decide) (by decide) fun H2 e2 hx2 => ?_
    walk_at "go"
    refine r_newI0 fun l1 H3 n3 e3 hl3 => ?_
    walk_at "go"
    refine r_rfst (e3 _ _ hx2) o_Ruler (by decide) (Nat.le_of_ble_eq_true rfl) fun H4 e4 hx4 => ?_
    have hx1 : H1 x = some (.ins CRuler dx []) := e1 _ _ hx
    have hx3 := e3 _ _ hx2
    have hx5 : H4 x = some (.ins CRuler dx [("height_list", .ref h1), ("edge_list", .ref l1)]) := hx4
    have nh : h1 ≠ x := (ne_of_none hx n1).symm
    have n3' : H1 l1 = none := freshB e2 (fun z => by rw [z, hx2] at n3; cases n3) n3
    have nl : l1 ≠ x := (ne_of_none hx1 n3').symm
    have hh2 : H2 h1 = some (.lst (([] : List Int).map V.int)) := e2 _ _ nh hh1
    have nhl : h1 ≠ l1 := ne_of_none hh1 n3'
    have hh4 : H4 h1 = some (.lst (([] : List Int).map V.int)) := e4 _ _ nh (e3 _ _ hh2)
    have hl4 : H4 l1 = some (.lst (([] : List Int).map V.int)) := e4 _ _ nl hl3
    have ex4 : ExB x H H4 := ((Ex.b eab).trans (Ex.b e1)).trans ((e2.trans (Ex.b e3)).trans e4)
    have ln : H l1 = none := fresh_back eab (fresh_back e1 n3')
    have hn1 : H h1 = none := fresh_back eab n1
    have ka : SqK K H H4 a (hs.map V.int) := (((((SqK.refl.ex eab).ex e1).ins hx1 e2).ex e3).ins hx3 e4)
    have nx1 : ∀ h, ExB x H h → Ex H0 h := fun h e => ExB.ex e00 e nx
    clear ha hh1 hl3 e1 e2 e3 e4 hx1 hx2 hx3 hx4 hh2 n1 n3 n3'
    walk_at "go"
    refine r_iOrE rfl ?_
    refine forEQ ha0 ka (fun i s h => (∃ v u, s = [some (.ref x), some (.ref a), some (.int (hs.take i).sum), v, u]) ∧ ExB x H h ∧ h x = some (.ins CRuler dx [("height_list", .ref h1), ("edge_list", .ref l1)]) ∧ h h1 = some (.lst ((hs.take i).map V.int)) ∧ h l1 = some (.lst (((List.range i).map (WK.ed hs)).map V.int)) ∧ SqK K H h a (hs.map V.int) ∧ ∀ (j : Nat) (y : Int), j < i → hs[j]? = some y → 1 ≤ y) ?_ ?_ ?_ ?_
    · exact ⟨⟨_, _, rfl⟩, ex4, hx5, hh4, hl4, ka, fun j y hj => absurd hj (Nat.not_lt_zero _)⟩
    · intro i s h _ ⟨_, _, _, _, _, z, _⟩
      exact z
    · rintro i z s h h2 hz ⟨⟨v, u, rfl⟩, ex, hx, hh, hl, ha, hb⟩ e
      obtain ⟨hi, rfl⟩ := int_at hz
      have hgz : hs[i]? = some hs[i] := List.getElem?_eq_getElem hi
      walk_at "go"
      refine r_ite (fun c => ?_) (fun c => ?_)
      · refine r_raise ?_
        walk_at "go"
        rw [badAt_some hgz c hb] at q
        refine ⟨tell_int (by omega) (by omega), fun d H5 e5 h5 => ?_⟩
        exact q d H5 ((nx1 _ (ex.trans (Ex.b e))).trans e5) h5
      walk_at "go"
      refine r_appI (e _ _ hh) (by rw [List.length_take]; omega) fun H5 e5 h5 f5 => ?_
      have hx5 : H5 x = some (.ins CRuler dx [("height_list", .ref h1), ("edge_list", .ref l1)]) := exb_at e5 nh.symm (e _ _ hx)
      have hl5 : H5 l1 = some (.lst (((List.range i).map (WK.ed hs)).map V.int)) := exb_at e5 nhl.symm (e _ _ hl)
      walk_at "go"
      refine r_appI hl5 (by rw [List.length_map, List.length_range]; omega) fun H6 e6 h6 f6 => ?_
      refine r_next ⟨⟨_, _, by rw [← take_sum hi]; rfl⟩, ?_, exb_at e6 nl.symm hx5, ?_, ?_, ?_, ?_⟩
      · exact ExB.exB (ExB.exB (ex.trans (Ex.b e)) e5 hn1) e6 ln
      · rw [← take_snoc hi]
        exact exb_at e6 nhl h5
      · rw [List.range_succ, List.map_append]
        have e9 : (hs.take i).sum + hs[i] = WK.ed hs i := take_sum hi
        rw [e9] at h6
        exact h6
      · exact ((ha.ex e).fresh hn1 e5).fresh ln e6
      · intro j y hj hy
        by_cases hji : j = i
        · rw [hji, hgz] at hy
          cases hy
          omega
        · exact hb j y (by omega) hy
    · rintro s h ⟨⟨v, u, rfl⟩, ex, hx, hh, hl, ha, hb⟩
      rw [List.length_map] at hh hl hb
      rw [List.take_length] at hh
      rw [badAt_none fun z hz => by
        obtain ⟨j, hj⟩ := List.getElem?_of_mem hz
        exact hb j z (List.getElem?_eq_some_iff.mp hj).1 hj] at q
      exact r_next (q h h1 l1 ex hn1 ln hx hh hl)
def spMany (CRuler : Addr) : Sp := fun vs H Q _ => ∃ (x : Addr) (hs : List Int), vs = [.ref x] ∧ RulerAt CRuler H x hs ∧ Q (.int (hs.length + 1)) H
abbrev s_Ruler_many : Stmt := inClass (top 19) 1
theorem sc_Ruler_many : FnScope ["self"] ["self"] (defScope s_Ruler_many) := ⟨rfl, rfl, rfl, by decide +kernel, rfl, by decide +kernel, by decide +kernel⟩
theorem ok_Ruler_many (T : Txt K mg CB tkC tkH  CBadStyle CBadWords CBadBook CBadTold CBadPlan CBadText CBadCommand) (F : AtM K CRuler "many" "Ruler.many" s_Ruler_many ["self"]) (o_Ruler : OC K mg "Ruler" CRuler ["height_list", "edge_list"]) : DM P w K mg base CRuler "many" 1 ["self"] (spMany CRuler) := by
  refine DM.mk' F sc_Ruler_many (fun vs H Q E h => ?_) (fun f cdv Ar outer s H vs Q E hr h => ⟨_, (pss_one (ps_ret (pe_op op_add (pe_callB (r := Lay.rLen K) c_len rfl T.n_len PySem.boot_len (pa_cons (pe_fld (pv 0) rfl) pa_nil)) pe_int))), ?_⟩)
  · obtain ⟨x, hs, rfl, _⟩ := h
    rfl
  · obtain ⟨x, hs, rfl, ⟨dx, hl, el, h1, h2, h3⟩, q⟩ := h
    walk_at "go0"
    exact q
def spCellOf (CRuler : Addr) : Sp := fun vs H Q _ => ∃ (x : Addr) (hs : List Int) (line : Int), vs = [.ref x, .int line] ∧ RulerAt CRuler H x hs ∧ WK.HOk hs ∧ hs.length ≤ 63 ∧ Q (.int (WK.cnt hs line hs.length + 1)) H
abbrev s_Ruler_cell : Stmt := inClass (top 19) 4
theorem sc_Ruler_cell : FnScope ["self", "line", "low", "high", "middle"] ["self", "line"] (defScope s_Ruler_cell) := ⟨rfl, rfl, rfl, by decide +kernel, rfl, by decide +kernel, by decide +kernel⟩
theorem ok_Ruler_cell (T : Txt K mg CB tkC tkH  CBadStyle CBadWords CBadBook CBadTold CBadPlan CBadText CBadCommand) (F : AtM K CRuler "cell" "Ruler.cell" s_Ruler_cell ["self", "line"]) (o_Ruler : OC K mg "Ruler" CRuler ["height_list", "edge_list"]) : DM P w K mg base CRuler "cell" 1 ["self", "line"] (spCellOf CRuler) := by
  refine DM.mk' F sc_Ruler_cell (fun vs H Q E h => ?_) (fun f cdv Ar outer s H vs Q E hr h => ⟨_, (pss_cons (ps_set (i := 2) sc_Ruler_cell.nd rfl (Or.inl rfl) pe_int)
      (pss_cons (ps_set (i := 3) sc_Ruler_cell.nd rfl (Or.inl rfl) (pe_callB (r := Lay.rLen K) c_len rfl T.n_len PySem.boot_len (pa_cons (pe_fld (pv 0) rfl) pa_nil)))
      (pss_cons (ps_while (passes_of rfl) (pt_cmpR op_lt (pv 2) (pv 3) (nomark _)) (pss_cons (ps_set (i := 4) sc_Ruler_cell.nd rfl (Or.inl rfl) (pe_op op_fdiv (pe_op op_add (pv 2) (pv 3)) pe_int))
      (pss_one (ps_if (pt_cmpR op_le (pe_ix (r := rIxL K) ix_list (pe_fld (pv 0) rfl) (pv 4) (fun _ _ => rfl)) (pv 1) (nomark _)) (pss_one (ps_set (i := 2) sc_Ruler_cell.nd rfl (Or.inl rfl) (pe_op op_add (pv 4) pe_int))) (pss_one (ps_set (i := 3) sc_Ruler_cell.nd rfl (Or.inl rfl) (pv 4)))))))
      (pss_one (ps_ret (pe_op op_add (pv 2) pe_int)))))), ?_⟩)
  · obtain ⟨x, hs, line, rfl, _⟩ := h
    rfl
  · obtain ⟨x, hs, line, rfl, ⟨dx, hl, el, h1, h2, h3⟩, ho, hn, q⟩ := h
    have le : (WK.edges hs).length = hs.length := by unfold WK.edges; rw [List.length_map, List.length_range]
    walk_at "go0"
    rw [le]
    refine r_while (fun m s h => ∃ (lo hi : Nat) (v : Option V), s = [some (.ref x), some (.int line), some (.int lo), some (.int hi), v] ∧ h = H ∧ m = hi - lo ∧ lo ≤ hi ∧ hi ≤ hs.length ∧ (∀ i, i < lo → WK.ed hs i ≤ line) ∧ (∀ i, hi ≤ i → i < hs.length → line < WK.ed hs i)) _ ⟨0, hs.length, _, rfl, rfl, rfl, Nat.zero_le _, Nat.le_refl _, fun i z => absurd z (Nat.not_lt_zero _), fun i a b => absurd a (by omega)⟩ ?_
    rintro m s h ⟨lo, hi, v, rfl, rfl, rfl, l1, l2, b1, b2⟩
    walk_at "go"
    refine whB (fun c => ?_) (fun c => ?_)
    · walk_at "go"
      have m0 : 0 ≤ ((lo : Int) + hi) / 2 := by omega
      obtain ⟨mi, hmi⟩ : ∃ mi : Nat, ((lo : Int) + hi) / 2 = mi := ⟨(((lo : Int) + hi) / 2).toNat, by omega⟩
      have g : gi (WK.edges hs) (((lo : Int) + hi) / 2) = WK.ed hs mi := by
        unfold WK.edges
        rw [gi_range m0 (by omega), hmi, Int.toNat_natCast]
      rw [g, hmi]
      refine r_ite (fun c2 => ?_) (fun c2 => ?_)
      · walk_at "go"
        refine ⟨_, ?_, mi + 1, hi, _, rfl, rfl, rfl, by omega, l2, fun i hi2 => ?_, b2⟩
        · omega
        · by_cases z : i = mi
          · rw [z]; exact c2
          · have := WK.ed_lt ho (i := i) (j := mi) (by omega) (by omega)
            omega
      · walk_at "go"
        refine ⟨_, ?_, lo, mi, _, rfl, rfl, rfl, by omega, by omega, b1, fun i hi2 hi3 => ?_⟩
        · omega
        · by_cases z : i = mi
          · rw [z]; omega
          · have := WK.ed_lt ho (i := mi) (j := i) (by omega) hi3
            omega
    · walk_at "go"
      have e : lo = hi := by omega
      subst e
      rw [WK.cnt_split b1 hs.length l2 b2] at q
      exact q
def ckCell (hs : List Int) (c : Int) : Option Er := if 1 ≤ c ∧ c ≤ hs.length + 1 then none else some (.ruler c)
def spRCheck (CT CW CRuler : Addr) : Sp := fun vs H Q E => ∃ (x : Addr) (hs : List Int) (c : Int), vs = [.ref x, .int c] ∧ RulerAt CRuler H x hs ∧ -1000 ≤ c ∧ c ≤ 1000 ∧ (match ckCell hs c with
  | none => Q .non H
  | some e => Raised CT CW e H E)
abbrev s_Ruler_check_cell : Stmt := inClass (top 19) 7
theorem sc_Ruler_check_cell : FnScope ["self", "cell"] ["self", "cell"] (defScope s_Ruler_check_cell) := ⟨rfl, rfl, rfl, by decide +kernel, rfl, by decide +kernel, by decide +kernel⟩
theorem ok_Ruler_check (T : Txt K mg CB tkC tkH  CBadStyle CBadWords CBadBook CBadTold CBadPlan CBadText CBadCommand) (F : AtM K CRuler "check_cell" "Ruler.check_cell" s_Ruler_check_cell ["self", "cell"]) (o_Ruler : OC K mg "Ruler" CRuler ["height_list", "edge_list"]) (x_BadRuler : Exn P w K mg base "BadRuler" "place" CW) (d_Ruler_many : DM P w K mg base CRuler "many" 1 ["self"] (spMany CRuler)) :
    DM P w K mg base CRuler "check_cell" 3 ["self", "cell"] (spRCheck CT CW CRuler) := by
  refine DM.mk' F sc_Ruler_check_cell (fun vs H Q E h => ?_) (fun f cdv Ar outer s H vs Q E hr h => ⟨_, (pss_one (ps_if (pt_not (pt_chain op_le op_le pe_int (pv 1) (pe_mD0 d_Ruler_many o_Ruler.cl (hr.mono (by decide)) (passes_call (takes_of rfl rfl rfl rfl) (fun _ _ _ _ h => h)) (pv 0)))) (pss_one (ps_raiseE x_BadRuler rfl (hr.mono (by decide)) (takes_of rfl rfl rfl rfl) (pv 1))) pss_nil)), ?_⟩)
  · obtain ⟨x, hs, c, rfl, _⟩ := h
    rfl
  · obtain ⟨x, hs, c, rfl, hR, m0, m1, q⟩ := h
    have bad : ¬ (1 ≤ c ∧ c ≤ hs.length + 1) → tellV (.int c) ∧ ∀ d H2, Ex H H2 → H2 d = some (.xd [("place", .int c)]) → E (.ref CW) (some d) H2 := fun z => by
      unfold ckCell at q
      rw [if_neg z] at q
      exact ⟨tell_int (by omega) (by omega), q⟩
    have good : 1 ≤ c → c ≤ hs.length + 1 → Q .non H := fun z1 z2 => by
      unfold ckCell at q
      rw [if_pos ⟨z1, z2⟩] at q
      exact q
    clear q
    walk_at "go0"
    refine r_ite (fun h0 => ?_) (fun h0 => ?_)
    · obtain ⟨dx, hl, el, hx, h2, h3⟩ := id hR
      walk_at "go"
      refine r_rmth hx rfl ?_
      walk_at "go"
      refine ⟨x, hs, rfl, hR, ?_⟩
      walk_at "go"
      refine r_iteN (fun h1 => ?_) (fun h1 => ?_)
      · walk_at "go"
        exact bad fun z => h1 z.2
      · walk_at "go"
        exact good h0 h1
    · walk_at "go"
      exact bad fun z => h0 z.1
theorem edg_len {hs : List Int} : (WK.edges hs).length = hs.length := by unfold WK.edges; rw [List.length_map, List.length_range]
theorem edg_gi {hs : List Int} {c : Int} (h0 : 0 ≤ c) (h1 : c < hs.length) : gi (WK.edges hs) c = (hs.take (c + 1).toNat).sum := by
  unfold WK.edges
  rw [gi_range h0 h1]
  show (hs.take (c.toNat + 1)).sum = _
  rw [show c.toNat + 1 = (c + 1).toNat by omega]
def spFirst (CT CW CRuler : Addr) : Sp := fun vs H Q E => ∃ (x : Addr) (hs : List Int) (c : Int), vs = [.ref x, .int c] ∧ RulerAt CRuler H x hs ∧ -1000 ≤ c ∧ c ≤ 1000 ∧ (match ckCell hs c with
  | none => Q (.int (hs.take (c - 1).toNat).sum) H
  | some e => Raised CT CW e H E)
theorem ckCell_in {hs : List Int} {c : Int} (h : ckCell hs c = none) : 1 ≤ c ∧ c ≤ hs.length + 1 := by
  unfold ckCell at h
  split at h
  · assumption
  · cases h
abbrev s_Ruler_first : Stmt := inClass (top 19) 5
theorem sc_Ruler_first : FnScope ["self", "cell"] ["self", "cell"] (defScope s_Ruler_first) := ⟨rfl, rfl, rfl, by decide +kernel, rfl, by decide +kernel, by decide +kernel⟩
theorem ok_Ruler_first (T : Txt K mg CB tkC tkH  CBadStyle CBadWords CBadBook CBadTold CBadPlan CBadText CBadCommand) (F : AtM K CRuler "first" "Ruler.first" s_Ruler_first ["self", "cell"]) (o_Ruler : OC K mg "Ruler" CRuler ["height_list", "edge_list"]) (d_Ruler_check_cell : DM P w K mg base CRuler "check_cell" 3 ["self", "cell"] (spRCheck CT CW CRuler)) :
    DM P w K mg base CRuler "first" 4 ["self", "cell"] (spFirst CT CW CRuler) := by
  refine DM.mk' F sc_Ruler_first (fun vs H Q E h => ?_) (fun f cdv Ar outer s H vs Q E hr h => ⟨_, (pss_cons (ps_expr (pe_mD d_Ruler_check_cell o_Ruler.cl (hr.mono (by decide)) (passes_call (takes_of rfl rfl rfl rfl) (fun _ _ _ _ h => h)) (pv 0) (pa_cons (pv 1) pa_nil)))
      (pss_one (ps_ret (pe_ifExp (pt_cmpR op_eq (pv 1) pe_int (nomark _)) pe_int (pe_ix (r := rIxL K) ix_list (pe_fld (pv 0) rfl) (pe_op op_sub (pv 1) pe_int) (fun _ _ => rfl)))))), ?_⟩)
  · obtain ⟨x, hs, c, rfl, _⟩ := h
    rfl
  · obtain ⟨x, hs, c, rfl, hR, m0, m1, q⟩ := h
    obtain ⟨dx, hl, el, hx, h2, h3⟩ := id hR
    have le := edg_len (hs := hs)
    walk_at "go0"
    refine r_rmth hx rfl ?_
    walk_at "go"
    refine ⟨x, hs, c, rfl, hR, m0, m1, ?_⟩
    cases hc : ckCell hs c with
    | some e =>
      rw [hc] at q
      exact q
    | none =>
    rw [hc] at q
    obtain ⟨h0, h1⟩ := ckCell_in hc
    walk_at "go"
    refine r_tIf ?_
    walk_at "go"
    refine r_ite (fun z => ?_) (fun z => ?_)
    · walk_at "go"
      rw [z] at q
      exact q
    · walk_at "go"
      rw [edg_gi (by omega) (by omega), show c - 2 + 1 = c - 1 by omega]
      exact q
def lastV (hs : List Int) (c : Int) : V := if c = hs.length + 1 then .non else .int ((hs.take c.toNat).sum - 1)
def spLast (CT CW CRuler : Addr) : Sp := fun vs H Q E => ∃ (x : Addr) (hs : List Int) (c : Int), vs = [.ref x, .int c] ∧ RulerAt CRuler H x hs ∧ -1000 ≤ c ∧ c ≤ 1000 ∧ (match ckCell hs c with
  | none => Q (lastV hs c) H
  | some e => Raised CT CW e H E)
abbrev s_Ruler_last : Stmt := inClass (top 19) 6
theorem sc_Ruler_last : FnScope ["self", "cell"] ["self", "cell"] (defScope s_Ruler_last) := ⟨rfl, rfl, rfl, by decide +kernel, rfl, by decide +kernel, by decide +kernel⟩
theorem ok_Ruler_last (T : Txt K mg CB tkC tkH  CBadStyle CBadWords CBadBook CBadTold CBadPlan CBadText CBadCommand) (F : AtM K CRuler "last" "Ruler.last" s_Ruler_last ["self", "cell"]) (o_Ruler : OC K mg "Ruler" CRuler ["height_list", "edge_list"]) (d_Ruler_check_cell : DM P w K mg base CRuler "check_cell" 3 ["self", "cell"] (spRCheck CT CW CRuler))
    (d_Ruler_many : DM P w K mg base CRuler "many" 1 ["self"] (spMany CRuler)) : DM P w K mg base CRuler "last" 4 ["self", "cell"] (spLast CT CW CRuler) := by
  refine DM.mk' F sc_Ruler_last (fun vs H Q E h => ?_) (fun f cdv Ar outer s H vs Q E hr h => ⟨_, (pss_cons (ps_expr (pe_mD d_Ruler_check_cell o_Ruler.cl (hr.mono (by decide)) (passes_call (takes_of rfl rfl rfl rfl) (fun _ _ _ _ h => h)) (pv 0) (pa_cons (pv 1) pa_nil)))
      (pss_one (ps_ret (pe_ifExp (pt_cmpR op_eq (pv 1) (pe_mD0 d_Ruler_many o_Ruler.cl (hr.mono (by decide)) (passes_call (takes_of rfl rfl rfl rfl) (fun _ _ _ _ h => h)) (pv 0)) (nomark _)) pe_non (pe_op op_sub (pe_ix (r := rIxL K) ix_list (pe_fld (pv 0) rfl) (pe_op op_sub (pv 1) pe_int) (fun _ _ => rfl)) pe_int))))), ?_⟩)
  · obtain ⟨x, hs, c, rfl, _⟩ := h
    rfl
  · obtain ⟨x, hs, c, rfl, hR, m0, m1, q⟩ := h
    obtain ⟨dx, hl, el, hx, h2, h3⟩ := id hR
    have le := edg_len (hs := hs)
    walk_at "go0"
    refine r_rmth hx rfl ?_
    walk_at "go"
    refine ⟨x, hs, c, rfl, hR, m0, m1, ?_⟩
    cases hc : ckCell hs c with
    | some e =>
      rw [hc] at q
      exact q
    | none =>
    rw [hc] at q
    obtain ⟨h0, h1⟩ := ckCell_in hc
    unfold lastV at q
    walk_at "go"
    refine r_tIf ?_
    walk_at "go"
    refine r_rmth hx rfl ?_
    walk_at "go"
    refine ⟨x, hs, rfl, hR, ?_⟩
    walk_at "go"
    refine r_ite (fun z => ?_) (fun z => ?_)
    · walk_at "go"
      rw [if_pos z] at q
      exact q
    · walk_at "go"
      rw [edg_gi (by omega) (by omega), show c - 1 + 1 = c by omega]
      rw [if_neg z] at q
      exact q
def spHts (K : PySem.W.Frag) (CRuler : Addr) : Sp := fun vs H Q _ => ∃ (x : Addr) (hs : List Int), vs = [.ref x] ∧ RulerAt CRuler H x hs ∧ ∀ l H2, H l = none → Ex H H2 → H2 l = some (.lst (hs.map V.int)) → Q (.ref l) H2
abbrev s_Ruler_heights : Stmt := inClass (top 19) 2
theorem sc_Ruler_heights : FnScope ["self"] ["self"] (defScope s_Ruler_heights) := ⟨rfl, rfl, rfl, by decide +kernel, rfl, by decide +kernel, by decide +kernel⟩
theorem ok_Ruler_heights (T : Txt K mg CB tkC tkH  CBadStyle CBadWords CBadBook CBadTold CBadPlan CBadText CBadCommand) (F : AtM K CRuler "heights" "Ruler.heights" s_Ruler_heights ["self"]) (o_Ruler : OC K mg "Ruler" CRuler ["height_list", "edge_list"]) : DM P w K mg base CRuler "heights" 1 ["self"] (spHts K CRuler) := by
  refine DM.mk' F sc_Ruler_heights (fun vs H Q E h => ?_) (fun f cdv Ar outer s H vs Q E hr h => ⟨_, (pss_one (ps_ret (pe_callTy (r := Lay.rList K) c_list rfl T.n_list (by decide +kernel) (pa_cons (pe_fld (pv 0) rfl) pa_nil)))), ?_⟩)
  · obtain ⟨x, hs, rfl, _⟩ := h
    rfl
  · obtain ⟨x, hs, rfl, ⟨dx, hl, el, h1, h2, h3⟩, q⟩ := h
    walk_at "go0"
    exact r_list (L2.SqL.of h2) q
def spEdg (K : PySem.W.Frag) (CRuler : Addr) : Sp := fun vs H Q _ => ∃ (x : Addr) (hs : List Int), vs = [.ref x] ∧ RulerAt CRuler H x hs ∧ ∀ l H2, H l = none → Ex H H2 → H2 l = some (.lst ((WK.edges hs).map V.int)) → Q (.ref l) H2
abbrev s_Ruler_edges : Stmt := inClass (top 19) 3
theorem sc_Ruler_edges : FnScope ["self"] ["self"] (defScope s_Ruler_edges) := ⟨rfl, rfl, rfl, by decide +kernel, rfl, by decide +kernel, by decide +kernel⟩
theorem ok_Ruler_edges (T : Txt K mg CB tkC tkH  CBadStyle CBadWords CBadBook CBadTold CBadPlan CBadText CBadCommand) (F : AtM K CRuler "edges" "Ruler.edges" s_Ruler_edges ["self"]) (o_Ruler : OC K mg "Ruler" CRuler ["height_list", "edge_list"]) : DM P w K mg base CRuler "edges" 1 ["self"] (spEdg K CRuler) := by
  refine DM.mk' F sc_Ruler_edges (fun vs H Q E h => ?_) (fun f cdv Ar outer s H vs Q E hr h => ⟨_, (pss_one (ps_ret (pe_callTy (r := Lay.rList K) c_list rfl T.n_list (by decide +kernel) (pa_cons (pe_fld (pv 0) rfl) pa_nil)))), ?_⟩)
  · obtain ⟨x, hs, rfl, _⟩ := h
    rfl
  · obtain ⟨x, hs, rfl, ⟨dx, hl, el, h1, h2, h3⟩, q⟩ := h
    walk_at "go0"
    exact r_list (L2.SqL.of h3) q
def spFits (CRuler : Addr) : Sp := fun vs H Q _ => ∃ (x : Addr) (hs : List Int) (a b : Int), vs = [.ref x, .int a, .int b] ∧ RulerAt CRuler H x hs ∧ WK.HOk hs ∧ hs.length ≤ 63 ∧ Q (.bl (decide (WK.cnt hs a hs.length = WK.cnt hs (a + b - 1) hs.length))) H
abbrev s_Ruler_fits : Stmt := inClass (top 19) 9
theorem sc_Ruler_fits : FnScope ["self", "line", "lines"] ["self", "line", "lines"] (defScope s_Ruler_fits) := ⟨rfl, rfl, rfl, by decide +kernel, rfl, by decide +kernel, by decide +kernel⟩
theorem ok_Ruler_fits (T : Txt K mg CB tkC tkH  CBadStyle CBadWords CBadBook CBadTold CBadPlan CBadText CBadCommand) (F : AtM K CRuler "fits" "Ruler.fits" s_Ruler_fits ["self", "line", "lines"]) (o_Ruler : OC K mg "Ruler" CRuler ["height_list", "edge_list"]) (d_Ruler_cell : DM P w K mg base CRuler "cell" 1 ["self", "line"] (spCellOf CRuler)) :
    DM P w K mg base CRuler "fits" 2 ["self", "line", "lines"] (spFits CRuler) := by
  refine DM.mk' F sc_Ruler_fits (fun vs H Q E h => ?_) (fun f cdv Ar outer s H vs Q E hr h => ⟨_, (pss_one (ps_ret (pe_cmpR op_eq (pe_mD d_Ruler_cell o_Ruler.cl (hr.mono (by decide)) (passes_call (takes_of rfl rfl rfl rfl) (fun _ _ _ _ h => h)) (pv 0) (pa_cons (pv 1) pa_nil)) (pe_mD d_Ruler_cell o_Ruler.cl (hr.mono (by decide)) (passes_call (takes_of rfl rfl rfl rfl) (fun _ _ _ _ h => h)) (pv 0) (pa_cons (pe_op op_sub (pe_op op_add (pv 1) (pv 2)) pe_int) pa_nil)) (nomark _)))), ?_⟩)
  · obtain ⟨x, hs, a, b, rfl, _⟩ := h
    rfl
  · obtain ⟨x, hs, a, b, rfl, hR, ho, hn, q⟩ := h
    obtain ⟨dx, hl, el, hx, h2, h3⟩ := id hR
    walk_at "go0"
    refine r_rmth hx rfl ?_
    walk_at "go"
    refine ⟨x, hs, a, rfl, hR, ho, hn, ?_⟩
    walk_at "go"
    refine r_rmth hx rfl ?_
    walk_at "go"
    refine ⟨x, hs, a + b - 1, rfl, hR, ho, hn, ?_⟩
    walk_at "go"
    rw [decide_eq_decide.mpr (show ((WK.cnt hs a hs.length : Int) + 1 = (WK.cnt hs (a + b - 1) hs.length : Int) + 1) ↔ WK.cnt hs a hs.length = WK.cnt hs (a + b - 1) hs.length by omega)]
    exact q
def nxV (hs : List Int) (line : Int) : V := match (WK.edges hs).find? (fun e => decide (line ≤ e)) with
  | some e => .int e
  | none => .non
def spNext (CRuler : Addr) : Sp := fun vs H Q _ => ∃ (x : Addr) (hs : List Int) (line : Int), vs = [.ref x, .int line] ∧ RulerAt CRuler H x hs ∧ WK.HOk hs ∧ hs.length ≤ 63 ∧ Q (nxV hs line) H
abbrev s_Ruler_next_edge : Stmt := inClass (top 19) 8
theorem sc_Ruler_next_edge : FnScope ["self", "line", "cell"] ["self", "line"] (defScope s_Ruler_next_edge) := ⟨rfl, rfl, rfl, by decide +kernel, rfl, by decide +kernel, by decide +kernel⟩
theorem ok_Ruler_next (T : Txt K mg CB tkC tkH  CBadStyle CBadWords CBadBook CBadTold CBadPlan CBadText CBadCommand) (F : AtM K CRuler "next_edge" "Ruler.next_edge" s_Ruler_next_edge ["self", "line"]) (o_Ruler : OC K mg "Ruler" CRuler ["height_list", "edge_list"]) (d_Ruler_cell : DM P w K mg base CRuler "cell" 1 ["self", "line"] (spCellOf CRuler))
    (d_Ruler_many : DM P w K mg base CRuler "many" 1 ["self"] (spMany CRuler)) : DM P w K mg base CRuler "next_edge" 2 ["self", "line"] (spNext CRuler) := by
  refine DM.mk' F sc_Ruler_next_edge (fun vs H Q E h => ?_) (fun f cdv Ar outer s H vs Q E hr h => ⟨_, (pss_cons (ps_if (pt_cmpR (r := rIn K false) op_in_seq (pv 1) (pe_fld (pv 0) rfl) rfl) (pss_one (ps_ret (pv 1))) pss_nil)
      (pss_cons (ps_set (i := 2) sc_Ruler_next_edge.nd rfl (Or.inl rfl) (pe_mD d_Ruler_cell o_Ruler.cl (hr.mono (by decide)) (passes_call (takes_of rfl rfl rfl rfl) (fun _ _ _ _ h => h)) (pv 0) (pa_cons (pv 1) pa_nil)))
      (pss_one (ps_ret (pe_ifExp (pt_cmpR op_eq (pv 2) (pe_mD0 d_Ruler_many o_Ruler.cl (hr.mono (by decide)) (passes_call (takes_of rfl rfl rfl rfl) (fun _ _ _ _ h => h)) (pv 0)) (nomark _)) pe_non (pe_ix (r := rIxL K) ix_list (pe_fld (pv 0) rfl) (pe_op op_sub (pv 2) pe_int) (fun _ _ => rfl))))))), ?_⟩)
  · obtain ⟨x, hs, line, rfl, _⟩ := h
    rfl
  · obtain ⟨x, hs, line, rfl, hR, ho, hn, q⟩ := h
    obtain ⟨dx, hl, el, hx, h2, h3⟩ := id hR
    walk_at "go0"
    have le := edg_len (hs := hs)
    unfold nxV at q
    refine r_inI (L2.SqL.of h3) ?_
    walk_at "go"
    refine r_ite (fun c => ?_) (fun c => ?_)
    · rw [WR.nx_in ho c] at q
      walk_at "go"
      exact q
    · rw [WR.nx_no ho c] at q
      have cs := (WK.cnt_spec ho line).1
      walk_at "go"
      refine r_rmth hx rfl ?_
      walk_at "go"
      refine ⟨x, hs, line, rfl, hR, ho, hn, ?_⟩
      walk_at "go"
      refine r_tIf ?_
      walk_at "go"
      refine r_rmth hx rfl ?_
      walk_at "go"
      refine ⟨x, hs, rfl, hR, ?_⟩
      walk_at "go"
      refine r_ite (fun z => ?_) (fun z => ?_)
      · rw [if_pos (by omega)] at q
        walk_at "go"
        exact q
      · rw [if_neg (by omega)] at q
        walk_at "go"
        rw [edg_gi (by omega) (by omega), show (WK.cnt hs line hs.length : Int) + 1 - 1 + 1 = ((WK.cnt hs line hs.length + 1 : Nat) : Int) by omega, Int.toNat_natCast]
        exact q
end
end K00
namespace K00
open PySem PySem.Spec PyProof.Rows L2 Evl Lay
section
variable {P : Program} {w : World} {K : PySem.W.Frag} {mg : Str → Option Value} {base : Heap} {CB CT CW CRuler CBadStyle CBadWords CBadBook CBadTold CBadPlan CBadText CBadCommand cL__law_ends_right PL__law_ends_right cL__law_bounds_right PL__law_bounds_right : Addr} {tkC tkH : Tok}
/-! ### the law's own -/
def spPurse (K : PySem.W.Frag) : Sp := fun vs H Q _ => ∃ (a : Addr) (ns : List Int) (i : Int), vs = [.ref a, .int i] ∧ SqL K H a (ns.map V.int) ∧ 0 ≤ i ∧ ns.length ≤ 63 ∧ ∀ p H2, H p = none → Ex H H2 → Pur H2 p → Q (.ref p) H2
abbrev s__law_purse : Stmt := top 21
theorem sc__law_purse : FnScope ["script", "at", "cell", "size", "one"] ["script", "at"] (defScope s__law_purse) := ⟨rfl, rfl, rfl, by decide +kernel, rfl, by decide +kernel, by decide +kernel⟩
theorem ok_purse (T : Txt K mg CB tkC tkH  CBadStyle CBadWords CBadBook CBadTold CBadPlan CBadText CBadCommand) (F : At K mg "_law_purse" s__law_purse ["script", "at"]) : Def P w K mg base "_law_purse" 1 ["script", "at"] (spPurse K) := by
  refine Def.mk' F sc__law_purse (fun vs H Q E h => ?_) (fun f cdv Ar outer s H vs Q E hr h => ⟨_, (pss_cons (ps_set (i := 2) sc__law_purse.nd rfl (Or.inl rfl) (pe_ifExp (pt_cmpR op_lt (pv 1) (pe_callB (r := Lay.rLen K) c_len rfl T.n_len PySem.boot_len (pa_cons (pv 0) pa_nil)) (nomark _)) (pe_callTy c_int rfl T.n_int (by decide +kernel) (pa_cons (pe_ix (r := rIxL K) ix_list (pv 0) (pv 1) (fun _ _ => rfl)) pa_nil)) (pe_op op_mul pe_int (pe_callB (r := rSum K) (cr_sum rfl) rfl T.n_sum (by decide +kernel) (pa_cons (pe_lc (own := [("one", 4)]) (g := gName 4) (tt := tYes) rfl sc__law_purse.nd (pi_list (pe_slice (r := rSlL K) sl_list (pv 0) po_none (po_some pe_int))) (blkOk_by (own := [("one", 4)]) (N := ["script", "at", "cell", "size", "one"]) (sc := defScope s__law_purse) (by decide +kernel)) (fun _ _ _ _ _ => (pg_name (i := 4) sc__law_purse.nd rfl (Or.inl rfl))) (fun _ _ _ _ _ => pts_nil) (fun _ _ _ _ _ => (pe_callTy c_int rfl T.n_int (by decide +kernel) (pa_cons (pv 4) pa_nil)))) pa_nil)))))
      (pss_cons (ps_set (i := 3) sc__law_purse.nd rfl (Or.inl rfl) (pe_op op_add (pe_op op_mul pe_int (pe_callB c_abs rfl T.n_abs (by decide +kernel) (pa_cons (pv 2) pa_nil))) (pe_ifExp (pt_cmpR op_lt (pv 2) pe_int (nomark _)) pe_int pe_int)))
      (pss_one (ps_ret (pe_lst (pa_cons (pe_ifExp (pt_cmpR op_ge (pv 3) (pe_op op_pow pe_int pe_int) (nomark _)) (pv 3) pe_int) (pa_cons (pe_op op_mod (pe_callTy c_int rfl T.n_int (by decide +kernel) (pa_cons (pe_op op_add (pe_op op_add (pv 3) (pe_op op_mul (pv 1) pe_int)) pe_int) pa_nil)) pe_int) (pa_cons (pv 1) pa_nil)))))))), ?_⟩)
  · obtain ⟨a, ns, i, rfl, _⟩ := h
    rfl
  · obtain ⟨a, ns, i, rfl, ha, h0, hl, q⟩ := h
    walk_at "go0"
    refine r_K (fun Q' k => ?_) (fun c H1 e1 => ?_)
    · refine r_tIf ?_
      walk_at "go"
      refine r_ite (fun c => ?_) (fun c => ?_)
      · walk_at "go"
        exact k _ H (Ex.refl H)
      · walk_at "go"
        refine r_slL ha fun p H1 hp e1 h1 => ?_
        rw [cut_ints] at h1
        walk_at "go"
        refine lcI (by walk_at "sq") (fun l i h => ∃ zs : List Int, zs.length = i ∧ h l = some (.lst (zs.map V.int)) ∧ Ex H1 h ∧ H1 l = none) ?_ ?_ ?_ ?_ (fun _ => rfl)
        · exact fun l h hl e hn => ⟨[], rfl, hn, e, hl⟩
        · intro l i h _ ⟨zs, _, _, e, _⟩
          walk_at "sq"
        · intro l i z h hz ⟨zs, hi, hl, e, ln⟩
          walk_at "go"
          have hm : i < 64 := by
            have a := (List.getElem?_eq_some_iff.mp hz).1
            rw [List.length_take, List.length_drop] at a
            omega
          exact appW hl (by rw [List.length_map]; omega) fun H5 e5 h5 => ⟨zs ++ [z], by rw [List.length_append, hi]; rfl, by rw [List.map_append]; exact h5, ExB.ex e e5 ln, ln⟩
        · intro l h ⟨zs, _, hl, e, _⟩
          walk_at "go"
          refine r_sum (by walk_at "sq") ?_
          walk_at "go"
          exact k _ h (e1.trans e)
    · walk_at "go"
      refine r_K (fun Q' k => ?_) (fun c3 H3 e3 => ?_)
      · refine r_tIf ?_
        walk_at "go"
        refine r_ite (fun _ => ?_) (fun _ => ?_)
        · walk_at "go"
          exact k _ H1 (Ex.refl H1)
        · walk_at "go"
          exact k _ H1 (Ex.refl H1)
      walk_at "go"
      exact r_newL (len3 rfl) fun p H4 hp e4 h4 => q p H4 (fresh_back (e1.trans e3) hp) (e1.trans (e3.trans e4)) ⟨_, _, _, h4⟩
def spDraw : Sp := fun vs H Q _ => ∃ (p : Addr) (n : Int), vs = [.ref p, .int n] ∧ 0 < n ∧ (n < 1073741824 ∨ n = 1000000000000000000000000000000) ∧ Pur H p ∧ ∀ r H2, 0 ≤ r → r < n → ExB p H H2 → Pur H2 p → Q (.int r) H2
abbrev s__law_draw : Stmt := top 22
theorem sc__law_draw : FnScope ["purse", "many", "found"] ["purse", "many"] (defScope s__law_draw) := ⟨rfl, rfl, rfl, by decide +kernel, rfl, by decide +kernel, by decide +kernel⟩
theorem ok_draw (T : Txt K mg CB tkC tkH  CBadStyle CBadWords CBadBook CBadTold CBadPlan CBadText CBadCommand) (F : At K mg "_law_draw" s__law_draw ["purse", "many"]) : Def P w K mg base "_law_draw" 1 ["purse", "many"] spDraw := by
  refine Def.mk' F sc__law_draw (fun vs H Q E h => ?_) (fun f cdv Ar outer s H vs Q E hr h => ⟨_, (pss_cons (ps_if (pt_cmpR op_gt (pe_ix (r := rIxL K) ix_list (pv 0) pe_int (fun _ _ => rfl)) pe_int (nomark _)) (pss_cons (ps_set (i := 2) sc__law_draw.nd rfl (Or.inl rfl) (pe_op op_mod (pe_callTy c_int rfl T.n_int (by decide +kernel) (pa_cons (pe_ix (r := rIxL K) ix_list (pv 0) pe_int (fun _ _ => rfl)) pa_nil)) (pv 1)))
      (pss_cons (ps_asg (pe_op op_fdivW (pe_ix (r := rIxL K) ix_list (pv 0) pe_int (fun _ _ => rfl)) (pv 1)) (pg_sub (pv 0) pe_int set_list))
      (pss_one (ps_ret (pv 2))))) pss_nil)
      (pss_cons (ps_augS (pv 0) pe_int get_list pe_int ip_add set_list)
      (pss_cons (ps_asg (pe_op op_mod (pe_callTy c_int rfl T.n_int (by decide +kernel) (pa_cons (pe_op op_add (pe_op op_mul (pe_ix (r := rIxL K) ix_list (pv 0) pe_int (fun _ _ => rfl)) pe_int) (pe_op op_mul (pe_ix (r := rIxL K) ix_list (pv 0) pe_int (fun _ _ => rfl)) pe_int)) pa_nil)) pe_int) (pg_sub (pv 0) pe_int set_list))
      (pss_one (ps_ret (pe_op op_mod (pe_op op_fdiv (pe_op op_mod (pe_callTy c_int rfl T.n_int (by decide +kernel) (pa_cons (pe_op op_add (pe_op op_mul (pe_ix (r := rIxL K) ix_list (pv 0) pe_int (fun _ _ => rfl)) pe_int) (pe_op op_mul (pe_ix (r := rIxL K) ix_list (pv 0) pe_int (fun _ _ => rfl)) pe_int)) pa_nil)) pe_int) pe_int) (pv 1))))))), ?_⟩)
  · obtain ⟨p, n, rfl, _⟩ := h
    rfl
  · obtain ⟨p, n, rfl, h0, h1, ⟨a, b, c, hp⟩, q⟩ := h
    have lg : n.natAbs.log2 < 9000 := by
      have k : n.natAbs.log2 < 100 := (Nat.log2_lt (by omega)).mpr (by omega)
      omega
    walk_at "go0"
    refine r_ite (fun c => ?_) (fun c => ?_)
    · walk_at "go"
      refine r_setL hp (by decide) (by simp) fun H2 e2 h2 _ => ?_
      walk_at "go"
      exact q _ H2 (Int.emod_nonneg _ (by omega)) (Int.emod_lt_of_pos _ h0) e2 ⟨_, _, _, h2⟩
    · walk_at "go"
      refine r_setL hp (by decide) (by simp) fun H2 e2 h2 _ => ?_
      walk_at "go"
      refine r_setL h2 (by decide) (by simp) fun H3 e3 h3 _ => ?_
      walk_at "go"
      exact q _ H3 (Int.emod_nonneg _ (by omega)) (Int.emod_lt_of_pos _ h0) (e2.trans e3) ⟨_, _, _, h3⟩
end
end K00
namespace K00
open PySem PySem.Spec PyProof.Rows L2 Evl Lay
section
variable {P : Program} {w : World} {K : PySem.W.Frag} {mg : Str → Option Value} {base : Heap} {CB CT CW CRuler CBadStyle CBadWords CBadBook CBadTold CBadPlan CBadText CBadCommand cL__law_ends_right PL__law_ends_right cL__law_bounds_right PL__law_bounds_right : Addr} {tkC tkH : Tok}
/-! ### refused -/
abbrev TT0 (P0 P1 : Addr) : List (Addr × Str) := [(P0, lamQ "_law_ends_right"), (P1, lamQ "_law_bounds_right")]
theorem tt_m0 {P0 P1 : Addr} : (P0, lamQ "_law_ends_right") ∈ TT0 P0 P1 := List.mem_cons_self
theorem tt_m1 {P0 P1 : Addr} : (P1, lamQ "_law_bounds_right") ∈ TT0 P0 P1 := List.mem_cons_of_mem _ List.mem_cons_self
theorem tt_u0 {P0 P1 : Addr} (h : P0 ≠ P1) : ∀ p ∈ TT0 P0 P1, p.1 = P0 → p.2 = lamQ "_law_ends_right" := fun p hp e => by
  rcases List.mem_cons.mp hp with z | z
  · rw [z]
  · rw [List.mem_singleton.mp z] at e
    exact absurd e.symm h
theorem tt_u1 {P0 P1 : Addr} (h : P0 ≠ P1) : ∀ p ∈ TT0 P0 P1, p.1 = P1 → p.2 = lamQ "_law_bounds_right" := fun p hp e => by
  rcases List.mem_cons.mp hp with z | z
  · rw [z] at e
    exact absurd e h
  · rw [List.mem_singleton.mp z]
def dead3 : Addr → Value → Option Addr → TS := fun _ _ _ => fun _ _ _ => False
def L00 (CT CW CBadStyle CBadWords CBadBook CBadTold CBadPlan CBadText CBadCommand : Addr) : List ClA :=
  [(.ref CT, 1, retF "many" CT "what" 1), (.ref CW, 1, retF "ruler" CW "place" 1), (.ref CBadStyle, 1, dead3), (.ref CBadWords, 1, dead3), (.ref CBadBook, 1, dead3), (.ref CBadTold, 1, dead3), (.ref CBadPlan, 1, dead3), (.ref CBadText, 1, dead3), (.ref CBadCommand, 1, dead3)]
abbrev s__law_refused : Stmt := top 24
theorem sc__law_refused : FnScope ["action", "e"] ["action"] (defScope s__law_refused) := ⟨rfl, rfl, rfl, by decide +kernel, rfl, by decide +kernel, by decide +kernel⟩
theorem ref_gives {X : Cx} (T : Txt X.K X.mg CB tkC tkH CBadStyle CBadWords CBadBook CBadTold CBadPlan CBadText CBadCommand) (x_TooMany : Exn P w X.K X.mg base "TooMany" "what" CT) (x_BadRuler : Exn P w X.K X.mg base "BadRuler" "place" CW) {q : Str} (g : Addr) (cdg : Value) :
    LamX.GivesTo X ["action", "e"] "_law_refused" (defScope s__law_refused) g cdg (defBody s__law_refused) "action" q (TTry X.K ["action", "e"] (L00 CT CW CBadStyle CBadWords CBadBook CBadTold CBadPlan CBadText CBadCommand) (tRet (tC .non))) := by
  refine try_gives ?ga ?gb ?gc ?gd g cdg
  case ga => decide +kernel
  case gb => exact fun f => rfl
  case gc => exact fun g cdg s H => (HdsA.cons ⟨rfl, by decide, Or.inl x_TooMany.g⟩ (i := 1) rfl rfl (fun a oe cls d pn hz hf => (pss_one (ps_ret (pe_tup (pa_cons pe_str (pa_cons (pe_xf x_TooMany.xf x_TooMany.no hz hf (pv 1)) pa_nil)))))) (HdsA.cons ⟨rfl, by decide, Or.inl x_BadRuler.g⟩ (i := 1) rfl rfl (fun a oe cls d pn hz hf => (pss_one (ps_ret (pe_tup (pa_cons pe_str (pa_cons (pe_xf x_BadRuler.xf x_BadRuler.no hz hf (pv 1)) pa_nil)))))) (HdsA.cons ⟨rfl, by decide, Or.inl T.g_BadStyle⟩ (i := 1) rfl rfl (fun a oe cls d pn hz hf => (pss_one ps_dead)) (HdsA.cons ⟨rfl, by decide, Or.inl T.g_BadWords⟩ (i := 1) rfl rfl (fun a oe cls d pn hz hf => (pss_one ps_dead)) (HdsA.cons ⟨rfl, by decide, Or.inl T.g_BadBook⟩ (i := 1) rfl rfl (fun a oe cls d pn hz hf => (pss_one ps_dead)) (HdsA.cons ⟨rfl, by decide, Or.inl T.g_BadTold⟩ (i := 1) rfl rfl (fun a oe cls d pn hz hf => (pss_one ps_dead)) (HdsA.cons ⟨rfl, by decide, Or.inl T.g_BadPlan⟩ (i := 1) rfl rfl (fun a oe cls d pn hz hf => (pss_one ps_dead)) (HdsA.cons ⟨rfl, by decide, Or.inl T.g_BadText⟩ (i := 1) rfl rfl (fun a oe cls d pn hz hf => (pss_one ps_dead)) (HdsA.cons ⟨rfl, by decide, Or.inl T.g_BadCommand⟩ (i := 1) rfl rfl (fun a oe cls d pn hz hf => (pss_one ps_dead)) HdsA.nil)))))))))
  case gd => exact fun g cdg s H => pss_one (ps_ret pe_non)
def erT : Er → List V
  | .many s => [.str "many", .str s]
  | .ruler p => [.str "ruler", .int p]
def erD : Er → PyData
  | .many s => .tuple [.str "many", .str s]
  | .ruler p => .tuple [.str "ruler", .int p]
theorem dp_er {K : PySem.W.Frag} {h : Hp} {t : Addr} {e : Er} (ht : h t = some (.tup (erT e))) : Dp K h (.ref t) (erD e) := by
  cases e with
  | many s => exact .tup (L2.SqT.of ht) (.cons (.str _) (.cons (.str _) .nil))
  | ruler s => exact .tup (L2.SqT.of ht) (.cons (.str _) (.cons (.int _) .nil))
/-- the words that are told -/
def okE : Er → Prop
  | .many s => PyData.strOk s = true
  | .ruler _ => True
theorem sh_er {e : Er} (h : okE e) : SeqAt.shaped (erD e) = true := by
  cases e with
  | many s =>
    have h' : PyData.strOk s = true := h
    have m : PyData.strOk ("many" : Str) = true := by decide +kernel
    exact shape_of (by simp [erD, PyData.canLay0, PyData.canLayAll0, h', m]) (by simp [erD, PyData.depth, PyData.depthAll])
  | ruler s =>
    have m : PyData.strOk ("ruler" : Str) = true := by decide +kernel
    exact shape_of (by simp [erD, PyData.canLay0, PyData.canLayAll0, m]) (by simp [erD, PyData.depth, PyData.depthAll])
def RK (Q : VK) (e : Er) (H2 : Hp) : Prop := ∀ t H3, Ex H2 H3 → H3 t = some (.tup (erT e)) → Q (.ref t) H3
theorem r_refE {Ta : List (Addr × Str)} {t : XK → TE} {σ : L2.St} {H : Hp} {Q : VK} (x_TooMany : Exn P w K mg base "TooMany" "what" CT) (x_BadRuler : Exn P w K mg base "BadRuler" "place" CW) (x_WT : PySem.W.exmOne K (.ref CW) (.ref CT) = some false) (hT : LamX.Tabs Ta H)
    (h : ∀ H1 (E' : XK), LamX.ExtN H H1 → LamX.Tabs Ta H1 → (∀ e H2, RK Q e H2 → Raised CT CW e H2 E') → t E' σ H1 (fun _ H2 => Q .non H2)) :
    LamX.tLam Ta (TTry K ["action", "e"] (L00 CT CW CBadStyle CBadWords CBadBook CBadTold CBadPlan CBadText CBadCommand) (tRet (tC .non))) t σ H Q := by
  refine r_lam hT fun H1 eN hT1 => ?_
  intro f
  refine h H1 _ eN hT1 fun e H2 k => ?_
  cases e with
  | many s => exact fun d H3 e3 hd σ' hl => wm_yes x_TooMany.te hd (by rw [hl]; decide) fun t H4 e4 ht => k t H4 (e3.trans e4) ht
  | ruler s => exact fun d H3 e3 hd σ' hl => wm_no x_WT (wm_yes x_BadRuler.te hd (by rw [hl]; decide) fun t H4 e4 ht => k t H4 (e3.trans e4) ht)
/-! ### the law's own -/
def spHeights : Sp := fun vs H Q _ => ∃ (p : Addr) (n a b : Int), vs = [.ref p, .int n, .int a, .int b] ∧ 0 ≤ n ∧ n ≤ 64 ∧ 1 ≤ a ∧ a ≤ b ∧ b ≤ 1000 ∧ Pur H p ∧ ∀ l H2 (ns : List Int), H l = none → ExB p H H2 → Pur H2 p → l ≠ p → (ns.length : Int) = n → (∀ z ∈ ns, a ≤ z ∧ z ≤ b) → H2 l = some (.lst (ns.map V.int)) → Q (.ref l) H2
abbrev s__law_heights : Stmt := top 23
theorem sc__law_heights : FnScope ["purse", "many", "least", "most", "place"] ["purse", "many", "least", "most"] (defScope s__law_heights) := ⟨rfl, rfl, rfl, by decide +kernel, rfl, by decide +kernel, by decide +kernel⟩
theorem ok_heights (T : Txt K mg CB tkC tkH  CBadStyle CBadWords CBadBook CBadTold CBadPlan CBadText CBadCommand) (F : At K mg "_law_heights" s__law_heights ["purse", "many", "least", "most"]) (d__law_draw : Def P w K mg base "_law_draw" 1 ["purse", "many"] spDraw) : Def P w K mg base "_law_heights" 2 ["purse", "many", "least", "most"] spHeights := by
  refine Def.mk' F sc__law_heights (fun vs H Q E h => ?_) (fun f cdv Ar outer s H vs Q E hr h => ⟨_, (pss_one (ps_ret (pe_lc (own := [("place", 4)]) (g := gName 4) (tt := tYes) rfl sc__law_heights.nd (pi_range1 rfl T.n_range (pa_cons (pv 1) pa_nil)) (blkOk_by (own := [("place", 4)]) (N := ["purse", "many", "least", "most", "place"]) (sc := defScope s__law_heights) (by decide +kernel)) (fun _ _ _ _ _ => (pg_name (i := 4) sc__law_heights.nd rfl (Or.inl rfl))) (fun _ _ _ _ _ => pts_nil) (fun _ _ _ _ _ => (pe_op op_add (pv 2) (pe_d d__law_draw (hr.mono (by decide)) passL (pa_cons (pv 0) (pa_cons (pe_op op_add (pe_op op_sub (pv 3) (pv 2)) pe_int) pa_nil)))))))), ?_⟩)
  · obtain ⟨p, n, a, b, rfl, _⟩ := h
    rfl
  · obtain ⟨p, n, a, b, rfl, h0, h1, ha, hab, hb, hp, q⟩ := h
    walk_at "go0"
    refine lcR1 (by omega) (by omega) (fun l i h => ∃ zs : List Int, zs.length = i ∧ (∀ z ∈ zs, a ≤ z ∧ z ≤ b) ∧ h l = some (.lst (zs.map V.int)) ∧ ExB p H h ∧ Pur h p ∧ H l = none) ?_ ?_ ?_ (fun _ => rfl)
    · exact fun l h hl e hn => ⟨[], rfl, fun z hz => (List.not_mem_nil hz).elim, hn, Lay.Ex.b e, hp.ex e, hl⟩
    · intro l i h hi ⟨zs, hz, hall, hl, e, hp3, ln⟩
      have nlp : l ≠ p := by walk_at "ne"
      walk_at "go"
      refine ⟨p, _, rfl, by omega, by omega, hp3, fun r H4 r0 r1 e4 hp4 => ?_⟩
      walk_at "go"
      refine appW (e4 _ _ nlp hl) (by rw [List.length_map]; omega) fun H5 e5 h5 => ⟨zs ++ [a + r], by rw [List.length_append, hz]; rfl, fun z hz' => ?_, by rw [List.map_append]; exact h5, ExB.exB (e.trans e4) e5 ln, hp4.upd e5 nlp.symm, ln⟩
      rcases List.mem_append.mp hz' with q | q
      · exact hall z q
      · rw [List.mem_singleton.mp q]
        omega
    · intro l h ⟨zs, hz, hall, hl, e, hp3, ln⟩
      walk_at "go"
      exact q l h zs ln e hp3 (by walk_at "ne") (by omega) hall hl
def spIsW : Sp := fun vs H Q _ => ∃ i : Int, vs = [.int i] ∧ Q (.bl true) H
abbrev s__law_is_whole : Stmt := top 25
theorem sc__law_is_whole : FnScope ["told"] ["told"] (defScope s__law_is_whole) := ⟨rfl, rfl, rfl, by decide +kernel, rfl, by decide +kernel, by decide +kernel⟩
theorem ok_lis (T : Txt K mg CB tkC tkH  CBadStyle CBadWords CBadBook CBadTold CBadPlan CBadText CBadCommand) (F : At K mg "_law_is_whole" s__law_is_whole ["told"]) : Def P w K mg base "_law_is_whole" 1 ["told"] spIsW := by
  refine Def.mk' F sc__law_is_whole (fun vs H Q E h => ?_) (fun f cdv Ar outer s H vs Q E hr h => ⟨_, (pss_one (ps_ret (pe_and (pe_callB (r := rIsi K) call_isi rfl T.n_isinstance (by decide +kernel) (pa_cons (pv 0) (pa_cons (pe_bltn (v := .ty "int") (u := .type "int") rfl T.n_int (by decide +kernel) rfl) pa_nil))) (pe_one (pe_not (pe_callB (r := rIsi K) call_isi rfl T.n_isinstance (by decide +kernel) (pa_cons (pv 0) (pa_cons (pe_bltn (v := .ty "bool") (u := .type "bool") rfl T.n_bool (by decide +kernel) rfl) pa_nil)))))))), ?_⟩)
  · obtain ⟨i, rfl, _⟩ := h
    rfl
  · obtain ⟨i, rfl, q⟩ := h
    walk_at "go0"
    exact q
def spCbl (K : PySem.W.Frag) : Sp := fun vs H Q _ => ∃ (a : Addr) (hs : List Int), vs = [.ref a, .int 10] ∧ SqL K H a (hs.map V.int) ∧ hs.length ≤ 64 ∧ (∀ z ∈ hs, 1 ≤ z ∧ z ≤ 10) ∧ ∀ l H2, Ex H H2 → H2 l = some (.lst ((WR.cbl hs 10).map V.int)) → Q (.ref l) H2
abbrev s__law_cells_by_line : Stmt := top 26
theorem sc__law_cells_by_line : FnScope ["heights", "behind", "cells", "place"] ["heights", "behind"] (defScope s__law_cells_by_line) := ⟨rfl, rfl, rfl, by decide +kernel, rfl, by decide +kernel, by decide +kernel⟩
theorem ok_cbl (T : Txt K mg CB tkC tkH  CBadStyle CBadWords CBadBook CBadTold CBadPlan CBadText CBadCommand) (F : At K mg "_law_cells_by_line" s__law_cells_by_line ["heights", "behind"]) : Def P w K mg base "_law_cells_by_line" 1 ["heights", "behind"] (spCbl K) := by
  refine Def.mk' F sc__law_cells_by_line (fun vs H Q E h => ?_) (fun f cdv Ar outer s H vs Q E hr h => ⟨_, (pss_cons (ps_set (i := 2) sc__law_cells_by_line.nd rfl (Or.inl rfl) (pe_lst pa_nil))
      (pss_cons (ps_for (passes_of rfl) rfl (pi_range1 rfl T.n_range (pa_cons (pe_callB (r := Lay.rLen K) c_len rfl T.n_len PySem.boot_len (pa_cons (pv 0) pa_nil)) pa_nil)) (pg_name (i := 3) sc__law_cells_by_line.nd rfl (Or.inl rfl)) (pss_one (ps_set (i := 2) sc__law_cells_by_line.nd rfl (Or.inl rfl) (pe_op op_cat (pv 2) (pe_op op_rep (pe_lst (pa_cons (pe_op op_add (pv 3) pe_int) pa_nil)) (pe_ix (r := rIxL K) ix_list (pv 0) (pv 3) (fun _ _ => rfl)))))))
      (pss_one (ps_ret (pe_op op_cat (pv 2) (pe_op op_rep (pe_lst (pa_cons (pe_op op_add (pe_callB (r := Lay.rLen K) c_len rfl T.n_len PySem.boot_len (pa_cons (pv 0) pa_nil)) pe_int) pa_nil)) (pv 1))))))), ?_⟩)
  · obtain ⟨a, hs, rfl, _⟩ := h
    rfl
  · obtain ⟨a, hs, rfl, ha, h64, hb, q⟩ := h
    walk_at "go0"
    refine r_newI0 fun l0 H1 n1 e1 hl0 => ?_
    have ha1 := ex_l e1 ha
    walk_at "go"
    refine forR1 (by omega) (by omega) (fun k s h => ∃ l v, s = [some (.ref a), some (.int 10), some (.ref l), v] ∧ Ex H h ∧ h l = some (.lst ((WR.cbN hs k).map V.int)) ∧ (WR.cbN hs k).length ≤ 10 * k) ?_ ?_ ?_
    · exact ⟨l0, _, rfl, e1, hl0, Nat.le_refl _⟩
    · rintro k s h hk ⟨l, v, rfl, e, hl, hn⟩
      have ha2 := ex_l e ha
      have hk2 : k < hs.length := by omega
      have hz := hb _ (List.getElem_mem hk2)
      rw [← WR.gi_get hk2] at hz
      walk_at "go"
      refine r_newI1 fun l2 H2 n2 e2 hl2 => ?_
      walk_at "go"
      refine r_rep hl2 (by omega) (by omega) fun l3 H3 n3 e3 hl3 => ?_
      rw [← List.map_replicate] at hl3
      walk_at "go"
      refine r_catI (e3 _ _ (e2 _ _ hl)) hl3 (by rw [List.length_replicate]; omega) fun l4 H4 n4 e4 hl4 => ?_
      refine r_next ⟨l4, _, rfl, e.trans (e2.trans (e3.trans e4)), hl4, ?_⟩
      rw [WR.cbN, List.length_append, List.length_replicate]
      omega
    · rintro s h ⟨l, v, rfl, e, hl, hn⟩
      have ha2 := ex_l e ha
      rw [Int.toNat_natCast] at hl hn
      walk_at "go"
      refine r_newI1 fun l2 H2 n2 e2 hl2 => ?_
      walk_at "go"
      refine r_rep hl2 (by decide) (by decide) fun l3 H3 n3 e3 hl3 => ?_
      rw [← List.map_replicate] at hl3
      walk_at "go"
      refine r_catI (e3 _ _ (e2 _ _ hl)) hl3 (by rw [List.length_replicate]; show _ + 10 ≤ _; omega) fun l4 H4 n4 e4 hl4 => ?_
      exact q l4 H4 (e.trans (e2.trans (e3.trans e4))) hl4
def spLEdg (K : PySem.W.Frag) : Sp := fun vs H Q _ => ∃ (a : Addr) (hs : List Int), vs = [.ref a] ∧ SqL K H a (hs.map V.int) ∧ hs.length ≤ 64 ∧ ∀ l H2, H l = none → Ex H H2 → H2 l = some (.lst ((WK.edges hs).map V.int)) → Q (.ref l) H2
abbrev s__law_edges : Stmt := top 27
theorem sc__law_edges : FnScope ["heights", "edges", "line", "height"] ["heights"] (defScope s__law_edges) := ⟨rfl, rfl, rfl, by decide +kernel, rfl, by decide +kernel, by decide +kernel⟩
theorem ok_ledg (T : Txt K mg CB tkC tkH  CBadStyle CBadWords CBadBook CBadTold CBadPlan CBadText CBadCommand) (F : At K mg "_law_edges" s__law_edges ["heights"]) : Def P w K mg base "_law_edges" 1 ["heights"] (spLEdg K) := by
  refine Def.mk' F sc__law_edges (fun vs H Q E h => ?_) (fun f cdv Ar outer s H vs Q E hr h => ⟨_, (pss_cons (ps_set (i := 1) sc__law_edges.nd rfl (Or.inl rfl) (pe_lst pa_nil))
      (pss_cons (ps_set (i := 2) sc__law_edges.nd rfl (Or.inl rfl) pe_int)
      (pss_cons (ps_for (passes_of rfl) rfl (pi_list (pv 0)) (pg_name (i := 3) sc__law_edges.nd rfl (Or.inl rfl)) (pss_cons (ps_aug (i := 2) sc__law_edges.nd rfl (Or.inl rfl) (pv 3) ip_add)
      (pss_one (ps_expr (pe_bm PySem.F.plainAttrs_list PySem.F.slot_list_append PySem.F.type_list_append mt_append (pv 1) (pa_cons (pv 2) pa_nil))))))
      (pss_one (ps_ret (pv 1)))))), ?_⟩)
  · obtain ⟨a, hs, rfl, _⟩ := h
    rfl
  · obtain ⟨a, hs, rfl, ha, h64, q⟩ := h
    walk_at "go0"
    refine r_newI0 fun l H1 n1 e1 hl => ?_
    walk_at "go"
    refine forI (ex_l e1 ha) (fun i s h => (∃ v, s = [some (.ref a), some (.ref l), some (.int (hs.take i).sum), v]) ∧ Ex H h ∧ h l = some (.lst (((List.range i).map (WK.ed hs)).map V.int))) ?_ ?_ ?_ ?_
    · exact ⟨⟨_, rfl⟩, e1, hl⟩
    · rintro i s h _ ⟨_, e, _⟩
      exact ex_l e ha
    · rintro i z s h hz ⟨⟨v, rfl⟩, e, hl2⟩
      obtain ⟨hi, rfl⟩ := List.getElem?_eq_some_iff.mp hz
      walk_at "go"
      refine r_appI hl2 (by rw [List.length_map, List.length_range]; omega) fun H6 e6 h6 f6 => ?_
      refine r_next ⟨⟨_, by rw [← take_sum hi]; rfl⟩, ExB.ex e e6 n1, ?_⟩
      rw [List.range_succ, List.map_append]
      have e9 : (hs.take i).sum + hs[i] = WK.ed hs i := take_sum hi
      rw [e9] at h6
      exact h6
    · rintro s h ⟨⟨v, rfl⟩, e, hl2⟩
      walk_at "go"
      exact q l h n1 e hl2
def spLNext (K : PySem.W.Frag) : Sp := fun vs H Q _ => ∃ (a : Addr) (hs : List Int) (line : Int), vs = [.ref a, .int line] ∧ SqL K H a ((WK.edges hs).map V.int) ∧ hs.length ≤ 64 ∧ ∀ H2, Ex H H2 → Q (nxV hs line) H2
abbrev s__law_next : Stmt := top 28
theorem sc__law_next : FnScope ["edges", "line", "later", "edge"] ["edges", "line"] (defScope s__law_next) := ⟨rfl, rfl, rfl, by decide +kernel, rfl, by decide +kernel, by decide +kernel⟩
theorem ok_lnext (T : Txt K mg CB tkC tkH  CBadStyle CBadWords CBadBook CBadTold CBadPlan CBadText CBadCommand) (F : At K mg "_law_next" s__law_next ["edges", "line"]) : Def P w K mg base "_law_next" 1 ["edges", "line"] (spLNext K) := by
  refine Def.mk' F sc__law_next (fun vs H Q E h => ?_) (fun f cdv Ar outer s H vs Q E hr h => ⟨_, (pss_cons (ps_setLc (i := 2) (own := [("edge", 3)]) (g := gName 3) rfl sc__law_next.nd rfl rfl (sw_true rfl rfl rfl (by decide +kernel)) (pi_list (pv 0)) (blkOk_by (own := [("edge", 3)]) (N := ["edges", "line", "later", "edge"]) (sc := defScope s__law_next) (by decide +kernel)) (fun _ _ _ _ _ => (pg_name (i := 3) sc__law_next.nd rfl (Or.inl rfl))) (fun _ _ _ _ _ => (pts_one (pt_cmpR op_ge (pv 3) (pv 1) (nomark _)))) (fun _ _ _ _ _ => (pv 3)))
      (pss_one (ps_ret (pe_ifExp (pt_cmpR (r := rNeD K) (op_neD hr.units) (pv 2) (pe_lst pa_nil) (nomark _)) (pe_ix (r := rIxL K) ix_list (pv 2) pe_int (fun _ _ => rfl)) pe_non)))), ?_⟩)
  · obtain ⟨a, hs, line, rfl, _⟩ := h
    rfl
  · obtain ⟨a, hs, line, rfl, ha, h64, q⟩ := h
    have le := edg_len (hs := hs)
    generalize hE : WK.edges hs = es at ha le
    unfold nxV at q
    rw [hE] at q
    walk_at "go0"
    refine lcLG ha (fun l i h => h l = some (.lst (((es.take i).filter fun e => decide (line ≤ e)).map V.int)) ∧ Ex H h ∧ H l = none) ?_ ?_ ?_ ?_
    · exact fun l h n e hl => ⟨hl, e, n⟩
    · rintro l i h _ ⟨_, e, _⟩
      exact ex_l e ha
    · rintro l i x h hx ⟨hl, e, n⟩
      obtain ⟨hi, rfl⟩ := int_at hx
      have fl : ((es.take i).filter fun e => decide (line ≤ e)).length ≤ 64 := by
        have := List.length_filter_le (fun e => decide (line ≤ e)) (es.take i)
        rw [List.length_take] at this
        omega
      refine r_gName ?_
      refine ⟨rfl, ?_⟩
      walk_at "go"
      have tk : (es.take (i + 1)).filter (fun e => decide (line ≤ e)) = (es.take i).filter (fun e => decide (line ≤ e)) ++ (if line ≤ es[i] then [es[i]] else []) := by
        rw [List.take_succ_eq_append_getElem hi, List.filter_append]
        congr 1
        by_cases c : line ≤ es[i]
        · rw [if_pos c, List.filter_cons_of_pos (p := fun e => decide (line ≤ e)) (decide_eq_true c)]
          rfl
        · rw [if_neg c, List.filter_cons_of_neg (p := fun e => decide (line ≤ e)) (by simp only [decide_eq_true_eq]; exact c)]
          rfl
      rw [tk]
      refine r_ite (fun c => ?_) (fun c => ?_)
      · rw [if_pos c]
        walk_at "go"
        refine Lay.appW hl (by rw [List.length_map]; omega) fun H5 e5 h5 => ⟨by rw [List.map_append]; exact h5, ExB.ex e e5 n, n⟩
      · rw [if_neg c, List.append_nil]
        exact ⟨hl, e, n⟩
    · rintro l h ⟨hl, e, n⟩
      rw [List.length_map, List.take_length] at hl
      rw [← List.head?_filter] at q
      walk_at "go"
      refine r_tIf ?_
      walk_at "go"
      refine r_newI0 fun l2 H2 n2 e2 hl2 => ?_
      have hl3 := e2 _ _ hl
      generalize es.filter (fun e => decide (line ≤ e)) = fs at hl3 q
      refine r_neNil (.lst (L2.SqL.of hl3) (dpa_ints fs)) (fun d hd => ?_) (L2.SqL.of hl2) ?_
      · obtain ⟨z, _, rfl⟩ := List.mem_map.mp hd
        exact ⟨rfl, by simp [PyData.depth]⟩
      cases fs with
      | nil =>
        walk_at "go"
        exact q _ (e.trans e2)
      | cons z zs =>
        walk_at "go"
        refine r_yesN (List.cons_ne_nil _ _) ?_
        walk_at "go"
        exact q _ (e.trans e2)
end
end K00
namespace K00
open PySem PySem.Spec PyProof.Rows L2 Evl Lay
section
variable {P : Program} {w : World} {K : PySem.W.Frag} {mg : Str → Option Value} {base : Heap} {CB CT CW CRuler CBadStyle CBadWords CBadBook CBadTold CBadPlan CBadText CBadCommand cL__law_ends_right PL__law_ends_right cL__law_bounds_right PL__law_bounds_right : Addr} {tkC tkH : Tok}
/-! ### the ends of the cells -/
def spEnds (K : PySem.W.Frag) (CRuler P0 P1 : Addr) : Sp := fun vs H Q _ => ∃ (x a : Addr) (hs : List Int), vs = [.ref x, .ref a] ∧ RulerAt CRuler H x hs ∧ SqL K H a (hs.map V.int) ∧ WK.HOk hs ∧ hs.length ≤ 63 ∧ LamX.Tabs (TT0 P0 P1) H ∧ ∀ H2, LamX.ExtN H H2 → LamX.Tabs (TT0 P0 P1) H2 → Q (.bl true) H2
theorem r_isBB {H : Hp} {Q : VK} {b : Bool} {K : PySem.W.Frag} (q : Q (.bl true) H) : rIsi K [.bl b, .ty "bool"] H Q := ⟨.bl b, .ty "bool", .type "bool", .type "bool", true, rfl, .ty "bool", .base (.bl b), kit_ty (by decide +kernel), q⟩
theorem gi_cons0 {hs : List Int} {c : Int} (h1 : 1 ≤ c) (h2 : c ≤ hs.length + 1) : gi ([0] ++ WK.edges hs) (c - 1) = (hs.take (c - 1).toNat).sum := by
  obtain ⟨k, rfl⟩ : ∃ k : Nat, c = k + 1 := ⟨(c - 1).toNat, by omega⟩
  rw [show (k : Int) + 1 - 1 = k by omega, Int.toNat_natCast]
  cases k with
  | zero => rfl
  | succ k =>
    have := edg_gi (hs := hs) (c := k) (by omega) (by omega)
    rw [show ((k : Int) + 1).toNat = k + 1 by omega] at this
    rw [← this]
    rfl
abbrev s__law_ends_right : Stmt := top 29
theorem sc__law_ends_right : FnScope ["ruler", "heights", "edges", "cell", "told"] ["ruler", "heights"] (defScope s__law_ends_right) := ⟨rfl, rfl, rfl, by decide +kernel, rfl, by decide +kernel, by decide +kernel⟩
theorem ok_ends (T : Txt K mg CB tkC tkH  CBadStyle CBadWords CBadBook CBadTold CBadPlan CBadText CBadCommand) (F : AtL K mg "_law_ends_right" s__law_ends_right ["ruler", "heights"] cL__law_ends_right) (TB__law_ends_right : LamX.TabB base mg cL__law_ends_right PL__law_ends_right) (A__law_refused : At K mg "_law_refused" s__law_refused ["action"]) (hPL : PL__law_ends_right ≠ PL__law_bounds_right)
    (o_Ruler : OC K mg "Ruler" CRuler ["height_list", "edge_list"]) (x_TooMany : Exn P w K mg base "TooMany" "what" CT) (x_BadRuler : Exn P w K mg base "BadRuler" "place" CW) (x_WT : PySem.W.exmOne K (.ref CW) (.ref CT) = some false)
    (d_Ruler_many : DM P w K mg base CRuler "many" 1 ["self"] (spMany CRuler)) (d_Ruler_first : DM P w K mg base CRuler "first" 4 ["self", "cell"] (spFirst CT CW CRuler)) (d_Ruler_last : DM P w K mg base CRuler "last" 4 ["self", "cell"] (spLast CT CW CRuler))
    (d_Ruler_heights : DM P w K mg base CRuler "heights" 1 ["self"] (spHts K CRuler)) (d_Ruler_edges : DM P w K mg base CRuler "edges" 1 ["self"] (spEdg K CRuler)) (d__law_edges : Def P w K mg base "_law_edges" 1 ["heights"] (spLEdg K)) (d__law_is_whole : Def P w K mg base "_law_is_whole" 1 ["told"] spIsW) :
    Def P w K mg base "_law_ends_right" 10 ["ruler", "heights"] (spEnds K CRuler PL__law_ends_right PL__law_bounds_right) := by
  have LM__law_ends_right := tt_m0 (P0 := PL__law_ends_right) (P1 := PL__law_bounds_right)
  have LU__law_ends_right := tt_u0 hPL
  refine Def.mkL F sc__law_ends_right (fun vs H Q E h => ?_) (fun f Ar outer s H vs Q E hr h => ⟨_, (pss_cons (ps_set (i := 2) sc__law_ends_right.nd rfl (Or.inl rfl) (pe_d d__law_edges (hr.mono (by decide)) (passes_call (takes_of rfl rfl rfl rfl) (fun _ _ _ _ h => h)) (pa_cons (pv 1) pa_nil)))
      (pss_cons (ps_if (PW.pt (pw_or (pt_not (pt_val (pe_d d__law_is_whole (hr.mono (by decide)) (passes_call (takes_of rfl rfl rfl rfl) (fun _ _ _ _ h => h)) (pa_cons (pe_mD0 d_Ruler_many o_Ruler.cl (hr.mono (by decide)) (passes_call (takes_of rfl rfl rfl rfl) (fun _ _ _ _ h => h)) (pv 0)) pa_nil)))) (pw_or1 (pt_cmpR op_ne (pe_mD0 d_Ruler_many o_Ruler.cl (hr.mono (by decide)) (passes_call (takes_of rfl rfl rfl rfl) (fun _ _ _ _ h => h)) (pv 0)) (pe_op op_add (pe_callB (r := Lay.rLen K) c_len rfl T.n_len PySem.boot_len (pa_cons (pv 1) pa_nil)) pe_int) (nomark _))))) (pss_one (ps_ret pe_bl)) pss_nil)
      (pss_cons (ps_if (PW.pt (pw_or (pt_not (pt_val (pe_callB (r := rIsi K) call_isi rfl T.n_isinstance (by decide +kernel) (pa_cons (pe_mD0 d_Ruler_heights o_Ruler.cl (hr.mono (by decide)) (passes_call (takes_of rfl rfl rfl rfl) (fun _ _ _ _ h => h)) (pv 0)) (pa_cons (pe_bltn (v := .ty "list") (u := .type "list") rfl T.n_list (by decide +kernel) rfl) pa_nil))))) (pw_or1 (pt_cmpR (r := rNeD K) (op_neD hr.units) (pe_mD0 d_Ruler_heights o_Ruler.cl (hr.mono (by decide)) (passes_call (takes_of rfl rfl rfl rfl) (fun _ _ _ _ h => h)) (pv 0)) (pv 1) (nomark _))))) (pss_one (ps_ret pe_bl)) pss_nil)
      (pss_cons (ps_if (PW.pt (pw_or (pt_not (pt_val (pe_callB (r := rIsi K) call_isi rfl T.n_isinstance (by decide +kernel) (pa_cons (pe_mD0 d_Ruler_edges o_Ruler.cl (hr.mono (by decide)) (passes_call (takes_of rfl rfl rfl rfl) (fun _ _ _ _ h => h)) (pv 0)) (pa_cons (pe_bltn (v := .ty "list") (u := .type "list") rfl T.n_list (by decide +kernel) rfl) pa_nil))))) (pw_or1 (pt_cmpR (r := rNeD K) (op_neD hr.units) (pe_mD0 d_Ruler_edges o_Ruler.cl (hr.mono (by decide)) (passes_call (takes_of rfl rfl rfl rfl) (fun _ _ _ _ h => h)) (pv 0)) (pv 2) (nomark _))))) (pss_one (ps_ret pe_bl)) pss_nil)
      (pss_cons (ps_for (passes_of rfl) rfl (pi_range2 rfl T.n_range (pa_cons pe_int (pa_cons (pe_op op_add (pe_callB (r := Lay.rLen K) c_len rfl T.n_len PySem.boot_len (pa_cons (pv 1) pa_nil)) pe_int) pa_nil))) (pg_name (i := 3) sc__law_ends_right.nd rfl (Or.inr rfl)) (pss_cons (ps_if (PW.pt (pw_or (pt_cmpR op_ne (pe_mD d_Ruler_first o_Ruler.cl (hr.mono (by decide)) (passes_call (takes_of rfl rfl rfl rfl) (fun _ _ _ _ h => h)) (pv 0) (pa_cons (pv 3) pa_nil)) (pe_ix (r := rIxL K) ix_list (pe_op op_cat (pe_lst (pa_cons pe_int pa_nil)) (pv 2)) (pe_op op_sub (pv 3) pe_int) (fun _ _ => rfl)) (nomark _)) (pw_or1 (pt_val (pe_callB (r := rIsi K) call_isi rfl T.n_isinstance (by decide +kernel) (pa_cons (pe_mD d_Ruler_first o_Ruler.cl (hr.mono (by decide)) (passes_call (takes_of rfl rfl rfl rfl) (fun _ _ _ _ h => h)) (pv 0) (pa_cons (pv 3) pa_nil)) (pa_cons (pe_bltn (v := .ty "bool") (u := .type "bool") rfl T.n_bool (by decide +kernel) rfl) pa_nil))))))) (pss_one (ps_ret pe_bl)) pss_nil)
      (pss_cons (ps_set (i := 4) sc__law_ends_right.nd rfl (Or.inl rfl) (pe_mD d_Ruler_last o_Ruler.cl (hr.mono (by decide)) (passes_call (takes_of rfl rfl rfl rfl) (fun _ _ _ _ h => h)) (pv 0) (pa_cons (pv 3) pa_nil)))
      (pss_one (ps_if (pt_cmpR op_eq (pv 3) (pe_op op_add (pe_callB (r := Lay.rLen K) c_len rfl T.n_len PySem.boot_len (pa_cons (pv 1) pa_nil)) pe_int) (nomark _)) (pss_one (ps_if (pt_cmpR op_notN1 (pv 4) pe_non (nomark _)) (pss_one (ps_ret pe_bl)) pss_nil)) (pss_one (ps_if (PW.pt (pw_or (pt_not (pt_val (pe_d d__law_is_whole (hr.mono (by decide)) (passes_call (takes_of rfl rfl rfl rfl) (fun _ _ _ _ h => h)) (pa_cons (pv 4) pa_nil)))) (pw_or1 (pt_cmpR op_ne (pv 4) (pe_op op_sub (pe_ix (r := rIxL K) ix_list (pv 2) (pe_op op_sub (pv 3) pe_int) (fun _ _ => rfl)) pe_int) (nomark _))))) (pss_one (ps_ret pe_bl)) pss_nil)))))))
      (pss_cons (ps_for (passes_of rfl) rfl (pi_list (pe_lst (pa_cons pe_int (pa_cons (pe_op op_add (pe_callB (r := Lay.rLen K) c_len rfl T.n_len PySem.boot_len (pa_cons (pv 1) pa_nil)) pe_int) (pa_cons (pe_un un_neg pe_int) pa_nil))))) (pg_name (i := 3) sc__law_ends_right.nd rfl (Or.inr rfl)) (pss_cons (ps_if (pt_cmpR (r := rNeD K) (op_neD hr.units) (pe_lam (k := 7) (t := fun E => _) A__law_refused sc__law_refused rfl (Or.inl (by decide +kernel)) (fun g cdg => ref_gives T x_TooMany x_BadRuler g cdg) TB__law_ends_right LM__law_ends_right LU__law_ends_right (hr.mono (by decide)) (LamX.lamS_by (show LamX.lamSB (defScope s__law_ends_right) _ = true by decide +kernel)) (fun _ _ _ _ _ => rfl) (fun A outer s H E f c' hr => (pe_mD d_Ruler_first o_Ruler.cl (hr.mono (by decide)) (passes_call (takes_of rfl rfl rfl rfl) (fun _ _ _ _ h => h)) (pv 0) (pa_cons (pv 3) pa_nil)))) (pe_tup (pa_cons pe_str (pa_cons (pv 3) pa_nil))) (nomark _)) (pss_one (ps_ret pe_bl)) pss_nil)
      (pss_one (ps_if (pt_cmpR (r := rNeD K) (op_neD hr.units) (pe_lam (k := 7) (t := fun E => _) A__law_refused sc__law_refused rfl (Or.inl (by decide +kernel)) (fun g cdg => ref_gives T x_TooMany x_BadRuler g cdg) TB__law_ends_right LM__law_ends_right LU__law_ends_right (hr.mono (by decide)) (LamX.lamS_by (show LamX.lamSB (defScope s__law_ends_right) _ = true by decide +kernel)) (fun _ _ _ _ _ => rfl) (fun A outer s H E f c' hr => (pe_mD d_Ruler_last o_Ruler.cl (hr.mono (by decide)) (passes_call (takes_of rfl rfl rfl rfl) (fun _ _ _ _ h => h)) (pv 0) (pa_cons (pv 3) pa_nil)))) (pe_tup (pa_cons pe_str (pa_cons (pv 3) pa_nil))) (nomark _)) (pss_one (ps_ret pe_bl)) pss_nil))))
      (pss_one (ps_ret pe_bl)))))))), ?_⟩)
  · obtain ⟨x, a, hs, rfl, _⟩ := h
    rfl
  · obtain ⟨x, a, hs, rfl, hR0, ha0, ho, hn, hT0, q⟩ := h
    walk_at "go0"
    refine ⟨a, hs, rfl, ha0, by omega, fun ed H1 ned e1 hed => ?_⟩
    have hR := hR0.ex e1
    have ha := ex_l e1 ha0
    have hT := LamX.Tabs.ext hT0 e1
    obtain ⟨dx, hl, el, hx, h2, h3⟩ := id hR
    walk_at "go"
    refine r_rmth hx rfl ?_
    walk_at "go"
    refine ⟨x, hs, rfl, hR, ?_⟩
    walk_at "go"
    refine ⟨_, rfl, ?_⟩
    walk_at "go"
    refine r_rmth hx rfl ?_
    walk_at "go"
    refine ⟨x, hs, rfl, hR, ?_⟩
    walk_at "go"
    refine r_noN rfl ?_
    walk_at "go"
    refine r_rmth hx rfl ?_
    walk_at "go"
    refine ⟨x, hs, rfl, hR, fun l1 H2 n2 e2 hl1 => ?_⟩
    walk_at "go"
    refine r_rmth (e2 _ _ hx) rfl ?_
    walk_at "go"
    refine ⟨x, hs, rfl, hR.ex e2, fun l2 H3 n3 e3 hl2 => ?_⟩
    walk_at "go"
    refine r_neSame (dp_ints (L2.SqL.of hl2)) (dp_ints (ex_l (e2.trans e3) ha)) (sh_ints _) ?_
    have E3 := e2.trans e3
    walk_at "go"
    refine r_rmth (E3 _ _ hx) rfl ?_
    walk_at "go"
    refine ⟨x, hs, rfl, hR.ex E3, fun l3 H4 n4 e4 hl3 => ?_⟩
    walk_at "go"
    have E4 := E3.trans e4
    refine r_rmth (E4 _ _ hx) rfl ?_
    walk_at "go"
    refine ⟨x, hs, rfl, hR.ex E4, fun l4 H5 n5 e5 hl4 => ?_⟩
    have E5 := E4.trans e5
    walk_at "go"
    refine r_neSame (dp_ints (L2.SqL.of hl4)) (dp_ints (L2.SqL.of (E5 _ _ hed))) (sh_ints _) ?_
    have hx := E5 _ _ hx
    have hR := hR.ex E5
    have ha := ex_l E5 ha
    have hed := E5 _ _ hed
    have hT := LamX.Tabs.ext hT E5
    have eH5 := e1.trans E5
    clear hl1 hl2 hl3 hl4 e2 e3 e4 e5 E3 E4 E5 e1 n2 n3 n4 n5
    have le := edg_len (hs := hs)
    walk_at "go"
    refine forR2 ⟨by decide, by decide⟩ ⟨by omega, by omega⟩ (fun k s h => (∃ v3 v4, s = [some (.ref x), some (.ref a), some (.ref ed), v3, v4]) ∧ Ex H5 h) ⟨⟨_, _, rfl⟩, Ex.refl _⟩ ?_ ?_
    · rintro k s h hk ⟨⟨v3, v4, rfl⟩, e⟩
      have hx := e _ _ hx
      have hR := hR.ex e
      have ha := ex_l e ha
      have hed := e _ _ hed
      have ck : ckCell hs (1 + k) = none := by unfold ckCell; rw [if_pos ⟨by omega, by omega⟩]
      walk_at "go"
      refine r_rmth hx rfl ?_
      walk_at "go"
      refine ⟨x, hs, 1 + k, rfl, hR, by omega, by omega, ?_⟩
      rw [ck]
      walk_at "go"
      refine r_newI1 fun z1 H6 n6 e6 hz1 => ?_
      walk_at "go"
      refine r_catI hz1 (e6 _ _ hed) (by rw [le]; show 1 + hs.length ≤ 100000; omega) fun z2 H7 n7 e7 hz2 => ?_
      walk_at "go"
      refine r_ixI (L2.SqL.of hz2) (by omega) (by rw [List.length_append, le]; show _ < ((1 + hs.length : Nat) : Int); omega) ?_
      rw [gi_cons0 (by omega) (by omega)]
      walk_at "go"
      refine r_noN rfl ?_
      have E7 := e6.trans e7
      have hx := E7 _ _ hx
      have hR := hR.ex E7
      walk_at "go"
      refine r_rmth hx rfl ?_
      walk_at "go"
      refine ⟨x, hs, 1 + k, rfl, hR, by omega, by omega, ?_⟩
      rw [ck]
      walk_at "go"
      refine r_rmth hx rfl ?_
      walk_at "go"
      refine ⟨x, hs, 1 + k, rfl, hR, by omega, by omega, ?_⟩
      rw [ck]
      have ha := ex_l E7 ha
      have hed := E7 _ _ hed
      unfold lastV
      walk_at "go"
      by_cases c : (1 : Int) + k = hs.length + 1
      · rw [if_pos c]
        refine r_yes c ?_
        walk_at "go"
        refine r_next ⟨⟨_, _, rfl⟩, e.trans E7⟩
      · rw [if_neg c]
        refine r_no c ?_
        walk_at "go"
        refine ⟨_, rfl, ?_⟩
        walk_at "go"
        rw [edg_gi (by omega) (by omega), show (1 : Int) + k - 1 + 1 = 1 + k by omega]
        refine r_noN rfl ?_
        refine r_next ⟨⟨_, _, rfl⟩, e.trans E7⟩
    · rintro s h ⟨⟨v3, v4, rfl⟩, e⟩
      have hx := e _ _ hx
      have hR := hR.ex e
      have ha := ex_l e ha
      have hT := LamX.Tabs.ext hT e
      walk_at "go"
      refine r_newI3 fun zl H6 n6 e6 hzl => ?_
      walk_at "go"
      have hTz := LamX.Tabs.ext hT e6
      have hx := e6 _ _ hx
      have hR := hR.ex e6
      refine forI (ns := [0, hs.length + 2, -1]) (L2.SqL.of hzl) (fun i s h2 => (∃ v3 v4, s = [some (.ref x), some (.ref a), some (.ref ed), v3, v4]) ∧ LamX.ExtN H6 h2 ∧ LamX.Tabs (TT0 PL__law_ends_right PL__law_bounds_right) h2) ⟨⟨_, _, rfl⟩, Ex.n (Ex.refl _), hTz⟩ ?_ ?_ ?_
      · rintro i s h2 _ ⟨_, e2, _⟩
        exact exn_l e2 (L2.SqL.of hzl)
      · rintro i z s h2 hz ⟨⟨v3, v4, rfl⟩, e2, hT2⟩
        have zc : z = 0 ∨ z = hs.length + 2 ∨ z = -1 := by
          have := List.mem_of_getElem? hz
          simp only [List.mem_cons, List.not_mem_nil, or_false] at this
          exact this
        have ck : ckCell hs z = some (.ruler z) := by unfold ckCell; rw [if_neg (by omega)]
        walk_at "go"
        refine r_refE x_TooMany x_BadRuler x_WT hT2 fun gA E1 eA hTA hE => ?_
        have eA := LamX.ExtN.trans e2 eA
        walk_at "go"
        refine r_rmth (exn_at eA (fun _ z => by cases z) hx) rfl ?_
        walk_at "go"
        refine ⟨x, hs, z, rfl, hR.exn eA, by omega, by omega, ?_⟩
        rw [ck]
        refine hE (.ruler z) gA fun t gB eB ht => ?_
        walk_at "go"
        refine r_newT (len3 rfl) fun t2 gC nC eC ht2 => ?_
        have eC' := LamX.ExtN.trans eA (Ex.n (eB.trans eC))
        have hTC := LamX.Tabs.ext hTA (eB.trans eC)
        walk_at "go"
        refine r_neSame (dp_er (e := .ruler z) (eC _ _ ht)) (dp_er (e := .ruler z) ht2) (sh_er trivial) ?_
        walk_at "go"
        refine r_refE x_TooMany x_BadRuler x_WT hTC fun gA2 E2 eA2 hTA2 hE2 => ?_
        have eA2 := LamX.ExtN.trans eC' eA2
        walk_at "go"
        refine r_rmth (exn_at eA2 (fun _ z => by cases z) hx) rfl ?_
        walk_at "go"
        refine ⟨x, hs, z, rfl, hR.exn eA2, by omega, by omega, ?_⟩
        rw [ck]
        refine hE2 (.ruler z) gA2 fun t3 gD eD ht3 => ?_
        walk_at "go"
        refine r_newT (len3 rfl) fun t4 gE nE eE ht4 => ?_
        walk_at "go"
        refine r_neSame (dp_er (e := .ruler z) (eE _ _ ht3)) (dp_er (e := .ruler z) ht4) (sh_er trivial) ?_
        walk_at "go"
        exact ⟨⟨_, _, rfl⟩, LamX.ExtN.trans eA2 (Ex.n (eD.trans eE)), LamX.Tabs.ext hTA2 (eD.trans eE)⟩
      · rintro s h2 ⟨⟨v3, v4, rfl⟩, e2, hT2⟩
        walk_at "go"
        exact q h2 (LamX.ExtN.trans (Ex.n (eH5.trans (e.trans e6))) e2) hT2
end
end K00
namespace K00
open PySem PySem.Spec PyProof.Rows L2 Evl Lay
section
variable {P : Program} {w : World} {K : PySem.W.Frag} {mg : Str → Option Value} {base : Heap} {CB CT CW CRuler CBadStyle CBadWords CBadBook CBadTold CBadPlan CBadText CBadCommand cL__law_ends_right PL__law_ends_right cL__law_bounds_right PL__law_bounds_right : Addr} {tkC tkH : Tok}
/-! ### line by line -/
def spLines (K : PySem.W.Frag) (CRuler : Addr) : Sp := fun vs H Q _ => ∃ (x a : Addr) (hs : List Int), vs = [.ref x, .ref a] ∧ RulerAt CRuler H x hs ∧ SqL K H a (hs.map V.int) ∧ (∀ z ∈ hs, 1 ≤ z ∧ z ≤ 10) ∧ hs.length ≤ 63 ∧ ∀ H2, Ex H H2 → Q (.bl true) H2
theorem nx_or (hs : List Int) (line : Int) : nxV hs line = .non ∨ ∃ e, nxV hs line = .int e := by
  unfold nxV
  cases (WK.edges hs).find? (fun e => decide (line ≤ e)) with
  | none => exact .inl rfl
  | some e => exact .inr ⟨e, rfl⟩
theorem cb_len {hs : List Int} (hb : ∀ z ∈ hs, 1 ≤ z ∧ z ≤ 10) : ∀ k, k ≤ hs.length → (WR.cbN hs k).length ≤ 10 * k := by
  intro k
  induction k with
  | zero => exact fun _ => Nat.le_refl _
  | succ k ih =>
    intro hk
    have h1 := ih (by omega)
    have h2 := hb _ (List.getElem_mem (show k < hs.length by omega))
    rw [← WR.gi_get (show k < hs.length by omega)] at h2
    rw [WR.cbN, List.length_append, List.length_replicate]
    omega
abbrev s__law_lines_right : Stmt := top 30
theorem sc__law_lines_right : FnScope ["ruler", "heights", "cells", "edges", "line", "told", "due", "lines"] ["ruler", "heights"] (defScope s__law_lines_right) := ⟨rfl, rfl, rfl, by decide +kernel, rfl, by decide +kernel, by decide +kernel⟩
theorem ok_lines (T : Txt K mg CB tkC tkH  CBadStyle CBadWords CBadBook CBadTold CBadPlan CBadText CBadCommand) (F : At K mg "_law_lines_right" s__law_lines_right ["ruler", "heights"]) (o_Ruler : OC K mg "Ruler" CRuler ["height_list", "edge_list"]) (d__law_cells_by_line : Def P w K mg base "_law_cells_by_line" 1 ["heights", "behind"] (spCbl K)) (d__law_edges : Def P w K mg base "_law_edges" 1 ["heights"] (spLEdg K))
    (d__law_is_whole : Def P w K mg base "_law_is_whole" 1 ["told"] spIsW) (d_Ruler_cell : DM P w K mg base CRuler "cell" 1 ["self", "line"] (spCellOf CRuler)) (d_Ruler_next_edge : DM P w K mg base CRuler "next_edge" 2 ["self", "line"] (spNext CRuler))
    (d__law_next : Def P w K mg base "_law_next" 1 ["edges", "line"] (spLNext K)) (d_Ruler_fits : DM P w K mg base CRuler "fits" 2 ["self", "line", "lines"] (spFits CRuler)) : Def P w K mg base "_law_lines_right" 3 ["ruler", "heights"] (spLines K CRuler) := by
  refine Def.mk' F sc__law_lines_right (fun vs H Q E h => ?_) (fun f cdv Ar outer s H vs Q E hr h => ⟨_, (pss_cons (ps_set (i := 2) sc__law_lines_right.nd rfl (Or.inl rfl) (pe_d d__law_cells_by_line (hr.mono (by decide)) (passes_call (takes_of rfl rfl rfl rfl) (fun _ _ _ _ h => h)) (pa_cons (pv 1) (pa_cons pe_int pa_nil))))
      (pss_cons (ps_set (i := 3) sc__law_lines_right.nd rfl (Or.inl rfl) (pe_d d__law_edges (hr.mono (by decide)) (passes_call (takes_of rfl rfl rfl rfl) (fun _ _ _ _ h => h)) (pa_cons (pv 1) pa_nil)))
      (pss_cons (ps_for (passes_of rfl) rfl (pi_range1 rfl T.n_range (pa_cons (pe_op op_sub (pe_callB (r := Lay.rLen K) c_len rfl T.n_len PySem.boot_len (pa_cons (pv 2) pa_nil)) pe_int) pa_nil)) (pg_name (i := 4) sc__law_lines_right.nd rfl (Or.inl rfl)) (pss_cons (ps_if (PW.pt (pw_or (pt_not (pt_val (pe_d d__law_is_whole (hr.mono (by decide)) (passes_call (takes_of rfl rfl rfl rfl) (fun _ _ _ _ h => h)) (pa_cons (pe_mD d_Ruler_cell o_Ruler.cl (hr.mono (by decide)) (passes_call (takes_of rfl rfl rfl rfl) (fun _ _ _ _ h => h)) (pv 0) (pa_cons (pv 4) pa_nil)) pa_nil)))) (pw_or1 (pt_cmpR op_ne (pe_mD d_Ruler_cell o_Ruler.cl (hr.mono (by decide)) (passes_call (takes_of rfl rfl rfl rfl) (fun _ _ _ _ h => h)) (pv 0) (pa_cons (pv 4) pa_nil)) (pe_ix (r := rIxL K) ix_list (pv 2) (pv 4) (fun _ _ => rfl)) (nomark _))))) (pss_one (ps_ret pe_bl)) pss_nil)
      (pss_cons (ps_set (i := 5) sc__law_lines_right.nd rfl (Or.inl rfl) (pe_mD d_Ruler_next_edge o_Ruler.cl (hr.mono (by decide)) (passes_call (takes_of rfl rfl rfl rfl) (fun _ _ _ _ h => h)) (pv 0) (pa_cons (pv 4) pa_nil)))
      (pss_cons (ps_set (i := 6) sc__law_lines_right.nd rfl (Or.inl rfl) (pe_d d__law_next (hr.mono (by decide)) (passes_call (takes_of rfl rfl rfl rfl) (fun _ _ _ _ h => h)) (pa_cons (pv 3) (pa_cons (pv 4) pa_nil))))
      (pss_cons (ps_if (pt_cmpR op_ne (pe_cmpR op_isN1 (pv 5) pe_non (nomark _)) (pe_cmpR op_isN1 (pv 6) pe_non (nomark _)) (nomark _)) (pss_one (ps_ret pe_bl)) pss_nil)
      (pss_cons (ps_if (PW.pt (pw_and (pt_cmpR op_notN1 (pv 6) pe_non (nomark _)) (pw_and1 (PW.pt (pw_or (pt_not (pt_val (pe_d d__law_is_whole (hr.mono (by decide)) (passes_call (takes_of rfl rfl rfl rfl) (fun _ _ _ _ h => h)) (pa_cons (pv 5) pa_nil)))) (pw_or1 (pt_cmpR op_ne (pv 5) (pv 6) (nomark _)))))))) (pss_one (ps_ret pe_bl)) pss_nil)
      (pss_one (ps_for (passes_of rfl) rfl (pi_range2 rfl T.n_range (pa_cons pe_int (pa_cons pe_int pa_nil))) (pg_name (i := 7) sc__law_lines_right.nd rfl (Or.inl rfl)) (pss_cons (ps_set (i := 5) sc__law_lines_right.nd rfl (Or.inl rfl) (pe_mD d_Ruler_fits o_Ruler.cl (hr.mono (by decide)) (passes_call (takes_of rfl rfl rfl rfl) (fun _ _ _ _ h => h)) (pv 0) (pa_cons (pv 4) (pa_cons (pv 7) pa_nil))))
      (pss_one (ps_if (PW.pt (pw_or (pt_not (pt_val (pe_callB (r := rIsi K) call_isi rfl T.n_isinstance (by decide +kernel) (pa_cons (pv 5) (pa_cons (pe_bltn (v := .ty "bool") (u := .type "bool") rfl T.n_bool (by decide +kernel) rfl) pa_nil))))) (pw_or1 (pt_cmpR op_ne (pv 5) (pe_cmpR op_eq (pe_ix (r := rIxL K) ix_list (pv 2) (pv 4) (fun _ _ => rfl)) (pe_ix (r := rIxL K) ix_list (pv 2) (pe_op op_sub (pe_op op_add (pv 4) (pv 7)) pe_int) (fun _ _ => rfl)) (nomark _)) (nomark _))))) (pss_one (ps_ret pe_bl)) pss_nil)))))))))))
      (pss_one (ps_ret pe_bl))))), ?_⟩)
  · obtain ⟨x, a, hs, rfl, _⟩ := h
    rfl
  · obtain ⟨x, a, hs, rfl, hR, ha, hb, hn, q⟩ := h
    have ho : WK.HOk hs := fun z hz => (hb z hz).1
    walk_at "go0"
    refine ⟨a, hs, rfl, ha, by omega, hb, fun c H1 e1 hc => ?_⟩
    walk_at "go"
    refine ⟨a, hs, rfl, ex_l e1 ha, by omega, fun ed H2 ned e2 hed => ?_⟩
    have hc := e2 _ _ hc
    have cl : (WR.cbl hs 10).length ≤ 10 * hs.length + 10 := by
      have := cb_len hb hs.length (Nat.le_refl _)
      unfold WR.cbl
      rw [List.length_append, List.length_replicate]
      omega
    have E2 := e1.trans e2
    walk_at "go"
    refine forR1 (by omega) (by omega) (fun k s h => (∃ v4 v5 v6 v7, s = [some (.ref x), some (.ref a), some (.ref c), some (.ref ed), v4, v5, v6, v7]) ∧ Ex H2 h) ⟨⟨_, _, _, _, rfl⟩, Ex.refl _⟩ ?_ ?_
    · rintro k s h hk ⟨⟨v4, v5, v6, v7, rfl⟩, e⟩
      have hR := hR.ex (E2.trans e)
      have hc := e _ _ hc
      have hed := e _ _ hed
      obtain ⟨dx, hl, el, hx, h2, h3⟩ := id hR
      have gk := WR.cbl_gi ho (b := 10) (line := k) (by omega) (by omega)
      walk_at "go"
      refine r_rmth hx rfl ?_
      walk_at "go"
      refine ⟨x, hs, k, rfl, hR, ho, hn, ?_⟩
      walk_at "go"
      refine ⟨_, rfl, ?_⟩
      walk_at "go"
      refine r_rmth hx rfl ?_
      walk_at "go"
      refine ⟨x, hs, k, rfl, hR, ho, hn, ?_⟩
      walk_at "go"
      rw [gk]
      refine r_noN rfl ?_
      walk_at "go"
      refine r_rmth hx rfl ?_
      walk_at "go"
      refine ⟨x, hs, k, rfl, hR, ho, hn, ?_⟩
      walk_at "go"
      refine ⟨ed, hs, k, rfl, L2.SqL.of hed, by omega, fun H3 e3 => ?_⟩
      have hR := hR.ex e3
      have hx := e3 _ _ hx
      have hc := e3 _ _ hc
      have hed := e3 _ _ hed
      walk_at "go"
      refine r_noN rfl ?_
      walk_at "go"
      have gl : ∀ b : Int, 1 ≤ b → b < 6 → gi (WR.cbl hs 10) (k + b - 1) = (WK.cnt hs (k + b - 1) hs.length : Int) + 1 := fun b b1 b2 => WR.cbl_gi ho (b := 10) (line := k + b - 1) (by omega) (by omega)
      rcases nx_or hs k with z | ⟨e', z⟩
      · rw [z]
        refine r_noN rfl ?_
        walk_at "go"
        refine forR2 ⟨by decide, by decide⟩ ⟨by decide, by decide⟩ (fun j s h2 => (∃ v5 v7, s = [some (.ref x), some (.ref a), some (.ref c), some (.ref ed), some (.int (k : Int)), v5, some .non, v7]) ∧ h2 = H3) ⟨⟨_, _, rfl⟩, rfl⟩ ?_ ?_
        · rintro j s h2 hj ⟨⟨v5, v7, rfl⟩, rfl⟩
          walk_at "go"
          refine r_rmth hx rfl ?_
          walk_at "go"
          refine ⟨x, hs, k, 1 + j, rfl, hR, ho, hn, ?_⟩
          walk_at "go"
          refine r_isBB ?_
          walk_at "go"
          rw [gk, gl (1 + j) (by omega) (by omega)]
          refine r_noN (decide_eq_decide.mpr ⟨fun z => by omega, fun z => by omega⟩) ?_
          exact r_next ⟨⟨_, _, rfl⟩, rfl⟩
        · rintro s h2 ⟨⟨v5, v7, rfl⟩, rfl⟩
          exact r_next ⟨⟨_, _, _, _, rfl⟩, e.trans e3⟩
      · rw [z]
        refine r_yesN (fun w => by cases w) ?_
        walk_at "go"
        refine ⟨_, rfl, ?_⟩
        walk_at "go"
        refine r_noN rfl ?_
        walk_at "go"
        refine forR2 ⟨by decide, by decide⟩ ⟨by decide, by decide⟩ (fun j s h2 => (∃ v5 v7, s = [some (.ref x), some (.ref a), some (.ref c), some (.ref ed), some (.int (k : Int)), v5, some (.int e'), v7]) ∧ h2 = H3) ⟨⟨_, _, rfl⟩, rfl⟩ ?_ ?_
        · rintro j s h2 hj ⟨⟨v5, v7, rfl⟩, rfl⟩
          walk_at "go"
          refine r_rmth hx rfl ?_
          walk_at "go"
          refine ⟨x, hs, k, 1 + j, rfl, hR, ho, hn, ?_⟩
          walk_at "go"
          refine r_isBB ?_
          walk_at "go"
          rw [gk, gl (1 + j) (by omega) (by omega)]
          refine r_noN (decide_eq_decide.mpr ⟨fun z => by omega, fun z => by omega⟩) ?_
          exact r_next ⟨⟨_, _, rfl⟩, rfl⟩
        · rintro s h2 ⟨⟨v5, v7, rfl⟩, rfl⟩
          exact r_next ⟨⟨_, _, _, _, rfl⟩, e.trans e3⟩
    · rintro s h ⟨⟨v4, v5, v6, v7, rfl⟩, e⟩
      walk_at "go"
      exact q h (E2.trans e)
end
end K00
namespace K00
open PySem PySem.Spec PyProof.Rows L2 Evl Lay
section
variable {P : Program} {w : World} {K : PySem.W.Frag} {mg : Str → Option Value} {base : Heap} {CB CT CW CRuler CBadStyle CBadWords CBadBook CBadTold CBadPlan CBadText CBadCommand cL__law_ends_right PL__law_ends_right cL__law_bounds_right PL__law_bounds_right : Addr} {tkC tkH : Tok}
/-! ### rulers made -/
def RulX (CRuler p : Addr) (H : Hp) (x : Addr) (hs : List Int) : Prop := ∃ dx hl el, H x = some (.ins CRuler dx [("height_list", .ref hl), ("edge_list", .ref el)]) ∧ H hl = some (.lst (hs.map V.int)) ∧ H el = some (.lst ((WK.edges hs).map V.int)) ∧ x ≠ p ∧ hl ≠ p ∧ el ≠ p
theorem RulX.at {CRuler p : Addr} {H : Hp} {x : Addr} {hs : List Int} (h : RulX CRuler p H x hs) : RulerAt CRuler H x hs := by
  obtain ⟨dx, hl, el, h1, h2, h3, _⟩ := h
  exact ⟨dx, hl, el, h1, h2, h3⟩
theorem RulX.ex {CRuler p : Addr} {H H2 : Hp} {x : Addr} {hs : List Int} (h : RulX CRuler p H x hs) (e : Ex H H2) : RulX CRuler p H2 x hs := by
  obtain ⟨dx, hl, el, h1, h2, h3, n⟩ := h
  exact ⟨dx, hl, el, e _ _ h1, e _ _ h2, e _ _ h3, n⟩
theorem RulX.exb {CRuler p : Addr} {H H2 : Hp} {x : Addr} {hs : List Int} (h : RulX CRuler p H x hs) (e : ExB p H H2) : RulX CRuler p H2 x hs := by
  obtain ⟨dx, hl, el, h1, h2, h3, n1, n2, n3⟩ := h
  exact ⟨dx, hl, el, e _ _ n1 h1, e _ _ n2 h2, e _ _ n3 h3, n1, n2, n3⟩
theorem RulX.exn {CRuler p : Addr} {H H2 : Hp} {x : Addr} {hs : List Int} (h : RulX CRuler p H x hs) (e : LamX.ExtN H H2) : RulX CRuler p H2 x hs := by
  obtain ⟨dx, hl, el, h1, h2, h3, n⟩ := h
  exact ⟨dx, hl, el, exn_at e (fun _ z => by cases z) h1, exn_at e (fun _ z => by cases z) h2, exn_at e (fun _ z => by cases z) h3, n⟩
theorem r_mkR {K : PySem.W.Frag} {CT CW CRuler p a : Addr} {H : Hp} {Q : VK} {E : XK} {hs : List Int} (ha : SqQ K H a (hs.map V.int)) (hc : ckRuler hs = none) (hp : Pur H p) (k : ∀ x H2, H x = none → Ex H H2 → RulX CRuler p H2 x hs → Q (.ref x) H2) : rMk CRuler (spRuler K CT CW CRuler) E Q [.ref a] H := by
  refine r_rmk fun x dx H2 nx nd ne e hx => ⟨x, a, dx, hs, H, rfl, hx, (SqK.refl.ex e).q ha, nx, e, ?_⟩
  rw [hc]
  intro H3 hl el ex n1 n2 h1 h2 h3
  exact ⟨rfl, k x H3 nx (ExB.ex e ex nx) ⟨dx, hl, el, h1, h2, h3, (ne_pur hp nx).symm, (ne_pur (hp.ex e) n1).symm, (ne_pur (hp.ex e) n2).symm⟩⟩
theorem r_mkE {K : PySem.W.Frag} {CT CW CRuler a : Addr} {H : Hp} {Q : VK} {E : XK} {hs : List Int} {e : Er} (ha : SqQ K H a (hs.map V.int)) (hc : ckRuler hs = some e) (k : Raised CT CW e H E) : rMk CRuler (spRuler K CT CW CRuler) E Q [.ref a] H := by
  refine r_rmk fun x dx H2 nx nd ne e2 hx => ⟨x, a, dx, hs, H, rfl, hx, (SqK.refl.ex e2).q ha, nx, e2, ?_⟩
  rw [hc]
  exact k
/-! ### great rulers -/
theorem sum_le {hs : List Int} (ho : WK.HOk hs) {i j : Nat} (h : i ≤ j) (hj : j ≤ hs.length) : (hs.take i).sum ≤ (hs.take j).sum := by
  induction j with
  | zero => rw [show i = 0 by omega]; exact Int.le_refl _
  | succ j ih =>
    by_cases c : i = j + 1
    · rw [c]; exact Int.le_refl _
    · have a := ih (by omega) (by omega)
      have b := Lay.take_sum (show j < hs.length by omega)
      have d := ho _ (List.getElem_mem (show j < hs.length by omega))
      omega
theorem wide_facts {hs : List Int} (h2 : ∀ z ∈ hs, 2 ≤ z) {k : Nat} (hk : k < hs.length) :
    (∀ line : Int, (hs.take k).sum ≤ line → line < (hs.take (k + 1)).sum → WK.cnt hs line hs.length = k) ∧ WK.cnt hs (hs.take (k + 1)).sum hs.length = k + 1 ∧
    nxV hs ((hs.take (k + 1)).sum - 1) = .int (hs.take (k + 1)).sum ∧ nxV hs (hs.take (k + 1)).sum = .int (hs.take (k + 1)).sum ∧ (hs.take (k + 1)).sum = (hs.take k).sum + gi hs k ∧ 2 ≤ gi hs k := by
  have ho : WK.HOk hs := fun z hz => by have := h2 z hz; omega
  have st := Lay.take_sum hk
  have g := WR.gi_get hk
  have g2 := h2 _ (List.getElem_mem hk)
  refine ⟨fun line a b => WR.cnt_is ho (by omega) a fun _ => b, ?_, ?_, ?_, by rw [g]; omega, by rw [g]; exact g2⟩
  · refine WR.cnt_is ho (by omega) (Int.le_refl _) fun z => ?_
    have := Lay.take_sum z
    have := h2 _ (List.getElem_mem z)
    omega
  · unfold nxV
    rw [WR.find_at (line := (hs.take (k + 1)).sum - 1) hk (by show _ ≤ (hs.take (k + 1)).sum; omega) fun j hj => by
      have := sum_le ho (i := j + 1) (j := k) (by omega) (by omega)
      show (hs.take (j + 1)).sum < _
      omega]
    rfl
  · unfold nxV
    rw [WR.find_at (line := (hs.take (k + 1)).sum) hk (by show _ ≤ (hs.take (k + 1)).sum; omega) fun j hj => by
      have := sum_le ho (i := j + 1) (j := k) (by omega) (by omega)
      show (hs.take (j + 1)).sum < _
      omega]
    rfl
theorem far_facts {hs : List Int} (h2 : ∀ z ∈ hs, 2 ≤ z) {line : Int} (h : hs.sum ≤ line) : WK.cnt hs line hs.length = hs.length ∧ nxV hs (line + 1) = .non := by
  have ho : WK.HOk hs := fun z hz => by have := h2 z hz; omega
  refine ⟨WR.cnt_is ho (Nat.le_refl _) (by rw [List.take_length]; exact h) fun z => absurd z (Nat.lt_irrefl _), ?_⟩
  unfold nxV
  have : (WK.edges hs).find? (fun e => decide (line + 1 ≤ e)) = none := by
    rw [List.find?_eq_none]
    intro e he
    obtain ⟨i, hi, e2⟩ := List.mem_iff_getElem.mp he
    have hl : i < hs.length := by rw [WR.edg_len] at hi; exact hi
    have e3 : WK.ed hs i = e := (Option.some.inj ((List.getElem?_eq_getElem hi).symm.trans (WR.edg_get hl))).symm.trans e2
    have := sum_le ho (i := i + 1) (j := hs.length) (by omega) (Nat.le_refl _)
    rw [List.take_length] at this
    have e4 : (hs.take (i + 1)).sum = e := e3
    simp only [decide_eq_true_eq]
    omega
  rw [this]
def spWide (P0 P1 : Addr) : Sp := fun vs H Q _ => ∃ (p : Addr), vs = [.ref p] ∧ Pur H p ∧ LamX.Tabs (TT0 P0 P1) H ∧ ∀ H2, Pur H2 p → LamX.Tabs (TT0 P0 P1) H2 → Q (.bl true) H2
abbrev s__law_wide_right : Stmt := top 31
theorem sc__law_wide_right : FnScope ["purse", "heights", "ruler", "edges", "place", "line", "due", "far", "turn"] ["purse"] (defScope s__law_wide_right) := ⟨rfl, rfl, rfl, by decide +kernel, rfl, by decide +kernel, by decide +kernel⟩
theorem ok_wide (T : Txt K mg CB tkC tkH  CBadStyle CBadWords CBadBook CBadTold CBadPlan CBadText CBadCommand) (F : At K mg "_law_wide_right" s__law_wide_right ["purse"]) (o_Ruler : OC K mg "Ruler" CRuler ["height_list", "edge_list"]) (d__law_draw : Def P w K mg base "_law_draw" 1 ["purse", "many"] spDraw) (d_Ruler : DI P w K mg base "Ruler" CRuler 5 ["self", "heights"] (spRuler K CT CW CRuler))
    (d__law_edges : Def P w K mg base "_law_edges" 1 ["heights"] (spLEdg K)) (d_Ruler_cell : DM P w K mg base CRuler "cell" 1 ["self", "line"] (spCellOf CRuler)) (d_Ruler_next_edge : DM P w K mg base CRuler "next_edge" 2 ["self", "line"] (spNext CRuler))
    (d_Ruler_fits : DM P w K mg base CRuler "fits" 2 ["self", "line", "lines"] (spFits CRuler)) (d__law_ends_right : Def P w K mg base "_law_ends_right" 10 ["ruler", "heights"] (spEnds K CRuler PL__law_ends_right PL__law_bounds_right)) :
    Def P w K mg base "_law_wide_right" 11 ["purse"] (spWide PL__law_ends_right PL__law_bounds_right) := by
  refine Def.mk' F sc__law_wide_right (fun vs H Q E h => ?_) (fun f cdv Ar outer s H vs Q E hr h => ⟨_, (pss_cons (ps_setLc (i := 1) (own := [("turn", 8)]) (g := gName 8) (tt := tYes) rfl sc__law_wide_right.nd rfl rfl (sw_true rfl rfl rfl (by decide +kernel)) (pi_range1 rfl T.n_range (pa_cons pe_int pa_nil)) (blkOk_by (own := [("turn", 8)]) (N := ["purse", "heights", "ruler", "edges", "place", "line", "due", "far", "turn"]) (sc := defScope s__law_wide_right) (by decide +kernel)) (fun _ _ _ _ _ => (pg_name (i := 8) sc__law_wide_right.nd rfl (Or.inl rfl))) (fun _ _ _ _ _ => pts_nil) (fun _ _ _ _ _ => (pe_ifExp (pt_cmpR op_eq (pe_d d__law_draw (hr.mono (by decide)) passL (pa_cons (pv 0) (pa_cons pe_int pa_nil))) pe_int (nomark _)) (pe_op op_sub (pe_op op_pow pe_int pe_int) (pe_d d__law_draw (hr.mono (by decide)) passL (pa_cons (pv 0) (pa_cons pe_int pa_nil)))) (pe_op op_add pe_int (pe_d d__law_draw (hr.mono (by decide)) passL (pa_cons (pv 0) (pa_cons (pe_op op_sub (pe_op op_pow pe_int pe_int) pe_int) pa_nil)))))))
      (pss_cons (ps_asg (pe_op op_pow pe_int pe_int) (pg_sub (pv 1) (pe_d d__law_draw (hr.mono (by decide)) (passes_call (takes_of rfl rfl rfl rfl) (fun _ _ _ _ h => h)) (pa_cons (pv 0) (pa_cons pe_int pa_nil))) set_list))
      (pss_cons (ps_set (i := 2) sc__law_wide_right.nd rfl (Or.inl rfl) (pe_mkD d_Ruler (hr.mono (by decide)) (passes_call (takes_of rfl rfl rfl rfl) (fun _ _ _ _ h => h)) (pa_cons (pe_callTy (r := Lay.rList K) c_list rfl T.n_list (by decide +kernel) (pa_cons (pv 1) pa_nil)) pa_nil)))
      (pss_cons (ps_set (i := 3) sc__law_wide_right.nd rfl (Or.inl rfl) (pe_d d__law_edges (hr.mono (by decide)) (passes_call (takes_of rfl rfl rfl rfl) (fun _ _ _ _ h => h)) (pa_cons (pv 1) pa_nil)))
      (pss_cons (ps_for (passes_of rfl) rfl (pi_range1 rfl T.n_range (pa_cons pe_int pa_nil)) (pg_name (i := 4) sc__law_wide_right.nd rfl (Or.inl rfl)) (pss_cons (ps_for (passes_of rfl) rfl (pi_list (pe_lst (pa_cons (pe_op op_sub (pe_ix (r := rIxL K) ix_list (pv 3) (pv 4) (fun _ _ => rfl)) pe_int) (pa_cons (pe_ix (r := rIxL K) ix_list (pv 3) (pv 4) (fun _ _ => rfl)) pa_nil)))) (pg_name (i := 5) sc__law_wide_right.nd rfl (Or.inl rfl)) (pss_cons (ps_set (i := 6) sc__law_wide_right.nd rfl (Or.inl rfl) (pe_ifExp (pt_cmpR op_lt (pv 5) (pe_ix (r := rIxL K) ix_list (pv 3) (pv 4) (fun _ _ => rfl)) (nomark _)) (pe_op op_add (pv 4) pe_int) (pe_op op_add (pv 4) pe_int)))
      (pss_one (ps_if (PW.pt (pw_or (pt_cmpR op_ne (pe_mD d_Ruler_cell o_Ruler.cl (hr.mono (by decide)) (passes_call (takes_of rfl rfl rfl rfl) (fun _ _ _ _ h => h)) (pv 2) (pa_cons (pv 5) pa_nil)) (pv 6) (nomark _)) (pw_or1 (pt_cmpR op_ne (pe_mD d_Ruler_next_edge o_Ruler.cl (hr.mono (by decide)) (passes_call (takes_of rfl rfl rfl rfl) (fun _ _ _ _ h => h)) (pv 2) (pa_cons (pv 5) pa_nil)) (pe_ix (r := rIxL K) ix_list (pv 3) (pv 4) (fun _ _ => rfl)) (nomark _))))) (pss_one (ps_ret pe_bl)) pss_nil))))
      (pss_cons (ps_if (PW.pt (pw_or (pt_val (pe_mD d_Ruler_fits o_Ruler.cl (hr.mono (by decide)) (passes_call (takes_of rfl rfl rfl rfl) (fun _ _ _ _ h => h)) (pv 2) (pa_cons (pe_op op_sub (pe_ix (r := rIxL K) ix_list (pv 3) (pv 4) (fun _ _ => rfl)) pe_int) (pa_cons pe_int pa_nil)))) (pw_or1 (pt_not (pt_val (pe_mD d_Ruler_fits o_Ruler.cl (hr.mono (by decide)) (passes_call (takes_of rfl rfl rfl rfl) (fun _ _ _ _ h => h)) (pv 2) (pa_cons (pe_op op_sub (pe_ix (r := rIxL K) ix_list (pv 3) (pv 4) (fun _ _ => rfl)) (pe_ix (r := rIxL K) ix_list (pv 1) (pv 4) (fun _ _ => rfl))) (pa_cons (pe_ix (r := rIxL K) ix_list (pv 1) (pv 4) (fun _ _ => rfl)) pa_nil)))))))) (pss_one (ps_ret pe_bl)) pss_nil)
      (pss_one (ps_if (pt_val (pe_mD d_Ruler_fits o_Ruler.cl (hr.mono (by decide)) (passes_call (takes_of rfl rfl rfl rfl) (fun _ _ _ _ h => h)) (pv 2) (pa_cons (pe_op op_sub (pe_ix (r := rIxL K) ix_list (pv 3) (pv 4) (fun _ _ => rfl)) (pe_ix (r := rIxL K) ix_list (pv 1) (pv 4) (fun _ _ => rfl))) (pa_cons (pe_op op_add (pe_ix (r := rIxL K) ix_list (pv 1) (pv 4) (fun _ _ => rfl)) pe_int) pa_nil)))) (pss_one (ps_ret pe_bl)) pss_nil)))))
      (pss_cons (ps_set (i := 7) sc__law_wide_right.nd rfl (Or.inl rfl) (pe_op op_add (pe_ix (r := rIxL K) ix_list (pv 3) pe_int (fun _ _ => rfl)) (pe_d d__law_draw (hr.mono (by decide)) (passes_call (takes_of rfl rfl rfl rfl) (fun _ _ _ _ h => h)) (pa_cons (pv 0) (pa_cons (pe_op op_pow pe_int pe_int) pa_nil)))))
      (pss_one (ps_ret (pe_and (pe_cmpR op_eq (pe_mD d_Ruler_cell o_Ruler.cl (hr.mono (by decide)) (passes_call (takes_of rfl rfl rfl rfl) (fun _ _ _ _ h => h)) (pv 2) (pa_cons (pv 7) pa_nil)) pe_int (nomark _)) (pe_and (pe_cmpR op_isN1 (pe_mD d_Ruler_next_edge o_Ruler.cl (hr.mono (by decide)) (passes_call (takes_of rfl rfl rfl rfl) (fun _ _ _ _ h => h)) (pv 2) (pa_cons (pe_op op_add (pv 7) pe_int) pa_nil)) pe_non (nomark _)) (pe_one (pe_d d__law_ends_right (hr.mono (by decide)) (passes_call (takes_of rfl rfl rfl rfl) (fun _ _ _ _ h => h)) (pa_cons (pv 2) (pa_cons (pv 1) pa_nil)))))))))))))), ?_⟩)
  · obtain ⟨p, rfl, _⟩ := h
    rfl
  · obtain ⟨p, rfl, hp, hT, q⟩ := h
    walk_at "go0"
    refine lcR1 (by decide) (by decide) (fun l i h => ∃ zs : List Int, zs.length = i ∧ (∀ z ∈ zs, 2 ≤ z ∧ z ≤ 1000000000) ∧ h l = some (.lst (zs.map V.int)) ∧ ExB p H h ∧ Pur h p ∧ H l = none) ?_ ?_ ?_ (fun _ => rfl)
    · exact fun l h hl e hn => ⟨[], rfl, fun z hz => (List.not_mem_nil hz).elim, hn, Lay.Ex.b e, hp.ex e, hl⟩
    · intro l i h hi ⟨zs, hz, hall, hl, e, hp3, ln⟩
      have nlp : l ≠ p := (ne_pur hp ln).symm
      have done : ∀ (v : Int) (h2 : Hp), 2 ≤ v → v ≤ 1000000000 → ExB p h h2 → Pur h2 p → AppW l (fun h => ∃ zs : List Int, zs.length = i + 1 ∧ (∀ z ∈ zs, 2 ≤ z ∧ z ≤ 1000000000) ∧ h l = some (.lst (zs.map V.int)) ∧ ExB p H h ∧ Pur h p ∧ H l = none) (.int v) h2 := fun v h2 v0 v1 e4 hp4 => by
        refine appW (e4 _ _ nlp hl) (by rw [List.length_map]; omega) fun H5 e5 h5 => ⟨zs ++ [v], by rw [List.length_append, hz]; rfl, fun z hz' => ?_, by rw [List.map_append]; exact h5, ExB.exB (e.trans e4) e5 ln, hp4.upd e5 nlp.symm, ln⟩
        rcases List.mem_append.mp hz' with q | q
        · exact hall z q
        · rw [List.mem_singleton.mp q]
          omega
      refine r_tIf ?_
      walk_at "go"
      refine ⟨p, 2, rfl, by decide, by decide, hp3, fun r H4 r0 r1 e4 hp4 => ?_⟩
      walk_at "go"
      refine r_ite (fun c => ?_) (fun c => ?_)
      · walk_at "go"
        refine ⟨p, 3, rfl, by decide, by decide, hp4, fun t H5 t0 t1 e5 hp5 => ?_⟩
        walk_at "go"
        exact done _ H5 (by show 2 ≤ (1000000000 : Int) - t; omega) (by show (1000000000 : Int) - t ≤ 1000000000; omega) (e4.trans e5) hp5
      · walk_at "go"
        refine ⟨p, _, rfl, by decide, by decide, hp4, fun t H5 t0 t1 e5 hp5 => ?_⟩
        walk_at "go"
        exact done _ H5 (by omega) (by change t < (1000000000 : Int) - 1 at t1; omega) (e4.trans e5) hp5
    · intro l h3 ⟨zs, hz, hall, hl, e, hp3, ln⟩
      have nlp : l ≠ p := (ne_pur hp ln).symm
      have hT3 := Tabs.exb hT e (.inl hp.lst)
      have zl : zs.length = 63 := hz
      walk_at "go"
      refine ⟨p, 63, rfl, by decide, by decide, hp3, fun r H4 r0 r1 e4 hp4 => ?_⟩
      have hT4 := Tabs.exb hT3 e4 (.inl hp3.lst)
      walk_at "go"
      refine r_setI (e4 _ _ nlp hl) r0 (by rw [zl]; exact r1) fun H5 e5 hl5 _ => ?_
      have hp5 := hp4.upd e5 nlp.symm
      have hT5 := Tabs.exb hT4 e5 (.inl ⟨_, e4 _ _ nlp hl⟩)
      obtain ⟨hs, hhs⟩ : ∃ hs, hs = zs.set r.toNat 1000000000 := ⟨_, rfl⟩
      have hl5 : H5 l = some (.lst (hs.map V.int)) := by rw [hhs]; exact hl5
      have hn : hs.length = 63 := by rw [hhs, List.length_set]; exact zl
      have hb : ∀ z ∈ hs, 2 ≤ z ∧ z ≤ 1000000000 := fun z hz => by
        rw [hhs] at hz
        rcases List.mem_or_eq_of_mem_set hz with m | m
        · exact hall z m
        · rw [m]; decide
      have h2 : ∀ z ∈ hs, 2 ≤ z := fun z hz => (hb z hz).1
      have ho : WK.HOk hs := fun z hz => by have := h2 z hz; omega
      have ck : ckRuler hs = none := ck_yes (by omega) ho fun z hz => (hb z hz).2
      clear hhs hall hl e hT hT3 hT4 e4 e5
      walk_at "go"
      refine r_list (L2.SqL.of hl5) fun hc H6 n6 e6 hhc => ?_
      walk_at "go"
      refine r_mkR (.inl (L2.SqL.of hhc)) ck (hp5.ex e6) fun x H7 nx e7 hX => ?_
      have hl7 := e7 _ _ (e6 _ _ hl5)
      walk_at "go"
      refine ⟨l, hs, rfl, L2.SqL.of hl7, by omega, fun ed H8 ned e8 hed => ?_⟩
      have E8 := e6.trans (e7.trans e8)
      have hX := hX.ex e8
      have hl8 := e8 _ _ hl7
      have hp8 := hp5.ex E8
      have hT8 := LamX.Tabs.ext hT5 E8
      have le := edg_len (hs := hs)
      clear hhc e6 e7 e8 hl7 hp5 hT5 hl5
      walk_at "go"
      refine forR1 (by decide) (by decide) (fun k s h => (∃ v4 v5 v6 v7 v8, s = [some (.ref p), some (.ref l), some (.ref x), some (.ref ed), v4, v5, v6, v7, v8]) ∧ Ex H8 h) ⟨⟨_, _, _, _, _, rfl⟩, Ex.refl _⟩ ?_ ?_
      · rintro k s h hk ⟨⟨v4, v5, v6, v7, v8, rfl⟩, e⟩
        have hX := hX.ex e
        have hed := e _ _ hed
        have hl8 := e _ _ hl8
        obtain ⟨f1, f2, f3, f4, f5, f6⟩ := wide_facts h2 (k := k) (by omega)
        have ge := edg_gi (hs := hs) (c := k) (by omega) (by omega)
        rw [show ((k : Int) + 1).toNat = k + 1 by omega] at ge
        generalize hE : (hs.take (k + 1)).sum = EE at f1 f2 f3 f4 f5 ge
        obtain ⟨dx, hl, el, hx, _⟩ := id hX
        walk_at "go"
        rw [ge]
        walk_at "go"
        refine r_newI2 fun zl2 H9 n9 e9 hzl => ?_
        walk_at "go"
        refine forI (ns := [EE - 1, EE]) (L2.SqL.of hzl) (fun i s h2 => (∃ v5 v6, s = [some (.ref p), some (.ref l), some (.ref x), some (.ref ed), some (.int (k : Int)), v5, v6, v7, v8]) ∧ h2 = H9) ⟨⟨_, _, rfl⟩, rfl⟩ ?_ ?_ ?_
        · rintro i s h2 _ ⟨_, rfl⟩
          exact L2.SqL.of hzl
        · rintro i z s h9 hz ⟨⟨v5, v6, rfl⟩, rfl⟩
          have hX := hX.ex e9
          have hx := e9 _ _ hx
          have hed := e9 _ _ hed
          have zc : z = EE - 1 ∨ z = EE := by
            have := List.mem_of_getElem? hz
            simp only [List.mem_cons, List.not_mem_nil, or_false] at this
            exact this
          walk_at "go"
          refine r_tIf ?_
          walk_at "go"
          rw [ge]
          rcases zc with rfl | rfl
          · refine r_yes (by omega) ?_
            walk_at "go"
            refine r_rmth hx rfl ?_
            walk_at "go"
            refine ⟨x, hs, _, rfl, hX.at, ho, by omega, ?_⟩
            walk_at "go"
            rw [f1 _ (by omega) (by omega)]
            refine r_noN rfl ?_
            walk_at "go"
            refine r_rmth hx rfl ?_
            walk_at "go"
            refine ⟨x, hs, _, rfl, hX.at, ho, by omega, ?_⟩
            rw [f3]
            walk_at "go"
            rw [ge]
            refine r_noN rfl ?_
            exact r_next ⟨⟨_, _, rfl⟩, rfl⟩
          · refine r_no (by omega) ?_
            walk_at "go"
            refine r_rmth hx rfl ?_
            walk_at "go"
            refine ⟨x, hs, _, rfl, hX.at, ho, by omega, ?_⟩
            walk_at "go"
            rw [f2]
            refine r_noN (by omega) ?_
            walk_at "go"
            refine r_rmth hx rfl ?_
            walk_at "go"
            refine ⟨x, hs, _, rfl, hX.at, ho, by omega, ?_⟩
            rw [f4]
            walk_at "go"
            rw [ge]
            refine r_noN rfl ?_
            exact r_next ⟨⟨_, _, rfl⟩, rfl⟩
        · rintro s h9 ⟨⟨v5, v6, rfl⟩, rfl⟩
          have hX := hX.ex e9
          have hx := e9 _ _ hx
          have hed := e9 _ _ hed
          have hl8 := e9 _ _ hl8
          walk_at "go"
          refine r_rmth hx rfl ?_
          walk_at "go"
          rw [ge]
          refine ⟨x, hs, _, _, rfl, hX.at, ho, by omega, ?_⟩
          rw [f1 (EE - 1) (by omega) (by omega), show EE - 1 + 2 - 1 = EE by omega, f2]
          walk_at "go"
          refine r_no (by omega) ?_
          walk_at "go"
          refine r_rmth hx rfl ?_
          walk_at "go"
          rw [ge]
          refine ⟨x, hs, _, _, rfl, hX.at, ho, by omega, ?_⟩
          rw [f1 (EE - gi hs k) (by omega) (by omega), f1 (EE - gi hs k + gi hs k - 1) (by omega) (by omega)]
          walk_at "go"
          refine r_noN rfl ?_
          walk_at "go"
          refine r_rmth hx rfl ?_
          walk_at "go"
          rw [ge]
          refine ⟨x, hs, _, _, rfl, hX.at, ho, by omega, ?_⟩
          rw [f1 (EE - gi hs k) (by omega) (by omega), show EE - gi hs k + (gi hs k + 1) - 1 = EE by omega, f2]
          walk_at "go"
          refine r_no (by omega) ?_
          exact r_next ⟨⟨_, _, _, _, _, rfl⟩, e.trans e9⟩
      · rintro s h ⟨⟨v4, v5, v6, v7, v8, rfl⟩, e⟩
        have hX := hX.ex e
        have hed := e _ _ hed
        have hl8 := e _ _ hl8
        have hp9 := hp8.ex e
        have hT9 := LamX.Tabs.ext hT8 e
        have ge := edg_gi (hs := hs) (c := 62) (by omega) (by omega)
        rw [show ((62 : Int) + 1).toNat = 63 from rfl, List.take_of_length_le (by omega)] at ge
        walk_at "go"
        rw [ge]
        refine ⟨p, _, rfl, by decide, .inr rfl, hp9, fun r H10 r0 r1 e10 hp10 => ?_⟩
        have hT10 := Tabs.exb hT9 e10 (.inl hp9.lst)
        have hX := hX.exb e10
        have hl10 := e10 _ _ nlp hl8
        obtain ⟨g1, g2⟩ := far_facts h2 (line := hs.sum + r) (by omega)
        obtain ⟨dx, hl, el, hx, _⟩ := id hX
        walk_at "go"
        refine r_rmth hx rfl ?_
        walk_at "go"
        refine ⟨x, hs, _, rfl, hX.at, ho, by omega, ?_⟩
        rw [g1, hn]
        walk_at "go"
        refine r_yes (by omega) ?_
        walk_at "go"
        refine r_rmth hx rfl ?_
        walk_at "go"
        refine ⟨x, hs, _, rfl, hX.at, ho, by omega, ?_⟩
        rw [g2]
        walk_at "go"
        refine r_yes rfl ?_
        walk_at "go"
        refine ⟨x, l, hs, rfl, hX.at, L2.SqL.of hl10, ho, by omega, hT10, fun H11 e11 hT11 => ?_⟩
        exact q H11 (hp10.exn e11) hT11
end
end K00
namespace K00
open PySem PySem.Spec PyProof.Rows L2 Evl Lay
section
variable {P : Program} {w : World} {K : PySem.W.Frag} {mg : Str → Option Value} {base : Heap} {CB CT CW CRuler CBadStyle CBadWords CBadBook CBadTold CBadPlan CBadText CBadCommand cL__law_ends_right PL__law_ends_right cL__law_bounds_right PL__law_bounds_right : Addr} {tkC tkH : Tok}
/-! ### caught by the base -/
def spBase (K : PySem.W.Frag) : Sp := fun vs H Q _ => ∃ (a : Addr) (hs : List Int) (i : Int), vs = [.ref a] ∧ SqL K H a (hs.map V.int) ∧ ckRuler hs = some (.ruler i) ∧ ∀ H2, Ex H H2 → Q (.bl true) H2
abbrev s__law_refused_by_base : Stmt := top 32
theorem sc__law_refused_by_base : FnScope ["heights", "e"] ["heights"] (defScope s__law_refused_by_base) := ⟨rfl, rfl, rfl, by decide +kernel, rfl, by decide +kernel, by decide +kernel⟩
theorem ok_base (T : Txt K mg CB tkC tkH  CBadStyle CBadWords CBadBook CBadTold CBadPlan CBadText CBadCommand) (F : At K mg "_law_refused_by_base" s__law_refused_by_base ["heights"]) (x_TooMany : Exn P w K mg base "TooMany" "what" CT) (x_BadRuler : Exn P w K mg base "BadRuler" "place" CW) (xi_W : XI K CW) (x_WB : PySem.W.exmOne K (.ref CW) (.ref CB) = some true)
    (kW1 : PySem.W.kitOne K (.ref CW) (.type "ValueError") = some true) (kW2 : PySem.W.kitOne K (.ref CW) (.ref CW) = some true) (kW3 : PySem.W.kitAny K (.ref CW) [.ref CT, .ref CBadBook, .ref CBadText] = some false) (d_Ruler : DI P w K mg base "Ruler" CRuler 5 ["self", "heights"] (spRuler K CT CW CRuler)) :
    Def P w K mg base "_law_refused_by_base" 7 ["heights"] (spBase K) := by
  refine Def.mk' F sc__law_refused_by_base (fun vs H Q E h => ?_) (fun f cdv Ar outer s H vs Q E hr h => ⟨_, (pss_cons (ps_tryA rfl rfl sc__law_refused_by_base.nd takes0 (fun W pn xe tk po => (pss_one (ps_expr (pe_mkT 2 d_Ruler (hr.mono (by decide)) tk (pa_cons (pv 0) pa_nil))))) (HdsA.cons ⟨rfl, by decide, Or.inl T.g_ComesError⟩ (i := 1) rfl rfl (fun a oe cls d pn hz hf => (pss_one (ps_ret (pe_and (pe_callB (r := rIsX K CW a cls d) (call_isX xi_W hz hf) rfl T.n_isinstance (by decide +kernel) (pa_cons (pv 1) (pa_cons (pe_bltn (v := .ty "ValueError") (u := .type "ValueError") rfl T.n_ValueError (by decide +kernel) rfl) pa_nil))) (pe_and (pe_callB (r := rIsX K CW a cls d) (call_isX xi_W hz hf) rfl T.n_isinstance (by decide +kernel) (pa_cons (pv 1) (pa_cons (pe_glob (v := .ref CW) rfl x_BadRuler.g rfl) pa_nil))) (pe_one (pe_not (pe_callB (r := rIsXT K CW a cls d) (call_isXT xi_W hz hf) rfl T.n_isinstance (by decide +kernel) (pa_cons (pv 1) (pa_cons (pe_tup (pa_cons (pe_glob (v := .ref CT) rfl x_TooMany.g rfl) (pa_cons (pe_glob (v := .ref CBadBook) rfl T.g_BadBook rfl) (pa_cons (pe_glob (v := .ref CBadText) rfl T.g_BadText rfl) pa_nil)))) pa_nil)))))))))) HdsA.nil))
      (pss_one (ps_ret pe_bl))), ?_⟩)
  · obtain ⟨a, hs, i, rfl, _⟩ := h
    rfl
  · obtain ⟨a, hs, i, rfl, ha, hc, q⟩ := h
    walk_at "go0"
    refine r_mkE (.inl ha) hc ?_
    intro d H2 e2 hd σ' hl
    refine ⟨true, x_WB, fun _ o ho => ?_, fun z => absurd z (by decide)⟩
    have ev : (σ'.set 1 (some (.ref o)))[1]? = some (some (.ref o)) := by rw [List.getElem?_set_self (by rw [hl]; decide)]
    refine r_ret ?_
    refine r_andV ?_
    refine r_cb ?_
    refine r_cons ?_
    refine r_var ev ?_
    walk_at "go"
    refine ⟨.ty "ValueError", .type "ValueError", true, d, _, rfl, rfl, .ty _, rfl, hd, kW1, true, rfl, ?_⟩
    refine iteT ?_
    refine r_andV ?_
    refine r_cb ?_
    refine r_cons ?_
    refine r_var ev ?_
    walk_at "go"
    refine ⟨.ref CW, .ref CW, true, d, _, rfl, rfl, .own _, rfl, hd, kW2, true, rfl, ?_⟩
    refine iteT ?_
    refine r_notV ?_
    refine r_cb ?_
    refine r_cons ?_
    refine r_var ev ?_
    walk_at "go"
    refine r_newT (len3 rfl) fun t H3 n3 e3 ht => ?_
    walk_at "go"
    refine ⟨t, [.ref CT, .ref CBadBook, .ref CBadText], _, false, d, _, rfl, rfl, ht, .cons (.own _) (.cons (.own _) (.cons (.own _) .nil)), rfl, e3 _ _ hd, kW3, false, rfl, ?_⟩
    exact q H3 (e2.trans e3)
/-! ### bounds -/
def spBnds (P0 P1 : Addr) : Sp := fun vs H Q _ => ∃ (p : Addr), vs = [.ref p] ∧ Pur H p ∧ LamX.Tabs (TT0 P0 P1) H ∧ ∀ H2, Q (.bl true) H2
theorem ck_bad {hs : List Int} {at' : Nat} {z : Int} (hn : hs.length ≤ 63) (hb : ∀ z ∈ hs, z ≤ 1000000000) (h1 : hs[at']? = some z) (h2 : z < 1) (h3 : ∀ (j : Nat) (y : Int), j < at' → hs[j]? = some y → 1 ≤ y) : ckRuler hs = some (.ruler (at' + 1)) := by
  unfold ckRuler
  rw [if_neg (by omega)]
  have n : ckNums "heights" hs 1000000000 = none := by
    unfold ckNums
    rw [if_neg]
    intro hany
    obtain ⟨z, hz, hd⟩ := List.any_eq_true.mp hany
    have := hb z hz
    have := of_decide_eq_true hd
    omega
  rw [n, badAt_some h1 h2 h3]
theorem ck_high {hs : List Int} {z : Int} (hn : hs.length ≤ 63) (hz : z ∈ hs) (h : 1000000000 < z) : ckRuler hs = some (.many "heights") := by
  unfold ckRuler
  rw [if_neg (by omega)]
  have n : ckNums "heights" hs 1000000000 = some (.many "heights") := by
    unfold ckNums
    rw [if_pos (List.any_eq_true.mpr ⟨z, hz, decide_eq_true h⟩)]
  rw [n]
theorem ck_many {hs : List Int} (hn : 63 < hs.length) : ckRuler hs = some (.many "cells") := by
  unfold ckRuler
  rw [if_pos (by omega)]
abbrev s__law_bounds_right : Stmt := top 33
theorem sc__law_bounds_right : FnScope ["purse", "heights", "at", "spoilt"] ["purse"] (defScope s__law_bounds_right) := ⟨rfl, rfl, rfl, by decide +kernel, rfl, by decide +kernel, by decide +kernel⟩
theorem ok_bounds (T : Txt K mg CB tkC tkH  CBadStyle CBadWords CBadBook CBadTold CBadPlan CBadText CBadCommand) (F : AtL K mg "_law_bounds_right" s__law_bounds_right ["purse"] cL__law_bounds_right) (TB__law_bounds_right : LamX.TabB base mg cL__law_bounds_right PL__law_bounds_right) (A__law_refused : At K mg "_law_refused" s__law_refused ["action"]) (hPL : PL__law_ends_right ≠ PL__law_bounds_right)
    (o_Ruler : OC K mg "Ruler" CRuler ["height_list", "edge_list"]) (x_TooMany : Exn P w K mg base "TooMany" "what" CT) (x_BadRuler : Exn P w K mg base "BadRuler" "place" CW) (x_WT : PySem.W.exmOne K (.ref CW) (.ref CT) = some false) (d__law_draw : Def P w K mg base "_law_draw" 1 ["purse", "many"] spDraw)
    (d__law_heights : Def P w K mg base "_law_heights" 2 ["purse", "many", "least", "most"] spHeights) (d_Ruler : DI P w K mg base "Ruler" CRuler 5 ["self", "heights"] (spRuler K CT CW CRuler)) (d_Ruler_many : DM P w K mg base CRuler "many" 1 ["self"] (spMany CRuler)) (d_Ruler_last : DM P w K mg base CRuler "last" 4 ["self", "cell"] (spLast CT CW CRuler))
    (d_Ruler_heights : DM P w K mg base CRuler "heights" 1 ["self"] (spHts K CRuler)) (d_Ruler_edges : DM P w K mg base CRuler "edges" 1 ["self"] (spEdg K CRuler)) (d__law_refused_by_base : Def P w K mg base "_law_refused_by_base" 7 ["heights"] (spBase K)) :
    Def P w K mg base "_law_bounds_right" 10 ["purse"] (spBnds PL__law_ends_right PL__law_bounds_right) := by
  have LM__law_bounds_right := tt_m1 (P0 := PL__law_ends_right) (P1 := PL__law_bounds_right)
  have LU__law_bounds_right := tt_u1 hPL
  refine Def.mkL F sc__law_bounds_right (fun vs H Q E h => ?_) (fun f Ar outer s H vs Q E hr h => ⟨_, (pss_cons (ps_set (i := 1) sc__law_bounds_right.nd rfl (Or.inl rfl) (pe_d d__law_heights (hr.mono (by decide)) (passes_call (takes_of rfl rfl rfl rfl) (fun _ _ _ _ h => h)) (pa_cons (pv 0) (pa_cons (pe_op op_add pe_int (pe_d d__law_draw (hr.mono (by decide)) (passes_call (takes_of rfl rfl rfl rfl) (fun _ _ _ _ h => h)) (pa_cons (pv 0) (pa_cons pe_int pa_nil)))) (pa_cons pe_int (pa_cons pe_int pa_nil))))))
      (pss_cons (ps_set (i := 2) sc__law_bounds_right.nd rfl (Or.inr rfl) (pe_d d__law_draw (hr.mono (by decide)) (passes_call (takes_of rfl rfl rfl rfl) (fun _ _ _ _ h => h)) (pa_cons (pv 0) (pa_cons (pe_callB (r := Lay.rLen K) c_len rfl T.n_len PySem.boot_len (pa_cons (pv 1) pa_nil)) pa_nil))))
      (pss_cons (ps_set (i := 3) sc__law_bounds_right.nd rfl (Or.inr rfl) (pe_callTy (r := Lay.rList K) c_list rfl T.n_list (by decide +kernel) (pa_cons (pv 1) pa_nil)))
      (pss_cons (ps_asg (pe_op op_sub pe_int (pe_d d__law_draw (hr.mono (by decide)) (passes_call (takes_of rfl rfl rfl rfl) (fun _ _ _ _ h => h)) (pa_cons (pv 0) (pa_cons pe_int pa_nil)))) (pg_sub (pv 3) (pv 2) set_list))
      (pss_cons (ps_if (pt_cmpR (r := rNeD K) (op_neD hr.units) (pe_lam (k := 7) (t := fun E => _) A__law_refused sc__law_refused rfl (Or.inl (by decide +kernel)) (fun g cdg => ref_gives T x_TooMany x_BadRuler g cdg) TB__law_bounds_right LM__law_bounds_right LU__law_bounds_right (hr.mono (by decide)) (LamX.lamS_by (show LamX.lamSB (defScope s__law_bounds_right) _ = true by decide +kernel)) (fun _ _ _ _ _ => rfl) (fun A outer s H E f c' hr => (pe_mkD d_Ruler (hr.mono (by decide)) (passes_call (takes_of rfl rfl rfl rfl) (fun _ _ _ _ h => h)) (pa_cons (pv 3) pa_nil)))) (pe_tup (pa_cons pe_str (pa_cons (pe_op op_add (pv 2) pe_int) pa_nil))) (nomark _)) (pss_one (ps_ret pe_bl)) pss_nil)
      (pss_cons (ps_if (PW.pt (pw_or (pt_cmpR (r := rNeD K) (op_neD hr.units) (pe_lam (k := 7) (t := fun E => _) A__law_refused sc__law_refused rfl (Or.inl (by decide +kernel)) (fun g cdg => ref_gives T x_TooMany x_BadRuler g cdg) TB__law_bounds_right LM__law_bounds_right LU__law_bounds_right (hr.mono (by decide)) (LamX.lamS_by (show LamX.lamSB (defScope s__law_bounds_right) _ = true by decide +kernel)) (fun _ _ _ _ _ => rfl) (fun A outer s H E f c' hr => (pe_mkD d_Ruler (hr.mono (by decide)) (passes_call (takes_of rfl rfl rfl rfl) (fun _ _ _ _ h => h)) (pa_cons (pe_op op_cat (pv 3) (pe_lst (pa_cons pe_int pa_nil))) pa_nil)))) (pe_tup (pa_cons pe_str (pa_cons (pe_op op_add (pv 2) pe_int) pa_nil))) (nomark _)) (pw_or1 (pt_cmpR (r := rNeD K) (op_neD hr.units) (pe_mD0 d_Ruler_heights o_Ruler.cl (hr.mono (by decide)) (passes_call (takes_of rfl rfl rfl rfl) (fun _ _ _ _ h => h)) (pe_mkD d_Ruler (hr.mono (by decide)) (passes_call (takes_of rfl rfl rfl rfl) (fun _ _ _ _ h => h)) (pa_cons (pe_callTy (r := Lay.rTuple K) c_tuple rfl T.n_tuple (by decide +kernel) (pa_cons (pv 1) pa_nil)) pa_nil))) (pv 1) (nomark _))))) (pss_one (ps_ret pe_bl)) pss_nil)
      (pss_cons (ps_if (pt_not (pt_val (pe_d d__law_refused_by_base (hr.mono (by decide)) (passes_call (takes_of rfl rfl rfl rfl) (fun _ _ _ _ h => h)) (pa_cons (pv 3) pa_nil)))) (pss_one (ps_ret pe_bl)) pss_nil)
      (pss_cons (ps_if (pt_cmpR (r := rNeD K) (op_neD hr.units) (pe_lam (k := 7) (t := fun E => _) A__law_refused sc__law_refused rfl (Or.inl (by decide +kernel)) (fun g cdg => ref_gives T x_TooMany x_BadRuler g cdg) TB__law_bounds_right LM__law_bounds_right LU__law_bounds_right (hr.mono (by decide)) (LamX.lamS_by (show LamX.lamSB (defScope s__law_bounds_right) _ = true by decide +kernel)) (fun _ _ _ _ _ => rfl) (fun A outer s H E f c' hr => (pe_mkD d_Ruler (hr.mono (by decide)) (passes_call (takes_of rfl rfl rfl rfl) (fun _ _ _ _ h => h)) (pa_cons (pe_op op_cat (pv 3) (pe_lst (pa_cons (pe_op op_add (pe_op op_add (pe_op op_pow pe_int pe_int) pe_int) (pv 2)) pa_nil))) pa_nil)))) (pe_tup (pa_cons pe_str (pa_cons pe_str pa_nil))) (nomark _)) (pss_one (ps_ret pe_bl)) pss_nil)
      (pss_cons (ps_if (pt_cmpR (r := rNeD K) (op_neD hr.units) (pe_lam (k := 7) (t := fun E => _) A__law_refused sc__law_refused rfl (Or.inl (by decide +kernel)) (fun g cdg => ref_gives T x_TooMany x_BadRuler g cdg) TB__law_bounds_right LM__law_bounds_right LU__law_bounds_right (hr.mono (by decide)) (LamX.lamS_by (show LamX.lamSB (defScope s__law_bounds_right) _ = true by decide +kernel)) (fun _ _ _ _ _ => rfl) (fun A outer s H E f c' hr => (pe_mkD d_Ruler (hr.mono (by decide)) (passes_call (takes_of rfl rfl rfl rfl) (fun _ _ _ _ h => h)) (pa_cons (pe_op op_rep (pe_lst (pa_cons (pe_op op_add (pe_op op_pow pe_int pe_int) pe_int) pa_nil)) pe_int) pa_nil)))) (pe_tup (pa_cons pe_str (pa_cons pe_str pa_nil))) (nomark _)) (pss_one (ps_ret pe_bl)) pss_nil)
      (pss_one (ps_ret (pe_and (pe_cmpR op_eq (pe_mD0 d_Ruler_many o_Ruler.cl (hr.mono (by decide)) (passes_call (takes_of rfl rfl rfl rfl) (fun _ _ _ _ h => h)) (pe_mkD d_Ruler (hr.mono (by decide)) (passes_call (takes_of rfl rfl rfl rfl) (fun _ _ _ _ h => h)) (pa_cons (pe_op op_rep (pe_lst (pa_cons pe_int pa_nil)) pe_int) pa_nil))) pe_int (nomark _)) (pe_and (pe_cmpR (r := rEqD K) (op_eqD hr.units) (pe_mD0 d_Ruler_edges o_Ruler.cl (hr.mono (by decide)) (passes_call (takes_of rfl rfl rfl rfl) (fun _ _ _ _ h => h)) (pe_mkD d_Ruler (hr.mono (by decide)) (passes_call (takes_of rfl rfl rfl rfl) (fun _ _ _ _ h => h)) (pa_cons (pe_lst pa_nil) pa_nil))) (pe_lst pa_nil) (nomark _)) (pe_one (pe_cmpR op_isN1 (pe_mD d_Ruler_last o_Ruler.cl (hr.mono (by decide)) (passes_call (takes_of rfl rfl rfl rfl) (fun _ _ _ _ h => h)) (pe_mkD d_Ruler (hr.mono (by decide)) (passes_call (takes_of rfl rfl rfl rfl) (fun _ _ _ _ h => h)) (pa_cons (pe_lst pa_nil) pa_nil)) (pa_cons pe_int pa_nil)) pe_non (nomark _)))))))))))))))), ?_⟩)
  · obtain ⟨p, rfl, _⟩ := h
    rfl
  · obtain ⟨p, rfl, hp, hT, q⟩ := h
    walk_at "go0"
    refine ⟨p, 20, rfl, by decide, by decide, hp, fun x H1 x0 x1 e1 hp1 => ?_⟩
    have hT1 := Tabs.exb hT e1 (.inl hp.lst)
    walk_at "go"
    refine ⟨p, 1 + x, 1, 9, rfl, by omega, by omega, by decide, by decide, by decide, hp1, fun l H2 hs nl e2 hp2 nlp hn hb hl => ?_⟩
    have hT2 := Tabs.exb hT1 e2 (.inl hp1.lst)
    walk_at "go"
    refine ⟨p, _, rfl, by omega, by omega, hp2, fun aa H3 a0 a1 e3 hp3 => ?_⟩
    have hT3 := Tabs.exb hT2 e3 (.inl hp2.lst)
    have hl3 := e3 _ _ nlp hl
    obtain ⟨a, rfl⟩ : ∃ a : Nat, aa = a := ⟨aa.toNat, by omega⟩
    have ah : a < hs.length := by omega
    walk_at "go"
    refine r_list (L2.SqL.of hl3) fun sp H4 n4 e4 hsp => ?_
    have hp4 := hp3.ex e4
    have nsp : sp ≠ p := (ne_pur hp3 n4).symm
    walk_at "go"
    refine ⟨p, 3, rfl, by decide, by decide, hp4, fun y H5 y0 y1 e5 hp5 => ?_⟩
    have hT5 := Tabs.exb (LamX.Tabs.ext hT3 e4) e5 (.inl hp4.lst)
    walk_at "go"
    refine r_setI (e5 _ _ nsp hsp) a0 a1 fun H6 e6 hsp6 _ => ?_
    have nls : l ≠ sp := ne_of_none hl3 n4
    have hl6 : H6 l = some (.lst (hs.map V.int)) := e6 _ _ nls (e5 _ _ nlp (e4 _ _ hl3))
    have hT6 := Tabs.exb hT5 e6 (.inl ⟨_, e5 _ _ nsp hsp⟩)
    rw [Int.toNat_natCast] at hsp6
    obtain ⟨ss, hss⟩ : ∃ ss, ss = hs.set a (0 - y) := ⟨_, rfl⟩
    rw [← hss] at hsp6
    have sn : ss.length ≤ 20 := by rw [hss, List.length_set]; omega
    have sg : ss[a]? = some (0 - y) := by rw [hss, List.getElem?_set_self ah]
    have sb : ∀ z ∈ ss, z ≤ 9 := fun z hz => by
      rw [hss] at hz
      rcases List.mem_or_eq_of_mem_set hz with m | m
      · exact (hb z m).2
      · omega
    have sj : ∀ (j : Nat) (u : Int), j < a → ss[j]? = some u → 1 ≤ u := fun j u hj hu => by
      rw [hss, List.getElem?_set_ne (by omega)] at hu
      exact (hb u (List.mem_of_getElem? hu)).1
    have ck1 : ckRuler ss = some (.ruler (a + 1)) := ck_bad (by omega) (fun z hz => by have := sb z hz; omega) sg (by omega) sj
    have ckh : ckRuler hs = none := ck_yes (by omega) (fun z hz => (hb z hz).1) fun z hz => by have := (hb z hz).2; omega
    have sl : a < ss.length := by rw [hss, List.length_set]; exact ah
    have hp6 := hp5.upd e6 nsp.symm
    clear hss hl hl3 hsp e1 e2 e3 e4 e5 e6 hT hT1 hT2 hT3 hT5 hp hp1 hp2 hp3 hp4 hp5
    walk_at "go"
    refine r_refE x_TooMany x_BadRuler x_WT hT6 fun gA E1 eA hTA hE => ?_
    walk_at "go"
    refine r_mkE (.inl (exn_l eA (L2.SqL.of hsp6))) ck1 (hE _ gA fun t gB eB ht => ?_)
    have eB' := LamX.ExtN.trans eA (Ex.n eB)
    have hTB := LamX.Tabs.ext hTA eB
    walk_at "go"
    refine r_newT (len3 rfl) fun t2 gC nC eC ht2 => ?_
    have eC' := LamX.ExtN.trans eB' (Ex.n eC)
    have hTC := LamX.Tabs.ext hTB eC
    walk_at "go"
    refine r_neSame (dp_er (e := .ruler (a + 1)) (eC _ _ ht)) (dp_er (e := .ruler (a + 1)) ht2) (sh_er trivial) ?_
    walk_at "go"
    refine r_refE x_TooMany x_BadRuler x_WT hTC fun gD E2 eD hTD hE2 => ?_
    have eD' := LamX.ExtN.trans eC' eD
    walk_at "go"
    refine r_newI1 fun t3 gE nE eE ht3 => ?_
    walk_at "go"
    refine r_catI (eE _ _ (exn_at eD' (fun _ z => by cases z) hsp6)) ht3 (by show ss.length + 1 ≤ 100000; omega) fun t4 gF nF eF ht4 => ?_
    have ck2 : ckRuler (ss ++ [0]) = some (.ruler (a + 1)) := ck_bad (by rw [List.length_append]; show ss.length + 1 ≤ 63; omega) (fun z hz => by
      rcases List.mem_append.mp hz with m | m
      · have := sb z m; omega
      · rw [List.mem_singleton.mp m]; decide) (by rw [List.getElem?_append_left sl]; exact sg) (by omega) (fun j u hj hu => by rw [List.getElem?_append_left (by omega)] at hu; exact sj j u hj hu)
    walk_at "go"
    refine r_mkE (.inl (L2.SqL.of ht4)) ck2 (hE2 _ gF fun t5 gG eG ht5 => ?_)
    have eG' := LamX.ExtN.trans eD' (Ex.n (eE.trans (eF.trans eG)))
    have hTG := LamX.Tabs.ext hTD (eE.trans (eF.trans eG))
    clear eA hE eD hE2 eB eC ht ht2 hTA hTB hTC hTD eB' eC' eD' eE eF eG ht3 ht4 ck2
    walk_at "go"
    refine r_newT (len3 rfl) fun t6 gH nH eH ht6 => ?_
    have eH' := LamX.ExtN.trans eG' (Ex.n eH)
    have hTH := LamX.Tabs.ext hTG eH
    walk_at "go"
    refine r_neSame (dp_er (e := .ruler (a + 1)) (eH _ _ ht5)) (dp_er (e := .ruler (a + 1)) ht6) (sh_er trivial) ?_
    walk_at "go"
    have hlH : gH l = some (.lst (hs.map V.int)) := exn_at eH' (fun _ z => by cases z) hl6
    have hspH : gH sp = some (.lst (ss.map V.int)) := exn_at eH' (fun _ z => by cases z) hsp6
    have hpH := hp6.exn eH'
    clear ht5 ht6 eG' hTG eH eH' hl6 hsp6 hp6 hT6
    refine r_tupleL (L2.SqL.of hlH) fun t7 gI nI eI ht7 => ?_
    walk_at "go"
    refine r_mkR (.inr (L2.SqT.of ht7)) ckh (hpH.ex eI) fun x gJ nx eJ hX => ?_
    obtain ⟨dx, hl', el, hx, _⟩ := id hX
    walk_at "go"
    refine r_rmth hx rfl ?_
    walk_at "go"
    refine ⟨x, hs, rfl, hX.at, fun l2 gK nK eK hl2 => ?_⟩
    have EK := eI.trans (eJ.trans eK)
    walk_at "go"
    refine r_neSame (dp_ints (L2.SqL.of hl2)) (dp_ints (L2.SqL.of (EK _ _ hlH))) (sh_ints _) ?_
    have hTK := LamX.Tabs.ext hTH EK
    walk_at "go"
    refine ⟨sp, ss, a + 1, rfl, L2.SqL.of (EK _ _ hspH), ck1, fun gL eL => ?_⟩
    have hTL := LamX.Tabs.ext hTK eL
    have hspL := eL _ _ (EK _ _ hspH)
    have hpL := (hpH.ex EK).ex eL
    clear hX hx ht7 eI eJ eK hl2 EK hTK hTH hlH hspH hpH
    walk_at "go"
    refine r_refE x_TooMany x_BadRuler x_WT hTL fun gA E1 eA hTA hE => ?_
    walk_at "go"
    refine r_newI1 fun t3 gE nE eE ht3 => ?_
    walk_at "go"
    refine r_catI (eE _ _ (exn_at eA (fun _ z => by cases z) hspL)) ht3 (by show ss.length + 1 ≤ 100000; omega) fun t4 gF nF eF ht4 => ?_
    walk_at "go"
    refine r_mkE (.inl (L2.SqL.of ht4)) (ck_high (by rw [List.length_append]; show ss.length + 1 ≤ 63; omega) (List.mem_append_right _ List.mem_cons_self) (by show (1000000000 : Int) < 1000000000 + 1 + a; omega)) (hE _ gF fun t5 gG eG ht5 => ?_)
    have EG := eE.trans (eF.trans eG)
    have hTG := LamX.Tabs.ext hTA EG
    have hpG := (hpL.exn eA).ex EG
    clear eA hTA hE eE eF eG EG ht3 ht4 hspL hTL hpL
    walk_at "go"
    refine r_newT (len3 rfl) fun t6 gH nH eH ht6 => ?_
    have hTH := LamX.Tabs.ext hTG eH
    have hpH := hpG.ex eH
    walk_at "go"
    refine r_neSame (dp_er (e := .many "heights") (eH _ _ ht5)) (dp_er (e := .many "heights") ht6) (sh_er (by show PyData.strOk _ = true; decide +kernel)) ?_
    clear ht5 ht6 eH hTG hpG
    walk_at "go"
    refine r_refE x_TooMany x_BadRuler x_WT hTH fun gA E1 eA hTA hE => ?_
    walk_at "go"
    refine r_newI1 fun t3 gE nE eE ht3 => ?_
    walk_at "go"
    refine r_rep ht3 (by decide) (by decide) fun t4 gF nF eF ht4 => ?_
    rw [← List.map_replicate] at ht4
    walk_at "go"
    refine r_mkE (.inl (L2.SqL.of ht4)) (ck_many (by rw [List.length_replicate]; decide)) (hE _ gF fun t5 gG eG ht5 => ?_)
    have EG := eE.trans (eF.trans eG)
    have hpG := (hpH.exn eA).ex EG
    clear eA hTA hE eE eF eG EG ht3 ht4 hTH hpH
    walk_at "go"
    refine r_newT (len3 rfl) fun t6 gH nH eH ht6 => ?_
    have hpH := hpG.ex eH
    walk_at "go"
    refine r_neSame (dp_er (e := .many "cells") (eH _ _ ht5)) (dp_er (e := .many "cells") ht6) (sh_er (by show PyData.strOk _ = true; decide +kernel)) ?_
    clear ht5 ht6 eH hpG
    walk_at "go"
    refine r_newI1 fun t3 gE nE eE ht3 => ?_
    walk_at "go"
    refine r_rep ht3 (by decide) (by decide) fun t4 gF nF eF ht4 => ?_
    rw [← List.map_replicate] at ht4
    have ones : ∀ z ∈ List.replicate (63 : Int).toNat (1 : Int), z = 1 := fun z hz => (List.mem_replicate.mp hz).2
    have hpF := hpH.ex (eE.trans eF)
    walk_at "go"
    refine r_mkR (.inl (L2.SqL.of ht4)) (ck_yes (by rw [List.length_replicate]; decide) (fun z hz => by rw [ones z hz]; decide) fun z hz => by rw [ones z hz]; decide) hpF fun x gG nx eG hX => ?_
    have hpG := hpF.ex eG
    obtain ⟨dx, hl', el, hx, _⟩ := id hX
    walk_at "go"
    refine r_rmth hx rfl ?_
    walk_at "go"
    refine ⟨x, _, rfl, hX.at, ?_⟩
    rw [List.length_replicate]
    walk_at "go"
    refine r_yes (by decide) ?_
    walk_at "go"
    refine r_newI0 fun t5 gI nI eI ht5 => ?_
    walk_at "go"
    refine r_mkR (hs := []) (.inl (L2.SqL.of ht5)) rfl (hpG.ex eI) fun x2 gJ nx2 eJ hX2 => ?_
    have hpJ := (hpG.ex eI).ex eJ
    obtain ⟨dx2, hl2, el2, hx2, _⟩ := id hX2
    walk_at "go"
    refine r_rmth hx2 rfl ?_
    walk_at "go"
    refine ⟨x2, [], rfl, hX2.at, fun l2 gK nK eK hl2 => ?_⟩
    walk_at "go"
    refine r_newI0 fun t6 gL nL eL ht6 => ?_
    have hpL := (hpJ.ex eK).ex eL
    walk_at "go"
    refine r_eqSame (dp_ints (ns := []) (L2.SqL.of (eL _ _ hl2))) (dp_ints (ns := []) (L2.SqL.of ht6)) (sh_ints _) ?_
    walk_at "go"
    refine r_newI0 fun t7 gM nM eM ht7 => ?_
    walk_at "go"
    refine r_mkR (hs := []) (.inl (L2.SqL.of ht7)) rfl (hpL.ex eM) fun x3 gN nx3 eN hX3 => ?_
    obtain ⟨dx3, hl3, el3, hx3, _⟩ := id hX3
    walk_at "go"
    refine r_rmth hx3 rfl ?_
    walk_at "go"
    refine ⟨x3, [], 1, rfl, hX3.at, by decide, by decide, ?_⟩
    rw [show ckCell [] 1 = none from rfl, show lastV [] 1 = V.non from rfl]
    walk_at "go"
    exact q _
end
end K00
namespace K00
open PySem PySem.Spec PyProof.Rows L2 Evl Lay
section
variable {P : Program} {w : World} {K : PySem.W.Frag} {mg : Str → Option Value} {base : Heap} {CB CT CW CRuler CBadStyle CBadWords CBadBook CBadTold CBadPlan CBadText CBadCommand cL__law_ends_right PL__law_ends_right cL__law_bounds_right PL__law_bounds_right : Addr} {tkC tkH : Tok}
/-! ### the law -/
def spLaw (K : PySem.W.Frag) (cs : List (Addr × Addr)) : Sp := fun vs H Q _ => ∃ (a : Addr) (ns : List Int), vs = [.ref a] ∧ SqL K H a (ns.map V.int) ∧ ns.length ≤ 63 ∧ (∀ p ∈ cs, H p.2 = some (.tbl #[])) ∧ ∀ H2, Q (.bl true) H2
/-- a case: a ruler and its heights -/
def CaseH (CRuler p : Addr) (H : Hp) (t : Addr) (hs : List Int) : Prop := ∃ x l, H t = some (.tup [.ref x, .ref l]) ∧ RulX CRuler p H x hs ∧ H l = some (.lst (hs.map V.int)) ∧ l ≠ p ∧ t ≠ p ∧ hs.length ≤ 41 ∧ ∀ z ∈ hs, 1 ≤ z ∧ z ≤ 6
theorem CaseH.ex {CRuler p : Addr} {H H2 : Hp} {t : Addr} {hs : List Int} (h : CaseH CRuler p H t hs) (e : Ex H H2) : CaseH CRuler p H2 t hs := by
  obtain ⟨x, l, h1, h2, h3, n⟩ := h
  exact ⟨x, l, e _ _ h1, h2.ex e, e _ _ h3, n⟩
theorem CaseH.exb {CRuler p : Addr} {H H2 : Hp} {t : Addr} {hs : List Int} (h : CaseH CRuler p H t hs) (e : ExB p H H2) : CaseH CRuler p H2 t hs := by
  obtain ⟨x, l, h1, h2, h3, n1, n2, n⟩ := h
  exact ⟨x, l, e _ _ n2 h1, h2.exb e, e _ _ n1 h3, n1, n2, n⟩
theorem CaseH.exn {CRuler p : Addr} {H H2 : Hp} {t : Addr} {hs : List Int} (h : CaseH CRuler p H t hs) (e : LamX.ExtN H H2) : CaseH CRuler p H2 t hs := by
  obtain ⟨x, l, h1, h2, h3, n⟩ := h
  exact ⟨x, l, exn_at e (fun _ z => by cases z) h1, h2.exn e, exn_at e (fun _ z => by cases z) h3, n⟩
/-- the list of cases: nothing of the cases is the list itself -/
def CasesH (CRuler p c : Addr) (H : Hp) (ts : List Addr) : Prop := H c = some (.lst (ts.map V.ref)) ∧ ∀ t ∈ ts, ∃ hs, CaseH CRuler p (del H c) t hs
theorem exn_del {h h2 : Hp} {f : Addr} (e : LamX.ExtN h h2) : LamX.ExtN (del h f) (del h2 f) := fun b o hb k => by
  by_cases n : b = f
  · rw [n] at hb
    unfold del at hb
    rw [if_pos rfl] at hb
    cases hb
  · rw [del_ne n] at hb ⊢
    exact e _ _ hb k
theorem CasesH.exb {CRuler p c : Addr} {H H2 : Hp} {ts : List Addr} (h : CasesH CRuler p c H ts) (e : ExB p H H2) (n : c ≠ p) : CasesH CRuler p c H2 ts :=
  ⟨e _ _ n h.1, fun t m => let ⟨hs, z⟩ := h.2 t m; ⟨hs, z.exb (exb_del e)⟩⟩
theorem CasesH.exn {CRuler p c : Addr} {H H2 : Hp} {ts : List Addr} (h : CasesH CRuler p c H ts) (e : LamX.ExtN H H2) : CasesH CRuler p c H2 ts :=
  ⟨exn_at e (fun _ z => by cases z) h.1, fun t m => let ⟨hs, z⟩ := h.2 t m; ⟨hs, z.exn (exn_del e)⟩⟩
theorem CasesH.put {CRuler p c t : Addr} {H H2 : Hp} {ts : List Addr} {hs : List Int} (h : CasesH CRuler p c H ts) (ht : CaseH CRuler p (del H c) t hs) (e : ExB c H H2) (h5 : H2 c = some (.lst (ts.map V.ref ++ [.ref t]))) : CasesH CRuler p c H2 (ts ++ [t]) := by
  refine ⟨by rw [List.map_append]; exact h5, fun t' m => ?_⟩
  rcases List.mem_append.mp m with m | m
  · obtain ⟨hs', z⟩ := h.2 t' m
    exact ⟨hs', z.ex (exB_del e)⟩
  · rw [List.mem_singleton.mp m]
    exact ⟨hs, ht.ex (exB_del e)⟩
theorem RulX.del {CRuler p c : Addr} {H : Hp} {x : Addr} {hs : List Int} (h1 : RulX CRuler p H x hs) (h2 : RulX CRuler c H x hs) : RulX CRuler p (del H c) x hs := by
  obtain ⟨dx, hl, el, a1, a2, a3, n⟩ := h1
  obtain ⟨dx', hl', el', b1, b2, b3, m1, m2, m3⟩ := h2
  have z := a1.symm.trans b1
  injection z with z
  injection z with _ _ z
  injection z with z1 z2
  injection z2 with z2 _
  injection z1 with _ z1
  injection z2 with _ z2
  injection z1 with z1
  injection z2 with z2
  subst z1 z2
  exact ⟨dx, hl, el, by rw [del_ne m1]; exact a1, by rw [del_ne m2]; exact a2, by rw [del_ne m3]; exact a3, n⟩
theorem RulX.exb2 {CRuler p c : Addr} {H H2 : Hp} {x : Addr} {hs : List Int} (h1 : RulX CRuler p H x hs) (h2 : RulX CRuler c H x hs) (e : ExB c H H2) : RulX CRuler p H2 x hs :=
  (h1.del h2).ex fun b o hb => by
    by_cases n : b = c
    · rw [n] at hb
      unfold L2.del at hb
      rw [if_pos rfl] at hb
      cases hb
    · rw [del_ne n] at hb
      exact e _ _ n hb
theorem r_mkR0 {K : PySem.W.Frag} {CT CW CRuler a : Addr} {S : Addr → Prop} {H : Hp} {Q : VK} {E : XK} {hs : List Int} (ha : SqQ K H a (hs.map V.int)) (hc : ckRuler hs = none) (hS : ∀ q, S q → ∃ o, H q = some o) (k : ∀ x H2, H x = none → Ex H H2 → (∀ q, S q → RulX CRuler q H2 x hs) → Q (.ref x) H2) :
    rMk CRuler (spRuler K CT CW CRuler) E Q [.ref a] H := by
  refine r_rmk fun x dx H2 nx nd ne e hx => ⟨x, a, dx, hs, H, rfl, hx, (SqK.refl.ex e).q ha, nx, e, ?_⟩
  rw [hc]
  intro H3 hl el ex n1 n2 h1 h2 h3
  refine ⟨rfl, k x H3 nx (ExB.ex e ex nx) fun q hq => ?_⟩
  obtain ⟨o, ho⟩ := hS q hq
  exact ⟨dx, hl, el, h1, h2, h3, (ne_of_none ho nx).symm, (ne_of_none (e _ _ ho) n1).symm, (ne_of_none (e _ _ ho) n2).symm⟩
abbrev s_law : Stmt := top 34
theorem sc_law : FnScope ["script", "purse", "cases", "turn", "heights", "handed", "ruler"] ["script"] (defScope s_law) := ⟨rfl, rfl, rfl, by decide +kernel, rfl, by decide +kernel, by decide +kernel⟩
theorem ok_law (T : Txt K mg CB tkC tkH  CBadStyle CBadWords CBadBook CBadTold CBadPlan CBadText CBadCommand) {f : Addr} {fd : FuncData} (F : Fun K "law" "law" s_law f fd) (hPL : PL__law_ends_right ≠ PL__law_bounds_right) (o_Ruler : OC K mg "Ruler" CRuler ["height_list", "edge_list"]) (d__law_purse : Def P w K mg base "_law_purse" 1 ["script", "at"] (spPurse K)) (d__law_draw : Def P w K mg base "_law_draw" 1 ["purse", "many"] spDraw)
    (d__law_heights : Def P w K mg base "_law_heights" 2 ["purse", "many", "least", "most"] spHeights) (d_Ruler : DI P w K mg base "Ruler" CRuler 5 ["self", "heights"] (spRuler K CT CW CRuler)) (d__law_ends_right : Def P w K mg base "_law_ends_right" 10 ["ruler", "heights"] (spEnds K CRuler PL__law_ends_right PL__law_bounds_right))
    (d__law_lines_right : Def P w K mg base "_law_lines_right" 3 ["ruler", "heights"] (spLines K CRuler)) (d_Ruler_heights : DM P w K mg base CRuler "heights" 1 ["self"] (spHts K CRuler)) (d_Ruler_edges : DM P w K mg base CRuler "edges" 1 ["self"] (spEdg K CRuler))
    (d__law_wide_right : Def P w K mg base "_law_wide_right" 11 ["purse"] (spWide PL__law_ends_right PL__law_bounds_right)) (d__law_bounds_right : Def P w K mg base "_law_bounds_right" 10 ["purse"] (spBnds PL__law_ends_right PL__law_bounds_right)) :
    FnOk P w K mg base (L2.CX P w) 12 f fd ["script"] (spLaw K [(cL__law_ends_right, PL__law_ends_right), (cL__law_bounds_right, PL__law_bounds_right)]) := by
  refine fnK F sc_law (fun vs H Q E h => ?_) (fun f cdv Ar outer s H vs Q E hr h => ⟨_, (pss_cons (ps_set (i := 1) sc_law.nd rfl (Or.inl rfl) (pe_d d__law_purse (hr.mono (by decide)) (passes_call (takes_of rfl rfl rfl rfl) (fun _ _ _ _ h => h)) (pa_cons (pv 0) (pa_cons pe_int pa_nil))))
      (pss_cons (ps_set (i := 2) sc_law.nd rfl (Or.inl rfl) (pe_lst pa_nil))
      (pss_cons (ps_for (passes_of rfl) rfl (pi_range1 rfl T.n_range (pa_cons pe_int pa_nil)) (pg_name (i := 3) sc_law.nd rfl (Or.inl rfl)) (pss_cons (ps_set (i := 4) sc_law.nd rfl (Or.inl rfl) (pe_d d__law_heights (hr.mono (by decide)) (passes_call (takes_of rfl rfl rfl rfl) (fun _ _ _ _ h => h)) (pa_cons (pv 1) (pa_cons (pe_d d__law_draw (hr.mono (by decide)) (passes_call (takes_of rfl rfl rfl rfl) (fun _ _ _ _ h => h)) (pa_cons (pv 1) (pa_cons pe_int pa_nil))) (pa_cons pe_int (pa_cons (pe_op op_add pe_int (pe_d d__law_draw (hr.mono (by decide)) (passes_call (takes_of rfl rfl rfl rfl) (fun _ _ _ _ h => h)) (pa_cons (pv 1) (pa_cons pe_int pa_nil)))) pa_nil))))))
      (pss_cons (ps_set (i := 5) sc_law.nd rfl (Or.inl rfl) (pe_callTy (r := Lay.rList K) c_list rfl T.n_list (by decide +kernel) (pa_cons (pv 4) pa_nil)))
      (pss_cons (ps_set (i := 6) sc_law.nd rfl (Or.inl rfl) (pe_mkD d_Ruler (hr.mono (by decide)) (passes_call (takes_of rfl rfl rfl rfl) (fun _ _ _ _ h => h)) (pa_cons (pv 5) pa_nil)))
      (pss_cons (ps_if (pt_cmpR (r := rNeD K) (op_neD hr.units) (pv 5) (pv 4) (nomark _)) (pss_one (ps_ret pe_bl)) pss_nil)
      (pss_cons (ps_expr (pe_bm PySem.F.plainAttrs_list PySem.F.slot_list_append PySem.F.type_list_append mt_append (pv 5) (pa_cons pe_int pa_nil)))
      (pss_cons (ps_asg pe_int (pg_sub (pv 5) pe_int set_list))
      (pss_one (ps_expr (pe_bm PySem.F.plainAttrs_list PySem.F.slot_list_append PySem.F.type_list_append mt_append (pv 2) (pa_cons (pe_tup (pa_cons (pv 6) (pa_cons (pv 4) pa_nil))) pa_nil)))))))))))
      (pss_cons (ps_for (passes_of rfl) rfl (pi_range1 rfl T.n_range (pa_cons pe_int pa_nil)) (pg_name (i := 3) sc_law.nd rfl (Or.inl rfl)) (pss_one (ps_for (passes_of rfl) rfl (pi_list (pv 2)) (pg_tup (n := 2) rfl (pgs_cons (pg_name (i := 6) sc_law.nd rfl (Or.inl rfl)) (pgs_cons (pg_name (i := 4) sc_law.nd rfl (Or.inl rfl)) pgs_nil))) (pss_cons (ps_if (PW.pt (pw_or (pt_not (pt_val (pe_d d__law_ends_right (hr.mono (by decide)) (passes_call (takes_of rfl rfl rfl rfl) (fun _ _ _ _ h => h)) (pa_cons (pv 6) (pa_cons (pv 4) pa_nil))))) (pw_or1 (pt_not (pt_val (pe_d d__law_lines_right (hr.mono (by decide)) (passes_call (takes_of rfl rfl rfl rfl) (fun _ _ _ _ h => h)) (pa_cons (pv 6) (pa_cons (pv 4) pa_nil)))))))) (pss_one (ps_ret pe_bl)) pss_nil)
      (pss_cons (ps_expr (pe_bm PySem.F.plainAttrs_list PySem.F.slot_list_append PySem.F.type_list_append mt_append (pe_mD0 d_Ruler_heights o_Ruler.cl (hr.mono (by decide)) (passes_call (takes_of rfl rfl rfl rfl) (fun _ _ _ _ h => h)) (pv 6)) (pa_cons pe_int pa_nil)))
      (pss_one (ps_expr (pe_bm PySem.F.plainAttrs_list PySem.F.slot_list_append PySem.F.type_list_append mt_append (pe_mD0 d_Ruler_edges o_Ruler.cl (hr.mono (by decide)) (passes_call (takes_of rfl rfl rfl rfl) (fun _ _ _ _ h => h)) (pv 6)) (pa_cons pe_int pa_nil)))))))))
      (pss_one (ps_ret (pe_and (pe_d d__law_wide_right (hr.mono (by decide)) (passes_call (takes_of rfl rfl rfl rfl) (fun _ _ _ _ h => h)) (pa_cons (pv 1) pa_nil)) (pe_one (pe_d d__law_bounds_right (hr.mono (by decide)) (passes_call (takes_of rfl rfl rfl rfl) (fun _ _ _ _ h => h)) (pa_cons (pv 1) pa_nil)))))))))), ?_⟩)
  · obtain ⟨a, ns, rfl, _⟩ := h
    rfl
  · obtain ⟨a, ns, rfl, ha, hn, htb, q⟩ := h
    have hT0 : LamX.Tabs (TT0 PL__law_ends_right PL__law_bounds_right) H := fun z hz => by
      rcases List.mem_cons.mp hz with m | m
      · rw [m]
        exact LamX.TabS.nil (htb _ List.mem_cons_self)
      · rw [List.mem_singleton.mp m]
        exact LamX.TabS.nil (htb _ (List.mem_cons_of_mem _ List.mem_cons_self))
    walk_at "go0"
    refine ⟨a, ns, 0, rfl, ha, by decide, hn, fun p H1 np e1 hp1 => ?_⟩
    have hT1 := LamX.Tabs.ext hT0 e1
    walk_at "go"
    refine r_newI0 fun c H2 nc e2 hc => ?_
    have hp2 := hp1.ex e2
    have hT2 := LamX.Tabs.ext hT1 e2
    have ncp : c ≠ p := (ne_pur hp1 nc).symm
    clear ha htb hT0 hT1 e1
    walk_at "go"
    refine forR1 (by decide) (by decide) (fun i s h => ∃ v3 v4 v5 v6 ts, s = [some (.ref a), some (.ref p), some (.ref c), v3, v4, v5, v6] ∧ CasesH CRuler p c h ts ∧ ts.length = i ∧ Pur h p ∧ LamX.Tabs (TT0 PL__law_ends_right PL__law_bounds_right) h) ?_ ?_ ?_
    · exact ⟨_, _, _, _, [], rfl, ⟨hc, fun t m => (List.not_mem_nil m).elim⟩, rfl, hp2, hT2⟩
    · rintro i s h hi ⟨v3, v4, v5, v6, ts, rfl, hC, tl, hp, hT⟩
      walk_at "go"
      refine ⟨p, 41, rfl, by decide, by decide, hp, fun x H3 x0 x1 e3 hp3 => ?_⟩
      walk_at "go"
      refine ⟨p, 6, rfl, by decide, by decide, hp3, fun y H4 y0 y1 e4 hp4 => ?_⟩
      walk_at "go"
      refine ⟨p, x, 1, 1 + y, rfl, by omega, by omega, by decide, by omega, by omega, hp4, fun l H5 hs nl e5 hp5 nlp hn hb hl => ?_⟩
      have E5 := (e3.trans e4).trans e5
      have hT5 := Tabs.exb hT E5 (.inl hp.lst)
      have hc4 := (e3.trans e4) _ _ ncp hC.1
      have ncl : c ≠ l := ne_of_none hc4 nl
      have hc5 := e5 _ _ ncp hc4
      walk_at "go"
      refine r_list (L2.SqL.of hl) fun hd H6 n6 e6 hhd => ?_
      have hp6 := hp5.ex e6
      have nch : c ≠ hd := ne_of_none hc5 n6
      have nlh : l ≠ hd := ne_of_none hl n6
      have nph : hd ≠ p := (ne_pur hp5 n6).symm
      have hl6 := e6 _ _ hl
      have hhn : h hd = none := freshB E5 nph n6
      have ck : ckRuler hs = none := ck_yes (by omega) (fun z hz => (hb z hz).1) fun z hz => by have := (hb z hz).2; omega
      walk_at "go"
      refine r_mkR0 (S := fun q => q = p ∨ q = c ∨ q = hd) (.inl (L2.SqL.of hhd)) ck (fun q hq => ?_) fun x2 H7 nx2 e7 hX => ?_
      · rcases hq with rfl | rfl | rfl
        · obtain ⟨xs, hx⟩ := hp6.lst
          exact ⟨_, hx⟩
        · exact ⟨_, e6 _ _ hc5⟩
        · exact ⟨_, hhd⟩
      have hX1 := hX p (.inl rfl)
      have hX2 := hX c (.inr (.inl rfl))
      have hX3 := hX hd (.inr (.inr rfl))
      have hhd7 := e7 _ _ hhd
      have hl7 := e7 _ _ hl6
      have hp7 := hp6.ex e7
      have hhdS : SqL K H7 hd (hs.map V.int) := L2.SqL.of hhd7
      walk_at "go"
      refine r_neSame (dp_ints hhdS) (dp_ints (L2.SqL.of hl7)) (sh_ints _) ?_
      walk_at "go"
      refine r_appI hhd7 (by omega) fun H8 e8 hhd8 _ => ?_
      walk_at "go"
      refine r_setI hhd8 (by decide) (by rw [List.length_append]; show (0 : Int) < ((hs.length + 1 : Nat) : Int); omega) fun H9 e9 hhd9 _ => ?_
      have e79 : ExB hd H7 H9 := e8.trans e9
      have E9 : ExB p h H9 := ExB.exB (E5.trans (Ex.b (e6.trans e7))) e79 hhn
      have hC9 := hC.exb E9 ncp
      have hl9 := e79 _ _ nlh hl7
      have hp9 := hp7.upd e79 nph.symm
      have hT9 := Tabs.exb (LamX.Tabs.ext hT5 (e6.trans e7)) e79 (.inl ⟨_, hhd7⟩)
      have hY1 := RulX.exb2 hX1 hX3 e79
      have hY2 := RulX.exb2 hX2 hX3 e79
      have hcS : SqL K H9 c (ts.map V.ref) := L2.SqL.of hC9.1
      walk_at "go"
      refine r_newT (len3 rfl) fun t H10 nt e10 ht => ?_
      have hC10 := hC9.exb (Ex.b e10) ncp
      have nct : c ≠ t := ne_of_none hC9.1 nt
      have cs : CaseH CRuler p (del H10 c) t hs := ⟨x2, l, by rw [del_ne nct.symm]; exact ht, (hY1.ex e10).del (hY2.ex e10), by rw [del_ne ncl.symm]; exact e10 _ _ hl9, nlp, (ne_pur hp9 nt).symm, by omega, fun z hz => by have := hb z hz; omega⟩
      walk_at "go"
      refine r_app hC10.1 (by rw [List.length_map]; omega) fun H11 e11 h11 _ => ?_
      refine r_next ⟨_, _, _, _, ts ++ [t], rfl, hC10.put cs e11 h11, by rw [List.length_append, tl]; rfl, (hp9.ex e10).upd e11 ncp.symm, Tabs.exb (LamX.Tabs.ext hT9 e10) e11 (.inl ⟨_, hC10.1⟩)⟩
    · rintro s h ⟨v3, v4, v5, v6, ts, rfl, hC, tl, hp, hT⟩
      walk_at "go"
      refine forR1 (by decide) (by decide) (fun i s h => ∃ v3 v4 v5 v6, s = [some (.ref a), some (.ref p), some (.ref c), v3, v4, v5, v6] ∧ CasesH CRuler p c h ts ∧ Pur h p ∧ LamX.Tabs (TT0 PL__law_ends_right PL__law_bounds_right) h) ?_ ?_ ?_
      · exact ⟨_, _, _, _, rfl, hC, hp, hT⟩
      · rintro i s h hi ⟨v3, v4, v5, v6, rfl, hC, hp, hT⟩
        walk_at "go"
        refine forL (L2.SqL.of hC.1) (fun i s h => ∃ v3 v4 v5 v6, s = [some (.ref a), some (.ref p), some (.ref c), v3, v4, v5, v6] ∧ CasesH CRuler p c h ts ∧ Pur h p ∧ LamX.Tabs (TT0 PL__law_ends_right PL__law_bounds_right) h) ?_ ?_ ?_ ?_
        · exact ⟨_, _, _, _, rfl, hC, hp, hT⟩
        · rintro i s h _ ⟨_, _, _, _, _, hC, _⟩
          exact L2.SqL.of hC.1
        · rintro j v s h hv ⟨v3, v4, v5, v6, rfl, hC, hp, hT⟩
          obtain ⟨rfl, hj⟩ := ga_at hv
          have mt : ga ts j ∈ ts := by
            have z : ts[j]? = some (ga ts j) := by
              unfold ga
              rw [Int.toNat_natCast, List.getD_eq_getElem?_getD, List.getElem?_eq_getElem hj]
              rfl
            exact List.mem_of_getElem? z
          obtain ⟨hs, hcs⟩ := hC.2 _ mt
          obtain ⟨x, l, h1, hX, hl, nlp, ntp, hn, hb⟩ := hcs.ex del_ex
          walk_at "go"
          refine ⟨x, l, hs, rfl, hX.at, L2.SqL.of hl, fun z hz => (hb z hz).1, by omega, hT, fun H2 eN hT2 => ?_⟩
          have hX := hX.exn eN
          have hl := exn_l eN (L2.SqL.of (K := K) hl)
          walk_at "go"
          refine ⟨x, l, hs, rfl, hX.at, hl, fun z hz => by have := hb z hz; omega, by omega, fun H3 e3 => ?_⟩
          have hX := hX.ex e3
          obtain ⟨dx, hl', el, hx, _⟩ := id hX
          walk_at "go"
          refine r_rmth hx rfl ?_
          walk_at "go"
          refine ⟨x, hs, rfl, hX.at, fun l2 H4 n4 e4 hl2 => ?_⟩
          have hl2S : SqL K H4 l2 (hs.map V.int) := L2.SqL.of hl2
          walk_at "go"
          refine r_appI hl2 (by omega) fun H5 e5 _ _ => ?_
          have E5 : Ex H3 H5 := ExB.ex e4 e5 n4
          have hX := hX.ex E5
          walk_at "go"
          refine r_rmth (E5 _ _ hx) rfl ?_
          walk_at "go"
          refine ⟨x, hs, rfl, hX.at, fun l3 H6 n6 e6 hl3 => ?_⟩
          have hl3S : SqL K H6 l3 ((WK.edges hs).map V.int) := L2.SqL.of hl3
          walk_at "go"
          refine r_appI hl3 (by rw [edg_len]; omega) fun H7 e7 _ _ => ?_
          have E7 : Ex H5 H7 := ExB.ex e6 e7 n6
          have EN : LamX.ExtN h H7 := LamX.ExtN.trans eN (Ex.n (e3.trans (E5.trans E7)))
          exact r_next ⟨_, _, _, _, rfl, hC.exn EN, hp.exn EN, LamX.Tabs.ext hT2 (e3.trans (E5.trans E7))⟩
        · rintro s h ⟨v3, v4, v5, v6, rfl, hC, hp, hT⟩
          exact r_next ⟨_, _, _, _, rfl, hC, hp, hT⟩
      · rintro s h ⟨v3, v4, v5, v6, rfl, hC, hp, hT⟩
        walk_at "go"
        refine ⟨p, rfl, hp, hT, fun H2 hp2 hT2 => ?_⟩
        walk_at "go"
        exact ⟨p, rfl, hp2, hT2, fun H3 => q H3⟩
end
end K00
namespace K00
open PySem PySem.Spec PyProof.Rows L2 Evl Lay
theorem all_mk {q0 : Program} {l : PySem.W.OpenLaw} {w : World} {K : PySem.W.Frag} {h : Heap} {mg : Str → Option Value} {fa : Addr} (X : K.In h) (G : h.Ns mainGlobals mg) (hfa : mg "law" = some (.ref fa))
    {tkC : Tok}
    {tkH : Tok}
    {CB : Addr}
    {CT fT NT : Addr} {nmT qT : Str} {bsT : List Value} {snT : List Str} {subT : List Value} {abT : Bool} {colT : Option Bool} {ddT odT anT : Option Addr} {maT mbT mcT mdT meT : Option Value} {ocT dcT pmT cdT ctT kvT : Value} {slT : Array (Option Value)}
    {CW fW NW : Addr} {nmW qW : Str} {bsW : List Value} {snW : List Str} {subW : List Value} {abW : Bool} {colW : Option Bool} {ddW odW anW : Option Addr} {maW mbW mcW mdW meW : Option Value} {ocW dcW pmW cdW ctW kvW : Value} {slW : Array (Option Value)}
    {CBadStyle : Addr}
    {CBadWords : Addr}
    {CBadBook : Addr}
    {CBadTold : Addr}
    {CBadPlan : Addr}
    {CBadText : Addr}
    {CBadCommand : Addr}
    {p1 : Addr} {e1 n1 : Option Addr} {v1 : Array (Option Value)} {o1 k1 d1 m1 c1 t1 : Value}
    {p2 : Addr} {e2 n2 : Option Addr} {v2 : Array (Option Value)} {o2 k2 d2 m2 c2 t2 : Value}
    {p3 : Addr} {e3 n3 : Option Addr} {v3 : Array (Option Value)} {o3 k3 d3 m3 c3 t3 : Value}
    {p4 : Addr} {e4 n4 : Option Addr} {v4 : Array (Option Value)} {o4 k4 d4 m4 c4 t4 : Value}
    {p5 : Addr} {e5 n5 : Option Addr} {v5 : Array (Option Value)} {o5 k5 d5 m5 c5 t5 : Value}
    {p6 : Addr} {e6 n6 : Option Addr} {v6 : Array (Option Value)} {o6 k6 d6 m6 c6 t6 : Value}
    {p7 : Addr} {e7 n7 : Option Addr} {v7 : Array (Option Value)} {o7 k7 d7 m7 c7 t7 : Value}
    {p8 : Addr} {e8 n8 : Option Addr} {v8 : Array (Option Value)} {o8 k8 d8 m8 c8 t8 : Value}
    {p9 : Addr} {e9 n9 : Option Addr} {v9 : Array (Option Value)} {o9 k9 d9 m9 c9 t9 : Value}
    {p10 : Addr} {e10 n10 : Option Addr} {v10 : Array (Option Value)} {o10 k10 d10 m10 c10 t10 : Value}
    {p11 : Addr} {e11 n11 : Option Addr} {v11 : Array (Option Value)} {o11 k11 d11 m11 c11 t11 : Value}
    {p12 : Addr} {e12 n12 : Option Addr} {v12 : Array (Option Value)} {o12 k12 d12 m12 t12 : Value}
    {cL__law_ends_right PL__law_ends_right : Addr}
    {wA12 : Value} {wB12 : Option Addr} {wC12 : Array Value} {wD12 : Array (Option Value)}
    {p13 : Addr} {e13 n13 : Option Addr} {v13 : Array (Option Value)} {o13 k13 d13 m13 c13 t13 : Value}
    {p14 : Addr} {e14 n14 : Option Addr} {v14 : Array (Option Value)} {o14 k14 d14 m14 c14 t14 : Value}
    {p15 : Addr} {e15 n15 : Option Addr} {v15 : Array (Option Value)} {o15 k15 d15 m15 c15 t15 : Value}
    {p16 : Addr} {e16 n16 : Option Addr} {v16 : Array (Option Value)} {o16 k16 d16 m16 t16 : Value}
    {cL__law_bounds_right PL__law_bounds_right : Addr}
    {wA16 : Value} {wB16 : Option Addr} {wC16 : Array Value} {wD16 : Array (Option Value)}
    {CRuler : Addr}
    {pM0 : Addr} {eM0 nM0 : Option Addr} {vM0 : Array (Option Value)} {oM0 kM0 dcM0 mM0 cM0 tM0 : Value}
    {pM1 : Addr} {eM1 nM1 : Option Addr} {vM1 : Array (Option Value)} {oM1 kM1 dcM1 mM1 cM1 tM1 : Value}
    {pM2 : Addr} {eM2 nM2 : Option Addr} {vM2 : Array (Option Value)} {oM2 kM2 dcM2 mM2 cM2 tM2 : Value}
    {pM3 : Addr} {eM3 nM3 : Option Addr} {vM3 : Array (Option Value)} {oM3 kM3 dcM3 mM3 cM3 tM3 : Value}
    {pM4 : Addr} {eM4 nM4 : Option Addr} {vM4 : Array (Option Value)} {oM4 kM4 dcM4 mM4 cM4 tM4 : Value}
    {pM5 : Addr} {eM5 nM5 : Option Addr} {vM5 : Array (Option Value)} {oM5 kM5 dcM5 mM5 cM5 tM5 : Value}
    {pM6 : Addr} {eM6 nM6 : Option Addr} {vM6 : Array (Option Value)} {oM6 kM6 dcM6 mM6 cM6 tM6 : Value}
    {pM7 : Addr} {eM7 nM7 : Option Addr} {vM7 : Array (Option Value)} {oM7 kM7 dcM7 mM7 cM7 tM7 : Value}
    {pM8 : Addr} {eM8 nM8 : Option Addr} {vM8 : Array (Option Value)} {oM8 kM8 dcM8 mM8 cM8 tM8 : Value}
    {pM9 : Addr} {eM9 nM9 : Option Addr} {vM9 : Array (Option Value)} {oM9 kM9 dcM9 mM9 cM9 tM9 : Value}
    {pL : Addr} {eL nL : Option Addr} {vL : Array (Option Value)} {oL kL dL mL cL tL : Value}
    (z_ValueError : PySem.W.nsIn K mainGlobals "ValueError" = some none)
    (z_abs : PySem.W.nsIn K mainGlobals "abs" = some none)
    (z_bool : PySem.W.nsIn K mainGlobals "bool" = some none)
    (z_enumerate : PySem.W.nsIn K mainGlobals "enumerate" = some none)
    (z_int : PySem.W.nsIn K mainGlobals "int" = some none)
    (z_isinstance : PySem.W.nsIn K mainGlobals "isinstance" = some none)
    (z_len : PySem.W.nsIn K mainGlobals "len" = some none)
    (z_list : PySem.W.nsIn K mainGlobals "list" = some none)
    (z_range : PySem.W.nsIn K mainGlobals "range" = some none)
    (z_sum : PySem.W.nsIn K mainGlobals "sum" = some none)
    (z_tuple : PySem.W.nsIn K mainGlobals "tuple" = some none)
    (g_CELLS : PySem.W.nsIn K mainGlobals "CELLS" = some (some (.int 64 tkC)))
    (g_HEIGHTS : PySem.W.nsIn K mainGlobals "HEIGHTS" = some (some (.int 1000000000 tkH)))
    (aB : PySem.W.nsIn K mainGlobals "ComesError" = some (some (.ref CB)))
    (rB : PySem.W.readsIn K CB (.type "type") = true)
    (sB : PySem.W.specialIn K (.ref CB) "__getattribute__" = some (some (.builtin "type.__getattribute__")))
    (vB : PySem.W.findCls K (.ref CB) (.type "type") "__init__" = some (.val (.builtin "ValueError.__init__")))
    (aT : PySem.W.nsIn K mainGlobals "TooMany" = some (some (.ref CT)))
    (xT : K.lookup CT = some (excClassObj nmT qT CT NT bsT [.ref CB, .type "ValueError", .type "Exception", .type "BaseException", .type "object"] true snT subT abT colT ddT maT mbT mcT mdT meT "ValueError.__new__"))
    (saT : PySem.W.findIn K (.ref CT) "__setattr__" = some (some (.builtin "object.__setattr__")))
    (gaT : PySem.W.findIn K (.ref CT) "__getattribute__" = some (some (.builtin "BaseException.__getattribute__")))
    (ggT : PySem.W.findIn K (.ref CT) "__getattr__" = some none)
    (noT : PySem.W.findIn K (.ref CT) "what" = some none)
    (iT : PySem.W.findIn K (.ref CT) "__init__" = some (some (.ref fT)))
    (tyT : PySem.W.typeIn K (.ref fT) = some (.type "function"))
    (lT : K.lookup fT = some ⟨ocT, odT, .func (PySem.W.fnOf "__init__" "TooMany.__init__" (defArgs s_TooMany___init__) (defBody s_TooMany___init__) (defScope s_TooMany___init__) .none kvT dcT pmT anT cdT ctT), slT⟩)
    (cT : PySem.W.codeIn K cdT "TooMany.__init__" = true)
    (kfT : PySem.W.keepIn K (.ref fT) = true)
    (kCT : PySem.W.keepIn K (.ref CT) = true)
    (eCT : PySem.W.subIn K (.ref CT) (.type "BaseException") = some true)
    (tCT : PySem.W.typeIn K (.ref CT) = some (.type "type"))
    (hCT : PySem.W.hasDictIn K CT = true)
    (iCT : PySem.W.isClsIn K CT = true)
    (sCT : PySem.W.subIn K (.ref CT) (.ref CT) = some true)
    (aW : PySem.W.nsIn K mainGlobals "BadRuler" = some (some (.ref CW)))
    (xW : K.lookup CW = some (excClassObj nmW qW CW NW bsW [.ref CB, .type "ValueError", .type "Exception", .type "BaseException", .type "object"] true snW subW abW colW ddW maW mbW mcW mdW meW "ValueError.__new__"))
    (saW : PySem.W.findIn K (.ref CW) "__setattr__" = some (some (.builtin "object.__setattr__")))
    (gaW : PySem.W.findIn K (.ref CW) "__getattribute__" = some (some (.builtin "BaseException.__getattribute__")))
    (ggW : PySem.W.findIn K (.ref CW) "__getattr__" = some none)
    (noW : PySem.W.findIn K (.ref CW) "place" = some none)
    (iW : PySem.W.findIn K (.ref CW) "__init__" = some (some (.ref fW)))
    (tyW : PySem.W.typeIn K (.ref fW) = some (.type "function"))
    (lW : K.lookup fW = some ⟨ocW, odW, .func (PySem.W.fnOf "__init__" "BadRuler.__init__" (defArgs s_BadRuler___init__) (defBody s_BadRuler___init__) (defScope s_BadRuler___init__) .none kvW dcW pmW anW cdW ctW), slW⟩)
    (cW : PySem.W.codeIn K cdW "BadRuler.__init__" = true)
    (kfW : PySem.W.keepIn K (.ref fW) = true)
    (kCW : PySem.W.keepIn K (.ref CW) = true)
    (eCW : PySem.W.subIn K (.ref CW) (.type "BaseException") = some true)
    (tCW : PySem.W.typeIn K (.ref CW) = some (.type "type"))
    (hCW : PySem.W.hasDictIn K CW = true)
    (iCW : PySem.W.isClsIn K CW = true)
    (sCW : PySem.W.subIn K (.ref CW) (.ref CW) = some true)
    (nWT : PySem.W.subIn K (.ref CW) (.ref CT) = some false)
    (gK_BadStyle : PySem.W.nsIn K mainGlobals "BadStyle" = some (some (.ref CBadStyle)))
    (gK_BadWords : PySem.W.nsIn K mainGlobals "BadWords" = some (some (.ref CBadWords)))
    (gK_BadBook : PySem.W.nsIn K mainGlobals "BadBook" = some (some (.ref CBadBook)))
    (gK_BadTold : PySem.W.nsIn K mainGlobals "BadTold" = some (some (.ref CBadTold)))
    (gK_BadPlan : PySem.W.nsIn K mainGlobals "BadPlan" = some (some (.ref CBadPlan)))
    (gK_BadText : PySem.W.nsIn K mainGlobals "BadText" = some (some (.ref CBadText)))
    (gK_BadCommand : PySem.W.nsIn K mainGlobals "BadCommand" = some (some (.ref CBadCommand)))
    (a1 : PySem.W.nsIn K mainGlobals "is_whole" = some (some (.ref p1)))
    (l1 : K.lookup p1 = some ⟨o1, e1, .func (PySem.W.fnOf "is_whole" "is_whole" (defArgs s_is_whole) (defBody s_is_whole) (defScope s_is_whole) .none k1 d1 m1 n1 c1 t1), v1⟩)
    (c1x : PySem.W.codeIn K c1 "is_whole" = true)
    (k1x : PySem.W.keepIn K (.ref p1) = true)
    (a2 : PySem.W.nsIn K mainGlobals "check_most" = some (some (.ref p2)))
    (l2 : K.lookup p2 = some ⟨o2, e2, .func (PySem.W.fnOf "check_most" "check_most" (defArgs s_check_most) (defBody s_check_most) (defScope s_check_most) .none k2 d2 m2 n2 c2 t2), v2⟩)
    (c2x : PySem.W.codeIn K c2 "check_most" = true)
    (k2x : PySem.W.keepIn K (.ref p2) = true)
    (a3 : PySem.W.nsIn K mainGlobals "check_numbers" = some (some (.ref p3)))
    (l3 : K.lookup p3 = some ⟨o3, e3, .func (PySem.W.fnOf "check_numbers" "check_numbers" (defArgs s_check_numbers) (defBody s_check_numbers) (defScope s_check_numbers) .none k3 d3 m3 n3 c3 t3), v3⟩)
    (c3x : PySem.W.codeIn K c3 "check_numbers" = true)
    (k3x : PySem.W.keepIn K (.ref p3) = true)
    (a4 : PySem.W.nsIn K mainGlobals "_law_purse" = some (some (.ref p4)))
    (l4 : K.lookup p4 = some ⟨o4, e4, .func (PySem.W.fnOf "_law_purse" "_law_purse" (defArgs s__law_purse) (defBody s__law_purse) (defScope s__law_purse) .none k4 d4 m4 n4 c4 t4), v4⟩)
    (c4x : PySem.W.codeIn K c4 "_law_purse" = true)
    (k4x : PySem.W.keepIn K (.ref p4) = true)
    (a5 : PySem.W.nsIn K mainGlobals "_law_draw" = some (some (.ref p5)))
    (l5 : K.lookup p5 = some ⟨o5, e5, .func (PySem.W.fnOf "_law_draw" "_law_draw" (defArgs s__law_draw) (defBody s__law_draw) (defScope s__law_draw) .none k5 d5 m5 n5 c5 t5), v5⟩)
    (c5x : PySem.W.codeIn K c5 "_law_draw" = true)
    (k5x : PySem.W.keepIn K (.ref p5) = true)
    (a6 : PySem.W.nsIn K mainGlobals "_law_heights" = some (some (.ref p6)))
    (l6 : K.lookup p6 = some ⟨o6, e6, .func (PySem.W.fnOf "_law_heights" "_law_heights" (defArgs s__law_heights) (defBody s__law_heights) (defScope s__law_heights) .none k6 d6 m6 n6 c6 t6), v6⟩)
    (c6x : PySem.W.codeIn K c6 "_law_heights" = true)
    (k6x : PySem.W.keepIn K (.ref p6) = true)
    (a7 : PySem.W.nsIn K mainGlobals "_law_is_whole" = some (some (.ref p7)))
    (l7 : K.lookup p7 = some ⟨o7, e7, .func (PySem.W.fnOf "_law_is_whole" "_law_is_whole" (defArgs s__law_is_whole) (defBody s__law_is_whole) (defScope s__law_is_whole) .none k7 d7 m7 n7 c7 t7), v7⟩)
    (c7x : PySem.W.codeIn K c7 "_law_is_whole" = true)
    (k7x : PySem.W.keepIn K (.ref p7) = true)
    (a8 : PySem.W.nsIn K mainGlobals "_law_cells_by_line" = some (some (.ref p8)))
    (l8 : K.lookup p8 = some ⟨o8, e8, .func (PySem.W.fnOf "_law_cells_by_line" "_law_cells_by_line" (defArgs s__law_cells_by_line) (defBody s__law_cells_by_line) (defScope s__law_cells_by_line) .none k8 d8 m8 n8 c8 t8), v8⟩)
    (c8x : PySem.W.codeIn K c8 "_law_cells_by_line" = true)
    (k8x : PySem.W.keepIn K (.ref p8) = true)
    (a9 : PySem.W.nsIn K mainGlobals "_law_edges" = some (some (.ref p9)))
    (l9 : K.lookup p9 = some ⟨o9, e9, .func (PySem.W.fnOf "_law_edges" "_law_edges" (defArgs s__law_edges) (defBody s__law_edges) (defScope s__law_edges) .none k9 d9 m9 n9 c9 t9), v9⟩)
    (c9x : PySem.W.codeIn K c9 "_law_edges" = true)
    (k9x : PySem.W.keepIn K (.ref p9) = true)
    (a10 : PySem.W.nsIn K mainGlobals "_law_next" = some (some (.ref p10)))
    (l10 : K.lookup p10 = some ⟨o10, e10, .func (PySem.W.fnOf "_law_next" "_law_next" (defArgs s__law_next) (defBody s__law_next) (defScope s__law_next) .none k10 d10 m10 n10 c10 t10), v10⟩)
    (c10x : PySem.W.codeIn K c10 "_law_next" = true)
    (k10x : PySem.W.keepIn K (.ref p10) = true)
    (a11 : PySem.W.nsIn K mainGlobals "_law_refused" = some (some (.ref p11)))
    (l11 : K.lookup p11 = some ⟨o11, e11, .func (PySem.W.fnOf "_law_refused" "_law_refused" (defArgs s__law_refused) (defBody s__law_refused) (defScope s__law_refused) .none k11 d11 m11 n11 c11 t11), v11⟩)
    (c11x : PySem.W.codeIn K c11 "_law_refused" = true)
    (k11x : PySem.W.keepIn K (.ref p11) = true)
    (a12 : PySem.W.nsIn K mainGlobals "_law_ends_right" = some (some (.ref p12)))
    (l12 : K.lookup p12 = some ⟨o12, e12, .func (PySem.W.fnOf "_law_ends_right" "_law_ends_right" (defArgs s__law_ends_right) (defBody s__law_ends_right) (defScope s__law_ends_right) .none k12 d12 m12 n12 (.ref cL__law_ends_right) t12), v12⟩)
    (c12x : PySem.W.codeIn K (.ref cL__law_ends_right) "_law_ends_right" = true)
    (lt12 : K.lookup cL__law_ends_right = some ⟨wA12, wB12, .fields wC12, wD12⟩)
    (hv12 : wC12[11]? = some (.ref PL__law_ends_right))
    (nl12 : K.lookup PL__law_ends_right = none)
    (k12x : PySem.W.keepIn K (.ref p12) = true)
    (a13 : PySem.W.nsIn K mainGlobals "_law_lines_right" = some (some (.ref p13)))
    (l13 : K.lookup p13 = some ⟨o13, e13, .func (PySem.W.fnOf "_law_lines_right" "_law_lines_right" (defArgs s__law_lines_right) (defBody s__law_lines_right) (defScope s__law_lines_right) .none k13 d13 m13 n13 c13 t13), v13⟩)
    (c13x : PySem.W.codeIn K c13 "_law_lines_right" = true)
    (k13x : PySem.W.keepIn K (.ref p13) = true)
    (a14 : PySem.W.nsIn K mainGlobals "_law_wide_right" = some (some (.ref p14)))
    (l14 : K.lookup p14 = some ⟨o14, e14, .func (PySem.W.fnOf "_law_wide_right" "_law_wide_right" (defArgs s__law_wide_right) (defBody s__law_wide_right) (defScope s__law_wide_right) .none k14 d14 m14 n14 c14 t14), v14⟩)
    (c14x : PySem.W.codeIn K c14 "_law_wide_right" = true)
    (k14x : PySem.W.keepIn K (.ref p14) = true)
    (a15 : PySem.W.nsIn K mainGlobals "_law_refused_by_base" = some (some (.ref p15)))
    (l15 : K.lookup p15 = some ⟨o15, e15, .func (PySem.W.fnOf "_law_refused_by_base" "_law_refused_by_base" (defArgs s__law_refused_by_base) (defBody s__law_refused_by_base) (defScope s__law_refused_by_base) .none k15 d15 m15 n15 c15 t15), v15⟩)
    (c15x : PySem.W.codeIn K c15 "_law_refused_by_base" = true)
    (k15x : PySem.W.keepIn K (.ref p15) = true)
    (a16 : PySem.W.nsIn K mainGlobals "_law_bounds_right" = some (some (.ref p16)))
    (l16 : K.lookup p16 = some ⟨o16, e16, .func (PySem.W.fnOf "_law_bounds_right" "_law_bounds_right" (defArgs s__law_bounds_right) (defBody s__law_bounds_right) (defScope s__law_bounds_right) .none k16 d16 m16 n16 (.ref cL__law_bounds_right) t16), v16⟩)
    (c16x : PySem.W.codeIn K (.ref cL__law_bounds_right) "_law_bounds_right" = true)
    (lt16 : K.lookup cL__law_bounds_right = some ⟨wA16, wB16, .fields wC16, wD16⟩)
    (hv16 : wC16[11]? = some (.ref PL__law_bounds_right))
    (nl16 : K.lookup PL__law_bounds_right = none)
    (k16x : PySem.W.keepIn K (.ref p16) = true)
    (aK_Ruler : PySem.W.nsIn K mainGlobals "Ruler" = some (some (.ref CRuler)))
    (pg_Ruler : PySem.W.plainGet K CRuler Str.empty = true)
    (hd_Ruler : PySem.W.hasDictIn K CRuler = true)
    (po_Ruler : PySem.W.plainOver K CRuler = true)
    (sa_Ruler : PySem.W.findIn K (.ref CRuler) "__setattr__" = some (some (.builtin "object.__setattr__")))
    (kc_Ruler : PySem.W.keepIn K (.ref CRuler) = true)
    (mk_Ruler : PySem.W.makesIn K CRuler = true)
    (nf_Ruler_height_list : PySem.W.findIn K (.ref CRuler) "height_list" = some none)
    (nf_Ruler_edge_list : PySem.W.findIn K (.ref CRuler) "edge_list" = some none)
    (aM0 : PySem.W.findIn K (.ref CRuler) "__init__" = some (some (.ref pM0)))
    (iM0 : PySem.W.isFn K (.ref pM0) = true)
    (lM0 : K.lookup pM0 = some ⟨oM0, eM0, .func (PySem.W.fnOf "__init__" "Ruler.__init__" (defArgs s_Ruler___init__) (defBody s_Ruler___init__) (defScope s_Ruler___init__) .none kM0 dcM0 mM0 nM0 cM0 tM0), vM0⟩)
    (cM0x : PySem.W.codeIn K cM0 "Ruler.__init__" = true)
    (kM0x : PySem.W.keepIn K (.ref pM0) = true)
    (aM1 : PySem.W.findIn K (.ref CRuler) "many" = some (some (.ref pM1)))
    (iM1 : PySem.W.isFn K (.ref pM1) = true)
    (lM1 : K.lookup pM1 = some ⟨oM1, eM1, .func (PySem.W.fnOf "many" "Ruler.many" (defArgs s_Ruler_many) (defBody s_Ruler_many) (defScope s_Ruler_many) .none kM1 dcM1 mM1 nM1 cM1 tM1), vM1⟩)
    (cM1x : PySem.W.codeIn K cM1 "Ruler.many" = true)
    (kM1x : PySem.W.keepIn K (.ref pM1) = true)
    (aM2 : PySem.W.findIn K (.ref CRuler) "cell" = some (some (.ref pM2)))
    (iM2 : PySem.W.isFn K (.ref pM2) = true)
    (lM2 : K.lookup pM2 = some ⟨oM2, eM2, .func (PySem.W.fnOf "cell" "Ruler.cell" (defArgs s_Ruler_cell) (defBody s_Ruler_cell) (defScope s_Ruler_cell) .none kM2 dcM2 mM2 nM2 cM2 tM2), vM2⟩)
    (cM2x : PySem.W.codeIn K cM2 "Ruler.cell" = true)
    (kM2x : PySem.W.keepIn K (.ref pM2) = true)
    (aM3 : PySem.W.findIn K (.ref CRuler) "check_cell" = some (some (.ref pM3)))
    (iM3 : PySem.W.isFn K (.ref pM3) = true)
    (lM3 : K.lookup pM3 = some ⟨oM3, eM3, .func (PySem.W.fnOf "check_cell" "Ruler.check_cell" (defArgs s_Ruler_check_cell) (defBody s_Ruler_check_cell) (defScope s_Ruler_check_cell) .none kM3 dcM3 mM3 nM3 cM3 tM3), vM3⟩)
    (cM3x : PySem.W.codeIn K cM3 "Ruler.check_cell" = true)
    (kM3x : PySem.W.keepIn K (.ref pM3) = true)
    (aM4 : PySem.W.findIn K (.ref CRuler) "first" = some (some (.ref pM4)))
    (iM4 : PySem.W.isFn K (.ref pM4) = true)
    (lM4 : K.lookup pM4 = some ⟨oM4, eM4, .func (PySem.W.fnOf "first" "Ruler.first" (defArgs s_Ruler_first) (defBody s_Ruler_first) (defScope s_Ruler_first) .none kM4 dcM4 mM4 nM4 cM4 tM4), vM4⟩)
    (cM4x : PySem.W.codeIn K cM4 "Ruler.first" = true)
    (kM4x : PySem.W.keepIn K (.ref pM4) = true)
    (aM5 : PySem.W.findIn K (.ref CRuler) "last" = some (some (.ref pM5)))
    (iM5 : PySem.W.isFn K (.ref pM5) = true)
    (lM5 : K.lookup pM5 = some ⟨oM5, eM5, .func (PySem.W.fnOf "last" "Ruler.last" (defArgs s_Ruler_last) (defBody s_Ruler_last) (defScope s_Ruler_last) .none kM5 dcM5 mM5 nM5 cM5 tM5), vM5⟩)
    (cM5x : PySem.W.codeIn K cM5 "Ruler.last" = true)
    (kM5x : PySem.W.keepIn K (.ref pM5) = true)
    (aM6 : PySem.W.findIn K (.ref CRuler) "heights" = some (some (.ref pM6)))
    (iM6 : PySem.W.isFn K (.ref pM6) = true)
    (lM6 : K.lookup pM6 = some ⟨oM6, eM6, .func (PySem.W.fnOf "heights" "Ruler.heights" (defArgs s_Ruler_heights) (defBody s_Ruler_heights) (defScope s_Ruler_heights) .none kM6 dcM6 mM6 nM6 cM6 tM6), vM6⟩)
    (cM6x : PySem.W.codeIn K cM6 "Ruler.heights" = true)
    (kM6x : PySem.W.keepIn K (.ref pM6) = true)
    (aM7 : PySem.W.findIn K (.ref CRuler) "edges" = some (some (.ref pM7)))
    (iM7 : PySem.W.isFn K (.ref pM7) = true)
    (lM7 : K.lookup pM7 = some ⟨oM7, eM7, .func (PySem.W.fnOf "edges" "Ruler.edges" (defArgs s_Ruler_edges) (defBody s_Ruler_edges) (defScope s_Ruler_edges) .none kM7 dcM7 mM7 nM7 cM7 tM7), vM7⟩)
    (cM7x : PySem.W.codeIn K cM7 "Ruler.edges" = true)
    (kM7x : PySem.W.keepIn K (.ref pM7) = true)
    (aM8 : PySem.W.findIn K (.ref CRuler) "fits" = some (some (.ref pM8)))
    (iM8 : PySem.W.isFn K (.ref pM8) = true)
    (lM8 : K.lookup pM8 = some ⟨oM8, eM8, .func (PySem.W.fnOf "fits" "Ruler.fits" (defArgs s_Ruler_fits) (defBody s_Ruler_fits) (defScope s_Ruler_fits) .none kM8 dcM8 mM8 nM8 cM8 tM8), vM8⟩)
    (cM8x : PySem.W.codeIn K cM8 "Ruler.fits" = true)
    (kM8x : PySem.W.keepIn K (.ref pM8) = true)
    (aM9 : PySem.W.findIn K (.ref CRuler) "next_edge" = some (some (.ref pM9)))
    (iM9 : PySem.W.isFn K (.ref pM9) = true)
    (lM9 : K.lookup pM9 = some ⟨oM9, eM9, .func (PySem.W.fnOf "next_edge" "Ruler.next_edge" (defArgs s_Ruler_next_edge) (defBody s_Ruler_next_edge) (defScope s_Ruler_next_edge) .none kM9 dcM9 mM9 nM9 cM9 tM9), vM9⟩)
    (cM9x : PySem.W.codeIn K cM9 "Ruler.next_edge" = true)
    (kM9x : PySem.W.keepIn K (.ref pM9) = true)
    (hPL : PL__law_ends_right ≠ PL__law_bounds_right)
    (yB1 : PySem.W.subIn K (.ref CB) (.type "BaseException") = some true)
    (yB2 : PySem.W.isClsIn K CB = true)
    (yB3 : PySem.W.typeIn K (.ref CB) = some (.type "type"))
    (yB4 : PySem.W.subIn K (.ref CW) (.ref CB) = some true)
    (kW1 : PySem.W.kitOne K (.ref CW) (.type "ValueError") = some true)
    (kW2 : PySem.W.kitOne K (.ref CW) (.ref CW) = some true)
    (kW3 : PySem.W.kitAny K (.ref CW) [.ref CT, .ref CBadBook, .ref CBadText] = some false)
    (xW1 : (PySem.W.clsIn K CW).isSome = true)
    (xW5 : PySem.W.findIn K (.ref CW) "__class__" = some (some (.builtin "object.__class__")))
    (xW6 : PySem.W.specialIn K (.builtin "object.__class__") "__get__" = some (some (.builtin "getset_descriptor.__get__")))
    (xW7 : PySem.W.takesIn K (.builtin "object.__class__") = some true)
    (xW8 : PySem.W.mroIn K CW (.type "object") = some true)
    (rc__law_ends_right : ((recsOf q0).find? fun e => e.name == ("_law_ends_right" : Str)).isSome = true)
    (rc__law_bounds_right : ((recsOf q0).find? fun e => e.name == ("_law_bounds_right" : Str)).isSome = true)
    (aL : PySem.W.nsIn K mainGlobals "law" = some (some (.ref pL)))
    (lL : K.lookup pL = some ⟨oL, eL, .func (PySem.W.fnOf "law" "law" (defArgs s_law) (defBody s_law) (defScope s_law) .none kL dL mL nL cL tL), vL⟩)
    (cLx : PySem.W.codeIn K cL "law" = true)
    (kLx : PySem.W.keepIn K (.ref pL) = true)
    : ∃ (fd : FuncData) (cs : List (Addr × Addr)), (∀ p ∈ cs, (∃ x, ((recsOf q0).find? fun e => e.name == x).isSome = true ∧ PySem.W.tabIn K x = some p) ∧ K.lookup p.2 = none) ∧ (∀ (s : Shared) (v : Value), BindsTo s fd ⟨[v], []⟩ [("script", v)]) ∧ ∀ base : Heap, K.In base → base.Ns mainGlobals mg → (∀ p ∈ cs, LamX.TabB base mg p.1 p.2) → FnOk l.prog w K mg base (L2.CX l.prog w) 12 fa fd ["script"] (spLaw K cs) := by
  have ef := hfa.symm.trans (PySem.W.mg_of X G aL)
  cases ef
  have T : Txt K mg CB tkC tkH  CBadStyle CBadWords CBadBook CBadTold CBadPlan CBadText CBadCommand := { n_ValueError := PySem.W.mg_none_of X G z_ValueError, n_abs := PySem.W.mg_none_of X G z_abs, n_bool := PySem.W.mg_none_of X G z_bool, n_enumerate := PySem.W.mg_none_of X G z_enumerate, n_int := PySem.W.mg_none_of X G z_int, n_isinstance := PySem.W.mg_none_of X G z_isinstance, n_len := PySem.W.mg_none_of X G z_len, n_list := PySem.W.mg_none_of X G z_list, n_range := PySem.W.mg_none_of X G z_range, n_sum := PySem.W.mg_none_of X G z_sum, n_tuple := PySem.W.mg_none_of X G z_tuple, g_CELLS := PySem.W.mg_of X G g_CELLS, g_HEIGHTS := PySem.W.mg_of X G g_HEIGHTS, g_ComesError := PySem.W.mg_of X G aB, rd_ComesError := ⟨rB, sB⟩, vi_ComesError := vB, g_BadStyle := PySem.W.mg_of X G gK_BadStyle, g_BadWords := PySem.W.mg_of X G gK_BadWords, g_BadBook := PySem.W.mg_of X G gK_BadBook, g_BadTold := PySem.W.mg_of X G gK_BadTold, g_BadPlan := PySem.W.mg_of X G gK_BadPlan, g_BadText := PySem.W.mg_of X G gK_BadText, g_BadCommand := PySem.W.mg_of X G gK_BadCommand }
  have A_is_whole : At K mg "is_whole" s_is_whole ["value"] := at_mk X G a1 l1 c1x k1x (fun _ _ _ _ _ _ us hl => match us, hl with | [_], _ => rfl)
  have A_check_most : At K mg "check_most" s_check_most ["what", "many", "most"] := at_mk X G a2 l2 c2x k2x (fun _ _ _ _ _ _ us hl => match us, hl with | [_, _, _], _ => rfl)
  have A_check_numbers : At K mg "check_numbers" s_check_numbers ["what", "numbers", "most"] := at_mk X G a3 l3 c3x k3x (fun _ _ _ _ _ _ us hl => match us, hl with | [_, _, _], _ => rfl)
  have A__law_purse : At K mg "_law_purse" s__law_purse ["script", "at"] := at_mk X G a4 l4 c4x k4x (fun _ _ _ _ _ _ us hl => match us, hl with | [_, _], _ => rfl)
  have A__law_draw : At K mg "_law_draw" s__law_draw ["purse", "many"] := at_mk X G a5 l5 c5x k5x (fun _ _ _ _ _ _ us hl => match us, hl with | [_, _], _ => rfl)
  have A__law_heights : At K mg "_law_heights" s__law_heights ["purse", "many", "least", "most"] := at_mk X G a6 l6 c6x k6x (fun _ _ _ _ _ _ us hl => match us, hl with | [_, _, _, _], _ => rfl)
  have A__law_is_whole : At K mg "_law_is_whole" s__law_is_whole ["told"] := at_mk X G a7 l7 c7x k7x (fun _ _ _ _ _ _ us hl => match us, hl with | [_], _ => rfl)
  have A__law_cells_by_line : At K mg "_law_cells_by_line" s__law_cells_by_line ["heights", "behind"] := at_mk X G a8 l8 c8x k8x (fun _ _ _ _ _ _ us hl => match us, hl with | [_, _], _ => rfl)
  have A__law_edges : At K mg "_law_edges" s__law_edges ["heights"] := at_mk X G a9 l9 c9x k9x (fun _ _ _ _ _ _ us hl => match us, hl with | [_], _ => rfl)
  have A__law_next : At K mg "_law_next" s__law_next ["edges", "line"] := at_mk X G a10 l10 c10x k10x (fun _ _ _ _ _ _ us hl => match us, hl with | [_, _], _ => rfl)
  have A__law_refused : At K mg "_law_refused" s__law_refused ["action"] := at_mk X G a11 l11 c11x k11x (fun _ _ _ _ _ _ us hl => match us, hl with | [_], _ => rfl)
  have A__law_ends_right : AtL K mg "_law_ends_right" s__law_ends_right ["ruler", "heights"] cL__law_ends_right := atL_mk X G a12 l12 c12x k12x (fun _ _ _ _ _ _ us hl => match us, hl with | [_, _], _ => rfl)
  have A__law_lines_right : At K mg "_law_lines_right" s__law_lines_right ["ruler", "heights"] := at_mk X G a13 l13 c13x k13x (fun _ _ _ _ _ _ us hl => match us, hl with | [_, _], _ => rfl)
  have A__law_wide_right : At K mg "_law_wide_right" s__law_wide_right ["purse"] := at_mk X G a14 l14 c14x k14x (fun _ _ _ _ _ _ us hl => match us, hl with | [_], _ => rfl)
  have A__law_refused_by_base : At K mg "_law_refused_by_base" s__law_refused_by_base ["heights"] := at_mk X G a15 l15 c15x k15x (fun _ _ _ _ _ _ us hl => match us, hl with | [_], _ => rfl)
  have A__law_bounds_right : AtL K mg "_law_bounds_right" s__law_bounds_right ["purse"] cL__law_bounds_right := atL_mk X G a16 l16 c16x k16x (fun _ _ _ _ _ _ us hl => match us, hl with | [_], _ => rfl)
  have o_Ruler : OC K mg "Ruler" CRuler ["height_list", "edge_list"] := ⟨⟨pg_Ruler, hd_Ruler, po_Ruler, sa_Ruler⟩, PySem.W.mg_of X G aK_Ruler, kc_Ruler, (List.forall_mem_cons.mpr ⟨nf_Ruler_height_list, (List.forall_mem_cons.mpr ⟨nf_Ruler_edge_list, List.forall_mem_nil _⟩)⟩)⟩
  have FM0 := funD_mk (st := s_Ruler___init__) lM0 cM0x
  have bM0 : Binds K (PySem.W.fnOf "__init__" "Ruler.__init__" (defArgs s_Ruler___init__) (defBody s_Ruler___init__) (defScope s_Ruler___init__) .none kM0 dcM0 mM0 nM0 cM0 tM0) ["self", "heights"] [] := .all (fun us hl => match us, hl with | [_, _], _ => rfl)
  have A_Ruler : AtI K mg "Ruler" CRuler "Ruler.__init__" s_Ruler___init__ ["self", "heights"] := ⟨_, _, FM0, ⟨mk_Ruler, aM0, iM0, kc_Ruler⟩, PySem.W.mg_of X G aK_Ruler, bM0⟩
  have FM1 := funD_mk (st := s_Ruler_many) lM1 cM1x
  have bM1 : Binds K (PySem.W.fnOf "many" "Ruler.many" (defArgs s_Ruler_many) (defBody s_Ruler_many) (defScope s_Ruler_many) .none kM1 dcM1 mM1 nM1 cM1 tM1) ["self"] [] := .all (fun us hl => match us, hl with | [_], _ => rfl)
  have A_Ruler_many : AtM K CRuler "many" "Ruler.many" s_Ruler_many ["self"] := ⟨_, _, FM1, ⟨aM1, iM1, kM1x⟩, bM1⟩
  have FM2 := funD_mk (st := s_Ruler_cell) lM2 cM2x
  have bM2 : Binds K (PySem.W.fnOf "cell" "Ruler.cell" (defArgs s_Ruler_cell) (defBody s_Ruler_cell) (defScope s_Ruler_cell) .none kM2 dcM2 mM2 nM2 cM2 tM2) ["self", "line"] [] := .all (fun us hl => match us, hl with | [_, _], _ => rfl)
  have A_Ruler_cell : AtM K CRuler "cell" "Ruler.cell" s_Ruler_cell ["self", "line"] := ⟨_, _, FM2, ⟨aM2, iM2, kM2x⟩, bM2⟩
  have FM3 := funD_mk (st := s_Ruler_check_cell) lM3 cM3x
  have bM3 : Binds K (PySem.W.fnOf "check_cell" "Ruler.check_cell" (defArgs s_Ruler_check_cell) (defBody s_Ruler_check_cell) (defScope s_Ruler_check_cell) .none kM3 dcM3 mM3 nM3 cM3 tM3) ["self", "cell"] [] := .all (fun us hl => match us, hl with | [_, _], _ => rfl)
  have A_Ruler_check_cell : AtM K CRuler "check_cell" "Ruler.check_cell" s_Ruler_check_cell ["self", "cell"] := ⟨_, _, FM3, ⟨aM3, iM3, kM3x⟩, bM3⟩
  have FM4 := funD_mk (st := s_Ruler_first) lM4 cM4x
  have bM4 : Binds K (PySem.W.fnOf "first" "Ruler.first" (defArgs s_Ruler_first) (defBody s_Ruler_first) (defScope s_Ruler_first) .none kM4 dcM4 mM4 nM4 cM4 tM4) ["self", "cell"] [] := .all (fun us hl => match us, hl with | [_, _], _ => rfl)
  have A_Ruler_first : AtM K CRuler "first" "Ruler.first" s_Ruler_first ["self", "cell"] := ⟨_, _, FM4, ⟨aM4, iM4, kM4x⟩, bM4⟩
  have FM5 := funD_mk (st := s_Ruler_last) lM5 cM5x
  have bM5 : Binds K (PySem.W.fnOf "last" "Ruler.last" (defArgs s_Ruler_last) (defBody s_Ruler_last) (defScope s_Ruler_last) .none kM5 dcM5 mM5 nM5 cM5 tM5) ["self", "cell"] [] := .all (fun us hl => match us, hl with | [_, _], _ => rfl)
  have A_Ruler_last : AtM K CRuler "last" "Ruler.last" s_Ruler_last ["self", "cell"] := ⟨_, _, FM5, ⟨aM5, iM5, kM5x⟩, bM5⟩
  have FM6 := funD_mk (st := s_Ruler_heights) lM6 cM6x
  have bM6 : Binds K (PySem.W.fnOf "heights" "Ruler.heights" (defArgs s_Ruler_heights) (defBody s_Ruler_heights) (defScope s_Ruler_heights) .none kM6 dcM6 mM6 nM6 cM6 tM6) ["self"] [] := .all (fun us hl => match us, hl with | [_], _ => rfl)
  have A_Ruler_heights : AtM K CRuler "heights" "Ruler.heights" s_Ruler_heights ["self"] := ⟨_, _, FM6, ⟨aM6, iM6, kM6x⟩, bM6⟩
  have FM7 := funD_mk (st := s_Ruler_edges) lM7 cM7x
  have bM7 : Binds K (PySem.W.fnOf "edges" "Ruler.edges" (defArgs s_Ruler_edges) (defBody s_Ruler_edges) (defScope s_Ruler_edges) .none kM7 dcM7 mM7 nM7 cM7 tM7) ["self"] [] := .all (fun us hl => match us, hl with | [_], _ => rfl)
  have A_Ruler_edges : AtM K CRuler "edges" "Ruler.edges" s_Ruler_edges ["self"] := ⟨_, _, FM7, ⟨aM7, iM7, kM7x⟩, bM7⟩
  have FM8 := funD_mk (st := s_Ruler_fits) lM8 cM8x
  have bM8 : Binds K (PySem.W.fnOf "fits" "Ruler.fits" (defArgs s_Ruler_fits) (defBody s_Ruler_fits) (defScope s_Ruler_fits) .none kM8 dcM8 mM8 nM8 cM8 tM8) ["self", "line", "lines"] [] := .all (fun us hl => match us, hl with | [_, _, _], _ => rfl)
  have A_Ruler_fits : AtM K CRuler "fits" "Ruler.fits" s_Ruler_fits ["self", "line", "lines"] := ⟨_, _, FM8, ⟨aM8, iM8, kM8x⟩, bM8⟩
  have FM9 := funD_mk (st := s_Ruler_next_edge) lM9 cM9x
  have bM9 : Binds K (PySem.W.fnOf "next_edge" "Ruler.next_edge" (defArgs s_Ruler_next_edge) (defBody s_Ruler_next_edge) (defScope s_Ruler_next_edge) .none kM9 dcM9 mM9 nM9 cM9 tM9) ["self", "line"] [] := .all (fun us hl => match us, hl with | [_, _], _ => rfl)
  have A_Ruler_next_edge : AtM K CRuler "next_edge" "Ruler.next_edge" s_Ruler_next_edge ["self", "line"] := ⟨_, _, FM9, ⟨aM9, iM9, kM9x⟩, bM9⟩
  have FL := fun_mk (st := s_law) lL cLx kLx
  refine ⟨PySem.W.fnOf "law" "law" (defArgs s_law) (defBody s_law) (defScope s_law) .none kL dL mL nL cL tL, [(cL__law_ends_right, PL__law_ends_right), (cL__law_bounds_right, PL__law_bounds_right)], ?_, fun s v => .of_eq rfl, fun base _ _ hTB => ?_⟩
  · exact List.forall_mem_cons.mpr ⟨⟨⟨_, rc__law_ends_right, tab_mk a12 l12 lt12 hv12⟩, nl12⟩, List.forall_mem_cons.mpr ⟨⟨⟨_, rc__law_bounds_right, tab_mk a16 l16 lt16 hv16⟩, nl16⟩, fun _ z => (List.not_mem_nil z).elim⟩⟩
  have TB__law_ends_right := hTB _ ( List.mem_cons_self)
  have TB__law_bounds_right := hTB _ (List.mem_cons_of_mem _ ( List.mem_cons_self))
  have oT : OexC K CT := ⟨⟨nmT, qT, NT, bsT, _, snT, subT, abT, colT, ddT, maT, mbT, mcT, mdT, meT, xT, rfl⟩, saT, eCT, tCT, kCT⟩
  have FT := fun_mk (st := s_TooMany___init__) lT cT kfT
  have bT := FT.binds (ps := ["self", "what"]) (fun _ _ _ _ _ _ us hl => match us, hl with | [_, _], _ => rfl)
  have x_TooMany : Exn l.prog w K mg base "TooMany" "what" CT := ⟨oT, PySem.W.mg_of X G aT, ⟨fT, _, iT, tyT, ok_initT T FT oT noT, bT⟩, ⟨gaT, ggT, eCT, hCT⟩, noT, exm_self eCT iCT tCT sCT⟩
  have oW : OexC K CW := ⟨⟨nmW, qW, NW, bsW, _, snW, subW, abW, colW, ddW, maW, mbW, mcW, mdW, meW, xW, rfl⟩, saW, eCW, tCW, kCW⟩
  have FW := fun_mk (st := s_BadRuler___init__) lW cW kfW
  have bW := FW.binds (ps := ["self", "place"]) (fun _ _ _ _ _ _ us hl => match us, hl with | [_, _], _ => rfl)
  have x_BadRuler : Exn l.prog w K mg base "BadRuler" "place" CW := ⟨oW, PySem.W.mg_of X G aW, ⟨fW, _, iW, tyW, ok_initW T FW oW noW, bW⟩, ⟨gaW, ggW, eCW, hCW⟩, noW, exm_self eCW iCW tCW sCW⟩
  have x_WT : PySem.W.exmOne K (.ref CW) (.ref CT) = some false := exm_not eCT iCT tCT nWT
  have x_WB : PySem.W.exmOne K (.ref CW) (.ref CB) = some true := exm_is yB1 yB2 yB3 yB4
  have xi_W : XI K CW := ⟨xW1, gaW, ggW, eCW, xW5, xW6, xW7, xW8⟩
  have d_is_whole : Def l.prog w K mg base "is_whole" 1 ["value"] spIsWhole := ok_is_whole T A_is_whole
  have d_check_most : Def l.prog w K mg base "check_most" 3 ["what", "many", "most"] (spMost CT CW) := ok_check_most T A_check_most x_TooMany d_is_whole
  have d_check_numbers : Def l.prog w K mg base "check_numbers" 4 ["what", "numbers", "most"] (spNums K CT CW) := ok_check_numbers T A_check_numbers d_check_most
  have d_Ruler : DI l.prog w K mg base "Ruler" CRuler 5 ["self", "heights"] (spRuler K CT CW CRuler) := ok_Ruler_init T A_Ruler o_Ruler x_BadRuler d_check_most d_check_numbers
  have d_Ruler_many : DM l.prog w K mg base CRuler "many" 1 ["self"] (spMany CRuler) := ok_Ruler_many T A_Ruler_many o_Ruler
  have d_Ruler_cell : DM l.prog w K mg base CRuler "cell" 1 ["self", "line"] (spCellOf CRuler) := ok_Ruler_cell T A_Ruler_cell o_Ruler
  have d_Ruler_check_cell : DM l.prog w K mg base CRuler "check_cell" 3 ["self", "cell"] (spRCheck CT CW CRuler) := ok_Ruler_check T A_Ruler_check_cell o_Ruler x_BadRuler d_Ruler_many
  have d_Ruler_first : DM l.prog w K mg base CRuler "first" 4 ["self", "cell"] (spFirst CT CW CRuler) := ok_Ruler_first T A_Ruler_first o_Ruler d_Ruler_check_cell
  have d_Ruler_last : DM l.prog w K mg base CRuler "last" 4 ["self", "cell"] (spLast CT CW CRuler) := ok_Ruler_last T A_Ruler_last o_Ruler d_Ruler_check_cell d_Ruler_many
  have d_Ruler_heights : DM l.prog w K mg base CRuler "heights" 1 ["self"] (spHts K CRuler) := ok_Ruler_heights T A_Ruler_heights o_Ruler
  have d_Ruler_edges : DM l.prog w K mg base CRuler "edges" 1 ["self"] (spEdg K CRuler) := ok_Ruler_edges T A_Ruler_edges o_Ruler
  have d_Ruler_fits : DM l.prog w K mg base CRuler "fits" 2 ["self", "line", "lines"] (spFits CRuler) := ok_Ruler_fits T A_Ruler_fits o_Ruler d_Ruler_cell
  have d_Ruler_next_edge : DM l.prog w K mg base CRuler "next_edge" 2 ["self", "line"] (spNext CRuler) := ok_Ruler_next T A_Ruler_next_edge o_Ruler d_Ruler_cell d_Ruler_many
  have d__law_purse : Def l.prog w K mg base "_law_purse" 1 ["script", "at"] (spPurse K) := ok_purse T A__law_purse
  have d__law_draw : Def l.prog w K mg base "_law_draw" 1 ["purse", "many"] spDraw := ok_draw T A__law_draw
  have d__law_heights : Def l.prog w K mg base "_law_heights" 2 ["purse", "many", "least", "most"] spHeights := ok_heights T A__law_heights d__law_draw
  have d__law_is_whole : Def l.prog w K mg base "_law_is_whole" 1 ["told"] spIsW := ok_lis T A__law_is_whole
  have d__law_cells_by_line : Def l.prog w K mg base "_law_cells_by_line" 1 ["heights", "behind"] (spCbl K) := ok_cbl T A__law_cells_by_line
  have d__law_edges : Def l.prog w K mg base "_law_edges" 1 ["heights"] (spLEdg K) := ok_ledg T A__law_edges
  have d__law_next : Def l.prog w K mg base "_law_next" 1 ["edges", "line"] (spLNext K) := ok_lnext T A__law_next
  have d__law_ends_right : Def l.prog w K mg base "_law_ends_right" 10 ["ruler", "heights"] (spEnds K CRuler PL__law_ends_right PL__law_bounds_right) := ok_ends T A__law_ends_right TB__law_ends_right A__law_refused hPL o_Ruler x_TooMany x_BadRuler x_WT d_Ruler_many d_Ruler_first d_Ruler_last d_Ruler_heights d_Ruler_edges d__law_edges d__law_is_whole
  have d__law_lines_right : Def l.prog w K mg base "_law_lines_right" 3 ["ruler", "heights"] (spLines K CRuler) := ok_lines T A__law_lines_right o_Ruler d__law_cells_by_line d__law_edges d__law_is_whole d_Ruler_cell d_Ruler_next_edge d__law_next d_Ruler_fits
  have d__law_wide_right : Def l.prog w K mg base "_law_wide_right" 11 ["purse"] (spWide PL__law_ends_right PL__law_bounds_right) := ok_wide T A__law_wide_right o_Ruler d__law_draw d_Ruler d__law_edges d_Ruler_cell d_Ruler_next_edge d_Ruler_fits d__law_ends_right
  have d__law_refused_by_base : Def l.prog w K mg base "_law_refused_by_base" 7 ["heights"] (spBase K) := ok_base T A__law_refused_by_base x_TooMany x_BadRuler xi_W x_WB kW1 kW2 kW3 d_Ruler
  have d__law_bounds_right : Def l.prog w K mg base "_law_bounds_right" 10 ["purse"] (spBnds PL__law_ends_right PL__law_bounds_right) := ok_bounds T A__law_bounds_right TB__law_bounds_right A__law_refused hPL o_Ruler x_TooMany x_BadRuler x_WT d__law_draw d__law_heights d_Ruler d_Ruler_many d_Ruler_last d_Ruler_heights d_Ruler_edges d__law_refused_by_base
  exact ok_law T FL hPL o_Ruler d__law_purse d__law_draw d__law_heights d_Ruler d__law_ends_right d__law_lines_right d_Ruler_heights d_Ruler_edges d__law_wide_right d__law_bounds_right
end K00

open PySem PySem.W PyProof.Rows in
set_option maxRecDepth 100000 in
set_option maxHeartbeats 0 in
theorem PySem.Challenge.cw_comestrue_k00_cells_of_rulers_at_all_lin_holds : PySem.Challenge.rw_comestrue_k00_cells_of_rulers_at_all_lin.Holds := by
  w_on; o_law; k_head; (case hw => w_witness2)
  k_fill
  refine Lay.end_ofTs (l := PySem.Challenge.rw_comestrue_k00_cells_of_rulers_at_all_lin) (k := 12) (sp := K00.spLaw) rfl rfl ⟨rfl, by decide, by decide⟩ (fun w h Y => PySem.W.km_in_of Y) (fun K cs H a ns hl hT hS => ⟨a, ns, rfl, hS, hl, hT, fun _ => rfl⟩) ?F
  case F =>
    intro w mg fa h KX G hmg
    refine' K00.all_mk KX G hmg ?h_z_ValueError ?h_z_abs ?h_z_bool ?h_z_enumerate ?h_z_int ?h_z_isinstance ?h_z_len ?h_z_list ?h_z_range ?h_z_sum ?h_z_tuple ?h_g_CELLS ?h_g_HEIGHTS ?h_aB ?h_rB ?h_sB ?h_vB ?h_aT ?h_xT ?h_saT ?h_gaT ?h_ggT ?h_noT ?h_iT ?h_tyT ?h_lT ?h_cT ?h_kfT ?h_kCT ?h_eCT ?h_tCT ?h_hCT ?h_iCT ?h_sCT ?h_aW ?h_xW ?h_saW ?h_gaW ?h_ggW ?h_noW ?h_iW ?h_tyW ?h_lW ?h_cW ?h_kfW ?h_kCW ?h_eCW ?h_tCW ?h_hCW ?h_iCW ?h_sCW ?h_nWT ?h_gK_BadStyle ?h_gK_BadWords ?h_gK_BadBook ?h_gK_BadTold ?h_gK_BadPlan ?h_gK_BadText ?h_gK_BadCommand ?h_a1 ?h_l1 ?h_c1x ?h_k1x ?h_a2 ?h_l2 ?h_c2x ?h_k2x ?h_a3 ?h_l3 ?h_c3x ?h_k3x ?h_a4 ?h_l4 ?h_c4x ?h_k4x ?h_a5 ?h_l5 ?h_c5x ?h_k5x ?h_a6 ?h_l6 ?h_c6x ?h_k6x ?h_a7 ?h_l7 ?h_c7x ?h_k7x ?h_a8 ?h_l8 ?h_c8x ?h_k8x ?h_a9 ?h_l9 ?h_c9x ?h_k9x ?h_a10 ?h_l10 ?h_c10x ?h_k10x ?h_a11 ?h_l11 ?h_c11x ?h_k11x ?h_a12 ?h_l12 ?h_c12x ?h_lt12 ?h_hv12 ?h_nl12 ?h_k12x ?h_a13 ?h_l13 ?h_c13x ?h_k13x ?h_a14 ?h_l14 ?h_c14x ?h_k14x ?h_a15 ?h_l15 ?h_c15x ?h_k15x ?h_a16 ?h_l16 ?h_c16x ?h_lt16 ?h_hv16 ?h_nl16 ?h_k16x ?h_aK_Ruler ?h_pg_Ruler ?h_hd_Ruler ?h_po_Ruler ?h_sa_Ruler ?h_kc_Ruler ?h_mk_Ruler ?h_nf_Ruler_height_list ?h_nf_Ruler_edge_list ?h_aM0 ?h_iM0 ?h_lM0 ?h_cM0x ?h_kM0x ?h_aM1 ?h_iM1 ?h_lM1 ?h_cM1x ?h_kM1x ?h_aM2 ?h_iM2 ?h_lM2 ?h_cM2x ?h_kM2x ?h_aM3 ?h_iM3 ?h_lM3 ?h_cM3x ?h_kM3x ?h_aM4 ?h_iM4 ?h_lM4 ?h_cM4x ?h_kM4x ?h_aM5 ?h_iM5 ?h_lM5 ?h_cM5x ?h_kM5x ?h_aM6 ?h_iM6 ?h_lM6 ?h_cM6x ?h_kM6x ?h_aM7 ?h_iM7 ?h_lM7 ?h_cM7x ?h_kM7x ?h_aM8 ?h_iM8 ?h_lM8 ?h_cM8x ?h_kM8x ?h_aM9 ?h_iM9 ?h_lM9 ?h_cM9x ?h_kM9x ?h_hPL ?h_yB1 ?h_yB2 ?h_yB3 ?h_yB4 ?h_kW1 ?h_kW2 ?h_kW3 ?h_xW1 ?h_xW5 ?h_xW6 ?h_xW7 ?h_xW8 ?h_rc__law_ends_right ?h_rc__law_bounds_right ?h_aL ?h_lL ?h_cLx ?h_kLx
    (case h_z_ValueError => k_is)
    (case h_z_abs => k_is)
    (case h_z_bool => k_is)
    (case h_z_enumerate => k_is)
    (case h_z_int => k_is)
    (case h_z_isinstance => k_is)
    (case h_z_len => k_is)
    (case h_z_list => k_is)
    (case h_z_range => k_is)
    (case h_z_sum => k_is)
    (case h_z_tuple => k_is)
    (case h_g_CELLS => k_is)
    (case h_g_HEIGHTS => k_is)
    (case h_aB => k_is)
    (case h_rB => k_is)
    (case h_sB => k_is)
    (case h_vB => k_is)
    (case h_aT => k_is)
    (case h_xT => k_is)
    (case h_saT => k_is)
    (case h_gaT => k_is)
    (case h_ggT => k_is)
    (case h_noT => k_is)
    (case h_iT => k_is)
    (case h_tyT => k_is)
    (case h_lT => k_is)
    (case h_cT => k_is)
    (case h_kfT => k_is)
    (case h_kCT => k_is)
    (case h_eCT => k_is)
    (case h_tCT => k_is)
    (case h_hCT => k_is)
    (case h_iCT => k_is)
    (case h_sCT => first | rfl | k_is)
    (case h_aW => k_is)
    (case h_xW => k_is)
    (case h_saW => k_is)
    (case h_gaW => k_is)
    (case h_ggW => k_is)
    (case h_noW => k_is)
    (case h_iW => k_is)
    (case h_tyW => k_is)
    (case h_lW => k_is)
    (case h_cW => k_is)
    (case h_kfW => k_is)
    (case h_kCW => k_is)
    (case h_eCW => k_is)
    (case h_tCW => k_is)
    (case h_hCW => k_is)
    (case h_iCW => k_is)
    (case h_sCW => first | rfl | k_is)
    (case h_nWT => k_is)
    (case h_gK_BadStyle => k_is)
    (case h_gK_BadWords => k_is)
    (case h_gK_BadBook => k_is)
    (case h_gK_BadTold => k_is)
    (case h_gK_BadPlan => k_is)
    (case h_gK_BadText => k_is)
    (case h_gK_BadCommand => k_is)
    (case h_a1 => k_is)
    (case h_l1 => k_is)
    (case h_c1x => k_is)
    (case h_k1x => k_is)
    (case h_a2 => k_is)
    (case h_l2 => k_is)
    (case h_c2x => k_is)
    (case h_k2x => k_is)
    (case h_a3 => k_is)
    (case h_l3 => k_is)
    (case h_c3x => k_is)
    (case h_k3x => k_is)
    (case h_a4 => k_is)
    (case h_l4 => k_is)
    (case h_c4x => k_is)
    (case h_k4x => k_is)
    (case h_a5 => k_is)
    (case h_l5 => k_is)
    (case h_c5x => k_is)
    (case h_k5x => k_is)
    (case h_a6 => k_is)
    (case h_l6 => k_is)
    (case h_c6x => k_is)
    (case h_k6x => k_is)
    (case h_a7 => k_is)
    (case h_l7 => k_is)
    (case h_c7x => k_is)
    (case h_k7x => k_is)
    (case h_a8 => k_is)
    (case h_l8 => k_is)
    (case h_c8x => k_is)
    (case h_k8x => k_is)
    (case h_a9 => k_is)
    (case h_l9 => k_is)
    (case h_c9x => k_is)
    (case h_k9x => k_is)
    (case h_a10 => k_is)
    (case h_l10 => k_is)
    (case h_c10x => k_is)
    (case h_k10x => k_is)
    (case h_a11 => k_is)
    (case h_l11 => k_is)
    (case h_c11x => k_is)
    (case h_k11x => k_is)
    (case h_a12 => k_is)
    (case h_l12 => k_is)
    (case h_c12x => k_is)
    (case h_lt12 => k_is)
    (case h_hv12 => exact rfl)
    (case h_nl12 => first | exact rfl | with_unfolding_all exact rfl | k_is)
    (case h_k12x => k_is)
    (case h_a13 => k_is)
    (case h_l13 => k_is)
    (case h_c13x => k_is)
    (case h_k13x => k_is)
    (case h_a14 => k_is)
    (case h_l14 => k_is)
    (case h_c14x => k_is)
    (case h_k14x => k_is)
    (case h_a15 => k_is)
    (case h_l15 => k_is)
    (case h_c15x => k_is)
    (case h_k15x => k_is)
    (case h_a16 => k_is)
    (case h_l16 => k_is)
    (case h_c16x => k_is)
    (case h_lt16 => k_is)
    (case h_hv16 => exact rfl)
    (case h_nl16 => first | exact rfl | with_unfolding_all exact rfl | k_is)
    (case h_k16x => k_is)
    (case h_aK_Ruler => k_is)
    (case h_pg_Ruler => k_is)
    (case h_hd_Ruler => k_is)
    (case h_po_Ruler => k_is)
    (case h_sa_Ruler => k_is)
    (case h_kc_Ruler => k_is)
    (case h_mk_Ruler => k_is)
    (case h_nf_Ruler_height_list => k_is)
    (case h_nf_Ruler_edge_list => k_is)
    (case h_aM0 => k_is)
    (case h_iM0 => k_is)
    (case h_lM0 => k_is)
    (case h_cM0x => k_is)
    (case h_kM0x => k_is)
    (case h_aM1 => k_is)
    (case h_iM1 => k_is)
    (case h_lM1 => k_is)
    (case h_cM1x => k_is)
    (case h_kM1x => k_is)
    (case h_aM2 => k_is)
    (case h_iM2 => k_is)
    (case h_lM2 => k_is)
    (case h_cM2x => k_is)
    (case h_kM2x => k_is)
    (case h_aM3 => k_is)
    (case h_iM3 => k_is)
    (case h_lM3 => k_is)
    (case h_cM3x => k_is)
    (case h_kM3x => k_is)
    (case h_aM4 => k_is)
    (case h_iM4 => k_is)
    (case h_lM4 => k_is)
    (case h_cM4x => k_is)
    (case h_kM4x => k_is)
    (case h_aM5 => k_is)
    (case h_iM5 => k_is)
    (case h_lM5 => k_is)
    (case h_cM5x => k_is)
    (case h_kM5x => k_is)
    (case h_aM6 => k_is)
    (case h_iM6 => k_is)
    (case h_lM6 => k_is)
    (case h_cM6x => k_is)
    (case h_kM6x => k_is)
    (case h_aM7 => k_is)
    (case h_iM7 => k_is)
    (case h_lM7 => k_is)
    (case h_cM7x => k_is)
    (case h_kM7x => k_is)
    (case h_aM8 => k_is)
    (case h_iM8 => k_is)
    (case h_lM8 => k_is)
    (case h_cM8x => k_is)
    (case h_kM8x => k_is)
    (case h_aM9 => k_is)
    (case h_iM9 => k_is)
    (case h_lM9 => k_is)
    (case h_cM9x => k_is)
    (case h_kM9x => k_is)
    (case h_hPL => decide)
    (case h_yB1 => k_is)
    (case h_yB2 => k_is)
    (case h_yB3 => k_is)
    (case h_yB4 => k_is)
    (case h_kW1 => first | rfl | k_is)
    (case h_kW2 => first | rfl | k_is)
    (case h_kW3 => first | rfl | k_is)
    (case h_xW1 => first | rfl | k_is)
    (case h_xW5 => k_is)
    (case h_xW6 => k_is)
    (case h_xW7 => k_is)
    (case h_xW8 => k_is)
    (case h_rc__law_ends_right => decide +kernel)
    (case h_rc__law_bounds_right => decide +kernel)
    (case h_aL => k_is)
    (case h_lL => k_is)
    (case h_cLx => k_is)
    (case h_kLx => k_is)
