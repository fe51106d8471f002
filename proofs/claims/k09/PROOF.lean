import PyProof.Rows.All
import Wide.All
import OpenK.AllK
import Wide.FinOn
import PyProof.EqAt
import PyProof.EqKinds
import PyProof.TupleCall
import HandS.Base
import HandS.Call
import HandS.List
import HandS.Comp
import HandS.Ends
import HandS.Iter
import HandS.Exc
import HandS.ExcOwn
import HandS.ExcInit
import HandS.ClsMeth
import HandS.Words
import HandS.WordsList
import HandS.WordsExc
import HandS.ExcField
import HandS.TryMany
import HandS.IsInst
import HandS.FStr
import HandS.Conv
import HandS.Steps
import HandS.Evl
import HandS.RevTup
import HandS.Rev
import PyProof.ListRange
import HandS.NoneIn
import HandS.Defaults
import HandS.Lambda
import HandS.EndTab
import KE.KNest
import KE.KExcIs
import KE.GoesEnum
import HandS.Wide
import HandS.SortKw
import KE.KSortKey
import KE.KLam
import KE.SortData
import HandS.RevRange
import PySem.Challenge.RW_comestrue_k09_arcs_are_sets_of_lines
set_option Elab.async false
set_option linter.all false
set_option maxRecDepth 100000
set_option maxHeartbeats 4000000
namespace Lay
open PySem PySem.Spec PyProof.Rows L2 Evl

section
variable {X : Cx} {e : Expr} {es : List Expr} {ta : TA} {x : Str} {C0 : Addr} {mc : Value} {p1 p2 pos : Pos}
/-- Base.__init__(self, ..), Base an own class over ValueError without one of its own -/
theorem pe_binit {pl : Sem Bool} (hg : Gl X x) (hm : X.mg x = some (.ref C0)) (hr : ClX.CRead X.K C0 mc) (vV : PySem.W.findCls X.K (.ref C0) mc "__init__" = some (.val (.builtin "ValueError.__init__"))) (ha : PA X (e :: es) ta)
    (hdb : (x == ("__debug__" : Str)) = false := by decide)
    (hc : eval (.Call (.Attribute (.Name x p1) "__init__" p2) (e :: es) [] pos) X.env = (do
      let ov ← eval (.Name x p1) X.env
      standAt p2.atName
      let (f, first) ← holding [ov] (getMethod ov "__init__" pl)
      callWith pos f first (backTo pos (starEach (e :: es) X.env)) (backToKw pos (keywordEach [] X.env))) := by rfl)
    (he : starEach (e :: es) X.env = (false, eval e X.env) :: starEach es X.env := by rfl) (hpl : (backTo pos (starEach es X.env)).any (·.1) = false := by rfl) :
    PE X (.Call (.Attribute (.Name x p1) "__init__" p2) (e :: es) [] pos) (tVeI X.K ta) := by
  refine ⟨fun pins s σ H Q I h => ?_⟩
  refine PySem.W.methodCall_KW (ld_glob I hg hm ?_ hdb) hc
  refine PySem.W.method_cls I.kIn hr.ga (PySem.W.cls_value I.kIn hr.rd vV (by decide +kernel) ?_)
  show wpAny _ _ (callWith pos (Value.builtin "ValueError.__init__") [] (backTo pos (starEach (e :: es) X.env)) []) _ _ _
  refine PyProof.Rows.callWith_method1 (thn (ha.run pos pins _ σ H _ (I.tok _) h) fun us s1 ⟨vs, H1, I1, r1, a, C, ws, ev, hl, T, ea, q⟩ => ?_) he hpl
  subst ev
  cases r1 with
  | @cons _ u0 _ ur ra rw' =>
    obtain rfl : u0 = Value.ref a := ra
    have hlen : ur.length ≤ sizeLine := by
      rw [← Paired.length rw', sizeLine_eq]
      omega
    exact oinit_ok T I1 ea hlen fun s' J => ⟨.non, H1, J, rfl, q⟩
end

/-! ### a def as callers know it -/
structure Def (P : Program) (w : World) (K : PySem.W.Frag) (mg : Str → Option Value) (base : Heap) (x : Str) (k : Nat) (ps : List Str) (sp : Sp) : Prop where
  ex : ∃ (f : Addr) (fd : FuncData), FnOk P w K mg base (L2.CX P w) k f fd ps sp ∧ mg x = some (.ref f) ∧ PySem.W.keepIn K (.ref f) = true ∧ Binds K fd ps []
/-- the text of a def as it stands behind the top -/
structure At (K : PySem.W.Frag) (mg : Str → Option Value) (x : Str) (st : Stmt) (ps : List Str) : Prop where
  ex : ∃ (f : Addr) (fd : FuncData), Fun K x x st f fd ∧ mg x = some (.ref f) ∧ Binds K fd ps []
section
variable {P : Program} {w : World} {K : PySem.W.Frag} {mg : Str → Option Value} {base : Heap}
theorem Def.mk' {x : Str} {st : Stmt} {N ps : List Str} {k : Nat} {sp : Sp} (F : At K mg x st ps) (S : FnScope N ps (defScope st)) (len : ∀ vs H Q E, sp vs H Q E → vs.length = ps.length)
    (hbody : ∀ (f : Addr) (cdv : Value) (A : Around) (outer : List Env) (s : Shared) (H : Hp) (vs : List V) (Q : VK) (E : XK), Room k (A.deeper (envOfC x (defScope st) s.heap.objs.size f cdv)) → sp vs H Q E →
      ∃ t, PSs (cxOf (L2.CX P w) P w K mg base N x (defScope st) f cdv A outer s H E) (defBody st) t ∧ t { nx := fun _ H' => Q .non H', rt := Q } (start N vs) H) : Def P w K mg base x (k + 1) ps sp := by
  obtain ⟨f, fd, Ff, g, b⟩ := F.ex
  exact ⟨f, fd, Ff.okX S len (hbody f), g, Ff.kp, b⟩
theorem Def.imp {x : Str} {k : Nat} {ps : List Str} {sp sp' : Sp} (d : Def P w K mg base x k ps sp) (h : ∀ vs H Q E, sp' vs H Q E → sp vs H Q E) : Def P w K mg base x k ps sp' := by
  obtain ⟨f, fd, F, r⟩ := d.ex
  exact ⟨f, fd, F.imp h, r⟩
end
section
variable {X : Cx} {k : Nat} {ps : List Str} {sp : Sp} {E : XK} {x : Str} {p pos : Pos} {e : Expr} {es : List Expr} {t : TA}
theorem pe_d (d : Def X.prog X.w X.K X.mg X.base x k ps sp) (hr : Room k X.A) (hx : Passes (L2.CX X.prog X.w) X E) (ha : PA X (e :: es) t) (hg : Gl X x := by rfl)
    (hdb : (x == ("__debug__" : Str)) = false := by decide) (he : starEach (e :: es) X.env = (false, eval e X.env) :: starEach es X.env := by rfl) (hpl : (backTo pos (starEach es X.env)).any (·.1) = false := by rfl) :
    PE X (.Call (.Name x p) (e :: es) [] pos) (tCallS sp (fun _ => E) t) := by
  obtain ⟨f, fd, F, g, kp, b⟩ := d.ex
  exact pe_callS F hr hg g kp b (fun σ pins H s e s' I c => hx pins σ H s e s' I c) ha hdb he hpl
/-- in a try's body -/
theorem pe_dT {W : WX} (d : Def X.prog X.w X.K X.mg X.base x k ps sp) (hr : Room k X.A) (tk : Takes X W) (ha : PA X (e :: es) t) (hg : Gl X x := by rfl)
    (hdb : (x == ("__debug__" : Str)) = false := by decide) (he : starEach (e :: es) X.env = (false, eval e X.env) :: starEach es X.env := by rfl) (hpl : (backTo pos (starEach es X.env)).any (·.1) = false := by rfl) :
    PE X (.Call (.Name x p) (e :: es) [] pos) (tCallS sp (WE W) t) := by
  obtain ⟨f, fd, F, g, kp, b⟩ := d.ex
  exact pe_callS F hr hg g kp b (fun σ => passAt tk σ) ha hdb he hpl
end

/-! ### heaps -/
/-- all but what stands at l is as it was -/
def ExB (l : Addr) (H H' : Hp) : Prop := ∀ a o, a ≠ l → H a = some o → H' a = some o
theorem Ex.b {l : Addr} {H H' : Hp} (e : Ex H H') : ExB l H H' := fun a o _ h => e a o h
theorem ExB.refl (l : Addr) (H : Hp) : ExB l H H := fun _ _ _ h => h
theorem ExB.trans {l : Addr} {H H1 H2 : Hp} (a : ExB l H H1) (b : ExB l H1 H2) : ExB l H H2 := fun x o n h => b x o n (a x o n h)
theorem ExB.upd {l : Addr} {o : HO} {H H' : Hp} (e : ExB l H H') : ExB l H (upd H' l o) := fun a u n h => by
  rw [upd_ne n]
  exact e a u n h
/-- l is new since H -/
theorem ExB.ex {l : Addr} {H H1 H2 : Hp} (e : Ex H H1) (b : ExB l H1 H2) (n : H l = none) : Ex H H2 := fun a o h => b a o (ne_of_none h n) (e a o h)
theorem ExB.exB {l m : Addr} {H H1 H2 : Hp} (e : ExB m H H1) (b : ExB l H1 H2) (n : H l = none) : ExB m H H2 := fun a o h' h => b a o (ne_of_none h n) (e a o h' h)
theorem ex_at {H H' : Hp} {a : Addr} {o : HO} (e : Ex H H') (h : H a = some o) : H' a = some o := e a o h
theorem exb_at {l : Addr} {H H' : Hp} {a : Addr} {o : HO} (e : ExB l H H') (n : a ≠ l) (h : H a = some o) : H' a = some o := e a o n h
theorem exb_l {K : PySem.W.Frag} {l : Addr} {H H' : Hp} {a : Addr} {xs : List V} (e : ExB l H H') (n : a ≠ l) (h : SqL K H a xs) : SqL K H' a xs := by
  rcases h with (h | ⟨o, h⟩) | h
  · exact .inl (.inl (e _ _ n h))
  · exact .inl (.inr ⟨o, e _ _ n h⟩)
  · exact .inr h
theorem fresh_b {l : Addr} {H H' : Hp} {p : Addr} (e : Ex H H') (h : H' p = none) : H p = none := fresh_back e h
theorem exn {H : Hp} {p : Addr} {o : HO} (h : H p = none) : Ex H (upd H p o) := Ex.new h

/-! ### ints of a list -/
def gi (ns : List Int) (i : Int) : Int := ns.getD i.toNat 0
theorem atI_gi {ns : List Int} {i : Int} (h0 : 0 ≤ i) (h1 : i < ns.length) : atI (ns.map V.int) i = some (.int (gi ns i)) := by
  obtain ⟨j, rfl⟩ : ∃ j : Nat, i = (j : Int) := ⟨i.toNat, by omega⟩
  have hj : j < ns.length := by omega
  refine atI_nat ?_
  rw [List.getElem?_map]
  unfold gi
  rw [Int.toNat_natCast, List.getD_eq_getElem?_getD, List.getElem?_eq_getElem hj]
  rfl
theorem atI_V {xs : List V} {i : Int} {v : V} {j : Nat} (e : i = (j : Int)) (h : xs[j]? = some v) : atI xs i = some v := by
  rw [e]
  exact atI_nat h

/-! ### named readings -/
def rList (K : PySem.W.Frag) : List V → Hp → VK → Prop := fun xs H Q => ∃ p ys, xs = [.ref p] ∧ (SqL K H p ys ∨ SqT K H p ys) ∧ ∀ l, H l = none → Q (.ref l) (upd H l (.lst ys))
def rLen (K : PySem.W.Frag) : List V → Hp → VK → Prop := fun xs H Q => ∃ p ys, xs = [.ref p] ∧ (SqL K H p ys ∨ SqT K H p ys) ∧ Q (.int ys.length) H
def rInt1 : List V → Hp → VK → Prop := fun xs H Q => (∃ i, xs = [.int i] ∧ Q (.int i) H) ∨ ∃ k, xs = [.bl k] ∧ Q (.int (if k then 1 else 0)) H
def rAbs : List V → Hp → VK → Prop := fun xs H Q => ∃ i, xs = [.int i] ∧ Q (.int (if i < 0 then -i else i)) H
def rMx2 : List V → Hp → VK → Prop := fun xs H Q => ∃ i j, xs = [.int i, .int j] ∧ Q (.int (if j > i then j else i)) H
def rMn2 : List V → Hp → VK → Prop := fun xs H Q => ∃ i j, xs = [.int i, .int j] ∧ Q (.int (if j < i then j else i)) H
section
variable {X : Cx}
theorem c_list : CallR X (.type "list") (rList X.K) := call_list_of
theorem c_len : CallR X (.builtin "len") (rLen X.K) := call_len_seq
theorem c_int : CallR X (.type "int") rInt1 := call_int1
theorem c_abs : CallR X (.builtin "abs") rAbs := call_abs
theorem c_max2 (hc : X.calm = true) : CallR X (.builtin "max") rMx2 := call_max2 hc
theorem c_min2 (hc : X.calm = true) : CallR X (.builtin "min") rMn2 := call_min2 hc
end
/-- a new list, a new tuple: what follows is wished of it -/
def NewL (xs : List V) (H : Hp) (Q : VK) : Prop := xs.length ≤ sizeLine ∧ ∀ p, H p = none → Q (.ref p) (upd H p (.lst xs))
def NewT (xs : List V) (H : Hp) (Q : VK) : Prop := xs.length ≤ sizeLine ∧ ∀ p, H p = none → Q (.ref p) (upd H p (.tup xs))
/-! ### readings, step by step -/
section
variable {K : PySem.W.Frag} {σ : L2.St} {H : Hp} {D : Ends} {t u : TS} {te ta tb tc : TE} {c d : TT} {tr : TA} {Q : VK} {R : Bool → Hp → Prop} {S : List V → Hp → Prop} {v x y : V} {i j : Int} {n : Nat} {r : R2} {sp : Sp} {E : L2.St → XK}
theorem r_seq (h : t ⟨u D, D.rt, D.bk, D.ct⟩ σ H) : tSeq t u D σ H := h
theorem r_set (h : te σ H fun x H1 => D.nx (σ.set n (some x)) H1) : tAsg te (gName n) D σ H := h
theorem r_sub {s : TSet} (h : te σ H fun v H1 => ta σ H1 fun o H2 => tb σ H2 fun i H3 => s o i v H3 fun H4 => D.nx σ H4) : tAsg te (gSub ta tb s) D σ H := h
theorem r_aug {ti : TIp} (e : σ[n]? = some (some x)) (h : te σ H fun y H1 => ti x y H1 fun z H2 => D.nx (σ.set n (some z)) H2) : tAug n te ti D σ H := ⟨_, e, h⟩
theorem r_ipI {f : Int → Int → Int} (h : Q (.int (f i j)) H) : ipI f (.int i) (.int j) H Q := ⟨i, j, rfl, rfl, h⟩
theorem r_drop (h : te σ H fun _ H1 => D.nx σ H1) : tDrop te D σ H := h
theorem r_ret (h : te σ H D.rt) : tRet te D σ H := h
theorem r_retN (h : D.rt .non H) : tRetN D σ H := h
theorem r_if (h : c σ H fun b H1 => if b = true then t D σ H1 else u D σ H1) : tIfS c t u D σ H := h
theorem r_next (h : D.nx σ H) : tNext D σ H := h
theorem r_brk (h : D.bk σ H) : tBreak D σ H := h
theorem r_cont (h : D.ct σ H) : tCont D σ H := h
theorem r_var (e : σ[n]? = some (some v)) (h : Q v H) : tVar n σ H Q := ⟨v, e, h⟩
theorem r_c (h : Q v H) : tC v σ H Q := h
theorem r_op (h : ta σ H fun x H1 => tb σ H1 fun y H2 => r x y H2 Q) : tOp r ta tb σ H Q := h
theorem r_un {r : V → Hp → VK → Prop} (h : ta σ H fun x H1 => r x H1 Q) : tUn r ta σ H Q := h
theorem r_I0 {g : Int → Int → V} (h : Q (g i j) H) : rI0 g (.int i) (.int j) H Q := ⟨i, j, rfl, rfl, h⟩
theorem r_I {C : Int → Int → Prop} {g : Int → Int → V} (k : C i j) (h : Q (g i j) H) : rI C g (.int i) (.int j) H Q := ⟨i, j, rfl, rfl, k, h⟩
theorem r_U {g : Int → V} (h : Q (g i) H) : rU g (.int i) H Q := ⟨i, rfl, h⟩
theorem dI {i j : Int} : decide (V.int i = V.int j) = decide (i = j) := by
  by_cases e : i = j
  · rw [e]
    simp
  · rw [decide_eq_false e, decide_eq_false (fun h => e (V.int.inj h))]
theorem r_eqI (h : Q (.bl (decide (i = j))) H) : rEq (.int i) (.int j) H Q := ⟨rfl, by rw [dI]; exact h⟩
theorem r_neI (h : Q (.bl (!decide (i = j))) H) : rNe (.int i) (.int j) H Q := ⟨rfl, by rw [dI]; exact h⟩
theorem r_isN (h : Q (.bl (decide (x = .non))) H) : rIsN x .non H Q := ⟨rfl, h⟩
theorem r_notN (h : Q (.bl (!decide (x = .non))) H) : rNotN x .non H Q := ⟨rfl, h⟩
theorem r_test (h : te σ H fun x H' => ∃ k, x = .bl k ∧ R k H') : tTest te σ H R := h
theorem r_tB (h : te σ H fun x H' => ∃ k, x = .bl k ∧ R k H') : tB te σ H R := h
theorem r_bl {b : Bool} {P : Bool → Prop} (h : P b) : ∃ k, V.bl b = .bl k ∧ P k := ⟨b, rfl, h⟩
theorem r_and (h : c σ H fun b H1 => if b = true then d σ H1 R else R false H1) : tAnd c d σ H R := h
theorem r_or (h : c σ H fun b H1 => if b = true then R true H1 else d σ H1 R) : tOr c d σ H R := h
theorem r_not (h : c σ H fun b H1 => R (!b) H1) : tNot c σ H R := h
theorem r_andV (h : ta σ H fun x H1 => ∃ c, x = .bl c ∧ if c = true then tb σ H1 Q else Q (.bl false) H1) : tAndV ta tb σ H Q := h
theorem r_orV (h : ta σ H fun x H1 => ∃ c, x = .bl c ∧ if c = true then Q (.bl true) H1 else tb σ H1 Q) : tOrV ta tb σ H Q := h
theorem r_notV (h : ta σ H fun x H1 => ∃ c, x = .bl c ∧ Q (.bl (!c)) H1) : tNotV ta σ H Q := h
theorem r_tIf (h : c σ H fun b H1 => if b = true then ta σ H1 Q else tb σ H1 Q) : tIf c ta tb σ H Q := h
theorem r_nil (h : S [] H) : tNil σ H S := h
theorem r_cons (h : te σ H fun x H1 => tr σ H1 fun xs H2 => S (x :: xs) H2) : tCons te tr σ H S := h
theorem r_call (h : tr σ H fun vs H1 => sp vs H1 Q (E σ)) : tCallS sp E tr σ H Q := h
theorem r_cb {r : List V → Hp → VK → Prop} (h : tr σ H fun vs H1 => r vs H1 Q) : tCB r tr σ H Q := h
theorem r_lst (h : tr σ H fun xs H1 => NewL xs H1 Q) : tLst tr σ H Q := h
theorem r_tup (h : tr σ H fun xs H1 => NewT xs H1 Q) : tTup tr σ H Q := h
theorem r_newL {xs : List V} (l : xs.length ≤ 100000) (h : ∀ p H2, H p = none → Ex H H2 → H2 p = some (.lst xs) → Q (.ref p) H2) : NewL xs H Q := ⟨sz_of l, fun p hp => h p _ hp (Ex.new hp) upd_same⟩
theorem r_newT {xs : List V} (l : xs.length ≤ 100000) (h : ∀ p H2, H p = none → Ex H H2 → H2 p = some (.tup xs) → Q (.ref p) H2) : NewT xs H Q := ⟨sz_of l, fun p hp => h p _ hp (Ex.new hp) upd_same⟩
theorem r_ite {P : Prop} [Decidable P] {A B : Prop} (h1 : P → A) (h2 : ¬ P → B) : if decide P = true then A else B := by
  by_cases h : P
  · rw [if_pos (decide_eq_true h)]
    exact h1 h
  · rw [if_neg (by rw [decide_eq_false h]; decide)]
    exact h2 h
theorem r_iteN {P : Prop} [Decidable P] {A B : Prop} (h1 : ¬ P → A) (h2 : P → B) : if (!decide P) = true then A else B := by
  by_cases h : P
  · rw [decide_eq_true h]
    exact iteF (h2 h)
  · rw [decide_eq_false h]
    exact iteT (h1 h)
theorem r_yes {P : Prop} [Decidable P] {A B : Prop} (p : P) (h : A) : if decide P = true then A else B := r_ite (fun _ => h) fun q => absurd p q
theorem r_no {P : Prop} [Decidable P] {A B : Prop} (p : ¬ P) (h : B) : if decide P = true then A else B := r_ite (fun q => absurd q p) fun _ => h
theorem r_yesN {P : Prop} [Decidable P] {A B : Prop} (p : ¬ P) (h : A) : if (!decide P) = true then A else B := r_iteN (fun _ => h) fun q => absurd q p
theorem r_noN {P : Prop} [Decidable P] {A B : Prop} (p : P) (h : B) : if (!decide P) = true then A else B := r_iteN (fun q => absurd p q) fun _ => h
theorem r_nb {b : Bool} {A B : Prop} (h : if b = true then B else A) : if (!b) = true then A else B := by cases b <;> exact h
/-- xs[i] -/
theorem r_ixL {p : Addr} {xs : List V} (h : SqL K H p xs) (e : atI xs i = some v) (q : Q v H) : rIxL K (.ref p) (.int i) H Q := ⟨p, xs, i, v, rfl, rfl, h, e, q⟩
theorem r_ixI {p : Addr} {ns : List Int} (h : SqL K H p (ns.map V.int)) (h0 : 0 ≤ i) (h1 : i < ns.length) (q : Q (.int (gi ns i)) H) : rIxL K (.ref p) (.int i) H Q := r_ixL h (atI_gi h0 h1) q
theorem r_ixT {p : Addr} {xs : List V} (h : SqT K H p xs) (e : atI xs i = some v) (q : Q v H) : rIxT K (.ref p) (.int i) H Q := ⟨p, xs, i, v, rfl, rfl, h, e, q⟩
/-- xs[i] = v -/
theorem r_setL {p : Addr} {xs : List V} {Z : Hp → Prop} (h : H p = some (.lst xs)) (h0 : 0 ≤ i) (h1 : i < xs.length) (q : ∀ H2, ExB p H H2 → H2 p = some (.lst (xs.set i.toNat v)) → (∀ a, H a = none → H2 a = none) → Z H2) : rSetL (.ref p) (.int i) v H Z :=
  ⟨p, xs, i, i.toNat, rfl, rfl, h, by unfold ixN; rw [if_pos h0, if_pos h1], q _ (fun a o n e => by rw [upd_ne n]; exact e) upd_same fun a e => by rw [upd_ne (fun z => by rw [z, h] at e; cases e)]; exact e⟩
/-- xs.append(y) -/
theorem r_app {p : Addr} {xs : List V} (h : H p = some (.lst xs)) (l : xs.length < 100000) (q : ∀ H2, ExB p H H2 → H2 p = some (.lst (xs ++ [y])) → (∀ a, H a = none → H2 a = none) → Q .non H2) : rAppend (.ref p) [y] H Q :=
  ⟨p, xs, y, rfl, rfl, h, sz_lt l, q _ (fun a o n e => by rw [upd_ne n]; exact e) upd_same fun a e => by rw [upd_ne (fun z => by rw [z, h] at e; cases e)]; exact e⟩
theorem r_bmL {r : V → List V → Hp → VK → Prop} {p : Addr} {xs : List V} (h : SqL K H p xs) (q : tr σ H fun vs H2 => r (.ref p) vs H2 Q) (e : σ[n]? = some (some (.ref p))) : tBM K "list" r (tVar n) tr σ H Q := ⟨_, e, .inl ⟨rfl, _, h⟩, q⟩
theorem r_slL {p : Addr} {xs : List V} {lo hi : Option Int} (h : SqL K H p xs) (q : ∀ p2 H2, H p2 = none → Ex H H2 → H2 p2 = some (.lst (cutV xs lo hi)) → Q (.ref p2) H2) : rSlL K (.ref p) lo hi H Q := ⟨p, xs, rfl, h, fun p2 n => q p2 _ n (Ex.new n) upd_same⟩
theorem r_cat {p q : Addr} {xs ys : List V} (h : H p = some (.lst xs)) (h' : H q = some (.lst ys)) (l : xs.length + ys.length ≤ 100000) (k : ∀ p2 H2, H p2 = none → Ex H H2 → H2 p2 = some (.lst (xs ++ ys)) → Q (.ref p2) H2) : rCat (.ref p) (.ref q) H Q :=
  ⟨p, q, xs, ys, rfl, rfl, h, h', sz_of l, fun p2 n => k p2 _ n (Ex.new n) upd_same⟩
theorem r_list {p : Addr} {xs : List V} (h : SqL K H p xs) (k : ∀ p2 H2, H p2 = none → Ex H H2 → H2 p2 = some (.lst xs) → Q (.ref p2) H2) : rList K [.ref p] H Q := ⟨p, xs, rfl, .inl h, fun p2 n => k p2 _ n (Ex.new n) upd_same⟩
theorem r_len {p : Addr} {xs : List V} (h : SqL K H p xs) (q : Q (.int xs.length) H) : rLen K [.ref p] H Q := ⟨p, xs, rfl, .inl h, q⟩
theorem r_lenI {p : Addr} {ns : List Int} (h : SqL K H p (ns.map V.int)) (q : Q (.int ns.length) H) : rLen K [.ref p] H Q := r_len h (by rw [List.length_map]; exact q)
theorem r_int (q : Q (.int i) H) : rInt1 [.int i] H Q := .inl ⟨i, rfl, q⟩
theorem r_abs (q : Q (.int (if i < 0 then -i else i)) H) : rAbs [.int i] H Q := ⟨i, rfl, q⟩
theorem r_mx2 (q : Q (.int (if j > i then j else i)) H) : rMx2 [.int i, .int j] H Q := ⟨i, j, rfl, q⟩
theorem r_mn2 (q : Q (.int (if j < i then j else i)) H) : rMn2 [.int i, .int j] H Q := ⟨i, j, rfl, q⟩
theorem r_sum {p : Addr} {ns : List Int} (h : SqL K H p (ns.map V.int)) (q : Q (.int ns.sum) H) : rSum K [.ref p] H Q := ⟨p, ns, rfl, h, q⟩
theorem r_max {p : Addr} {ns : List Int} (h : SqL K H p (ns.map V.int)) (l : 0 < ns.length) (q : ∀ m, m ∈ ns → (∀ y, y ∈ ns → y ≤ m) → Q (.int m) H) : rMax K [.ref p] H Q := ⟨p, ns, rfl, h, l, q⟩
theorem r_eqD {x y : V} {d e : PyData} (hx : Dp K H x d) (hy : Dp K H y e) (s1 : SeqAt.shaped d = true) (s2 : SeqAt.shaped e = true) (q : Q (.bl (PyData.eqv d e)) H) : rEqD K x y H Q := ⟨d, e, hx, hy, s1, s2, q⟩
theorem r_neD {x y : V} {d e : PyData} (hx : Dp K H x d) (hy : Dp K H y e) (s1 : SeqAt.shaped d = true) (s2 : SeqAt.shaped e = true) (q : Q (.bl (!PyData.eqv d e)) H) : rNeD K x y H Q := ⟨d, e, hx, hy, s1, s2, q⟩
/-- isinstance of an int -/
theorem r_isiI {nm : String} {b : Bool} (h : PySem.W.kitOne K (.type "int") (.type nm) = some b) (q : Q (.bl b) H) : rIsi K [.int i, .ty nm] H Q := ⟨.int i, .ty nm, .type "int", .type nm, b, rfl, .ty nm, .base (.int i), h, q⟩
theorem r_isiL {nm : String} {b : Bool} {p : Addr} {xs : List V} (h : PySem.W.kitOne K (.type "list") (.type nm) = some b) (hp : H p = some (.lst xs)) (q : Q (.bl b) H) : rIsi K [.ref p, .ty nm] H Q := ⟨.ref p, .ty nm, .type "list", .type nm, b, rfl, .ty nm, .base (.lst hp), h, q⟩
end

/-! ### o[i] of a list, by values; o[i] op= e -/
section
variable {X : Cx}
theorem get_list : PGet X (rIxL X.K) := by
  intro pins s σ H ov iv xv yv Q I rx ry h
  obtain ⟨p, xs, i, z, rfl, rfl, hq, he, q⟩ := h
  cases rx
  obtain ⟨t, rfl⟩ := ry
  obtain ⟨its, r, pl, hz⟩ := I.list hq
  obtain ⟨j, h1, h2, h3, h4, h5⟩ := atI_get he
  obtain ⟨w, ew, rw'⟩ := r.get h2
  have hl := r.length
  have hn := line63
  have done : EP X pins σ Q w s := ⟨z, H, I, rw', q⟩
  by_cases h0 : 0 ≤ i
  · have hj : i.toNat = j := Option.some.inj ((seqIndex_of h0 h5).symm.trans h1)
    exact wpAny_getItem_list pl.isList h0 (by omega) (by rw [hj]; simpa using ew) done
  · have hj : (i + (its.toArray.size : Int)).toNat = j := by
      rw [List.size_toArray, ← hl]
      exact Option.some.inj ((seqIndex_neg (by omega) h4).symm.trans h1)
    exact wpAny_getItem_list_neg pl.isList (by omega) (by rw [List.size_toArray] <;> omega) (by omega) (by rw [hj]; simpa using ew) done
end
section
variable {K : PySem.W.Frag} {σ : L2.St} {H : Hp} {D : Ends} {to ti te : TE} {tg : V → V → Hp → VK → Prop} {tp : TIp} {ts : TSet}
theorem r_augS (h : to σ H fun o H1 => ti σ H1 fun i H2 => tg o i H2 fun x H3 => te σ H3 fun y H4 => tp x y H4 fun z H5 => ts o i z H5 fun H6 => D.nx σ H6) : tAugS to ti te tg tp ts D σ H := h
end

/-! ### several except clauses, each with a name -/
/-- behind a clause its name's slot is empty -/
def finA (i : Nat) (D : Ends) : Ends := ⟨fun s h => D.nx (s.set i none) h, D.rt, fun s h => D.bk (s.set i none) h, fun s h => D.ct (s.set i none) h⟩
abbrev ClA := Value × Nat × (Addr → Value → Option Addr → TS)
def wManyA (K : PySem.W.Frag) (W0 : WX) (D : Ends) : List ClA → WX
  | [] => W0
  | (c, i, ts) :: l => fun cls d σ H => ∃ b, PySem.W.exmOne K cls c = some b ∧ (b = true → ∀ a, H a = none → ts a cls d (finA i D) (σ.set i (some (.ref a))) H) ∧ (b = false → wManyA K W0 D l cls d σ H)
inductive HdsA (X : Cx) : List ExceptHandler → List ClA → Prop
  | nil : HdsA X [] []
  | cons {x n : Str} {c : Value} {i : Nat} {ts : Addr → Value → Option Addr → TS} {b0 : Stmt} {suite : List Stmt} {np ps : Pos} {hds : List ExceptHandler} {l : List ClA} (hc : Names X x c) (hi : X.N[i]? = some n) (hln : X.env.kindOf n = some .local)
      (hsu : ∀ (a : Addr) (oe : Obj) (cls : Value) (d : Option Addr) (pn : List (Addr × Obj)), Zc cls d oe → (∃ vs, oe.data = .fields vs) → PSs (X.suite a ((a, oe) :: pn)) (b0 :: suite) (ts a cls d)) (r : HdsA X hds l) :
      HdsA X (.ExceptHandler (some (.Name x np)) (some n) (b0 :: suite) ps :: hds) ((c, i, ts) :: l)
section
variable {X : Cx} {body : List Stmt} {h0 : ExceptHandler} {hds : List ExceptHandler} {l : List ClA} {pos : Pos} {tb : WX → TS} {W0 : WX}
theorem ps_tryA (hs : X.stack = X.env :: X.outer) (hf : X.env.frame = some X.env.locals) (hN : X.N.Nodup) (tk : Takes X W0)
    (hb : ∀ (W : WX) (pn : List (Addr × Obj)) (xe : Value → Shared → Prop), Takes (X.tr pn xe) W → PassesOwn (model X.prog X.w) X.A X.env xe → PSs (X.tr pn xe) body (tb W))
    (hh : HdsA X (h0 :: hds) l) : PS X (.Try body (h0 :: hds) [] [] pos) (fun D σ H => tb (wManyA X.K W0 D l) D σ H) := by
  refine ⟨fun pins s σ H D I hyp => ?_⟩
  have ok := I.ok
  have hfr : X.A.frames = some (X.env :: X.outer) := by rw [ok.frames, hs]
  refine wpAny_Try_except ?_
  refine wpAny_mono ((hb (wManyA X.K W0 D l) (X.pn ++ pins) (fun e z1 => wpAny (model X.prog X.w) X.A (noteFrame e X.env) (fun _ z2 => wpAny (model X.prog X.w) X.A (setFlight e none) (fun _ z3 =>
    wpAny (model X.prog X.w) X.A (handleBy e X.env (h0 :: hds)) (SP X pins D) X.xe z3) X.xe z2) X.xe z1) (fun u s' xx => ?_) PassesOwn.looking).run [] s σ H D (I.toTry _) hyp) (fun f s1 hsp => ?_) (fun _ _ z => z)
  · obtain ⟨a, B, sI, pins', σ', H', cls, d, rfl, Jt, nb, up, sky, na, os, ag, w⟩ := xx
    have J : Inv X pins σ' H' sI := Jt.ofTry ok
    have sk2 : Sky B (X.env :: X.outer) a (Zc cls d) X.env.locals s'.heap := by rw [← hs]; exact sky
    show wpAny (model X.prog X.w) X.A (noteFrame (.ref a) X.env) _ _ _
    refine Sky.land Zc.steady hfr hf sk2 fun h3 fl3 up3 => ?_
    have J3 : Inv X pins σ' H' { s' with heap := h3 } := J.landed nb fl3.1 (up.trans up3) os ag
    obtain ⟨oe3, vs3, he3, hz3, hd3⟩ := fl3.there
    have nfr : a ∉ frs (X.env :: X.outer) := fun hm => by
      obtain ⟨_, o', e', hnf⟩ := fl3.2.2.1.mem hm
      rw [he3] at e'
      cases e'
      exact hnf _ hd3
    have nL : a ≠ X.env.locals := fun z => nfr (List.mem_filterMap.mpr ⟨X.env, List.mem_cons_self, by rw [hf, z]⟩)
    have nF : a ∉ X.fs := fun hm => by
      obtain ⟨e, he, q⟩ := List.mem_filterMap.mp hm
      exact nfr (List.mem_filterMap.mpr ⟨e, List.mem_cons_of_mem _ he, q⟩)
    have S3 := J3.suite he3 hd3 na nL nF
    have go : ∀ {hd' : List ExceptHandler} {l' : List ClA}, HdsA X hd' l' → wManyA X.K W0 D l' cls d σ' H' →
        wpAny (model X.prog X.w) X.A (handleBy (.ref a) X.env hd') (SP X pins D) X.xe { s' with heap := h3 } := by
      intro hd' l' hk
      induction hk with
      | nil =>
        intro w
        refine wpAny_handleBy_nil ?_
        obtain ⟨_, _, _, oe, vs, T, oT, _, he, hz, hd, h1, hr⟩ := id fl3
        unfold PySem.passOn
        refine wpAny_bind (wpAny_field he hd h1 ?_)
        rw [if_neg (show ¬ ((Value.ref T == Value.none) = true) by simp)]
        have outw : wpAny (model X.prog X.w) X.A (setFlight (.ref a) X.env.frame) (fun _ s4 => wpAny (model X.prog X.w) X.A (throw (.ref a) : Sem Flow) (SP X pins D) X.xe s4) X.xe { s' with heap := h3 } := by
          rw [hf]
          refine HandSPX.setFlight_upZ fl3 fun h4 hh4 up4 => wpAny_throw (tk _ _ ?_)
          exact ⟨a, B, sI, pins, σ', H', cls, d, rfl, J, nb, (up.trans up3).trans up4, .inr (.inr (by rw [hs]; exact hh4)), na, os, ag, w⟩
        first
          | exact wpAny_bind (wpAny_pure (wpAny_bind outw))
          | exact wpAny_bind outw
      | @cons x n c i ts b0 suite np ps hd2 l2 hc hi hln hsu r ih =>
        intro w
        obtain ⟨b, hb1, hyes, hno⟩ := w
        refine wpAny_handleBy_cons (codeAny_handlers_test ?_) (by intro q; cases q)
        have LT : PySem.W.Looks (model X.prog X.w) h3 (typeOf (.ref a)) cls := fun A Q E s k q => wpAny_typeOf_ref (k _ _ he3) (by rw [hz3.1]; exact q)
        have LM := PySem.W.exm_one (M := model X.prog X.w) (J3.kIn) LT hb1
        have tst : ∀ {Q : Value → Shared → Prop} {E : Value → Shared → Prop}, Q c { s' with heap := h3 } → wpAny (model X.prog X.w) (X.A.mark (some (.ref a))) (eval (.Name x np) X.env) Q E { s' with heap := h3 } := fun {Q E} q => by
          obtain ⟨hg, hdbg, hm | ⟨hm, hv, hnn⟩⟩ := hc
          · exact ld_glob (X := X.suite a ((a, oe3) :: (X.pn ++ pins))) S3 hg hm q hdbg
          · exact ld_blt (X := X.suite a ((a, oe3) :: (X.pn ++ pins))) S3 hg hm hv q hnn hdbg
        refine tst (LM.here ?_)
        cases b with
        | false =>
          show wpAny _ X.A (handleBy (.ref a) X.env hd2) _ _ _
          exact ih (hno rfl)
        | true =>
          refine codeAny_handlers_suite_as ?_
          refine HandSPX.lands_againZ fl3 fun h4 fl4 up4 => ?_
          have J4 : Inv X pins σ' H' { s' with heap := h4 } := J.landed nb fl4.1 ((up.trans up3).trans up4) os ag
          obtain ⟨oe4, vs4, he4, hz4, hd4⟩ := fl4.there
          have S4 := J4.suite he4 hd4 na nL nF
          refine store_ok (X := X.suite a ((a, oe4) :: (X.pn ++ pins))) (v := .ref a) S4 hN hi (.inl hln) rfl (fun s5 S5 => ?_) (.inr hln)
          refine wpAny_mono ((hsu a oe4 cls d (X.pn ++ pins) hz4 ⟨_, hd4⟩).run [] s5 _ H' _ S5 (hyes rfl a na)) (fun f s6 hsp => ?_) (fun _ _ z => False.elim z)
          have fin_ : ∀ {σ6 : L2.St} {H6 : Hp} {Q : Shared → Prop}, Inv (X.suite a ((a, oe4) :: (X.pn ++ pins))) [] σ6 H6 s6 → (∀ s7, Inv X pins (σ6.set i none) H6 s7 → Q s7) →
              wpAny (model X.prog X.w) X.A (do bindName X.env n .none; unbindBehindTheSuite X.env n ps) (fun _ s7 => Q s7) X.xe s6 := fun {σ6 H6 Q} S6 hq => gone_ok (S6.unsuite ok) hN hi hln hq
          cases f with
          | next =>
            obtain ⟨σ6, H6, S6, q6⟩ := hsp
            exact fin_ S6 fun s7 J7 => ⟨_, _, J7, q6⟩
          | brk =>
            obtain ⟨σ6, H6, S6, q6⟩ := hsp
            exact fin_ S6 fun s7 J7 => ⟨_, _, J7, q6⟩
          | cont =>
            obtain ⟨σ6, H6, S6, q6⟩ := hsp
            exact fin_ S6 fun s7 J7 => ⟨_, _, J7, q6⟩
          | ret u =>
            obtain ⟨v6, σ6, H6, S6, r6, q6⟩ := hsp
            exact fin_ S6 fun s7 J7 => ⟨_, _, _, J7, r6, q6⟩
    exact go hh w
  · cases f with
    | next =>
      obtain ⟨σ', H', Jt, q⟩ := hsp
      exact wpAny_execs_nil ⟨σ', H', Jt.ofTry ok, q⟩
    | brk =>
      obtain ⟨σ', H', Jt, q⟩ := hsp
      exact ⟨σ', H', Jt.ofTry ok, q⟩
    | cont =>
      obtain ⟨σ', H', Jt, q⟩ := hsp
      exact ⟨σ', H', Jt.ofTry ok, q⟩
    | ret u =>
      obtain ⟨v, σ', H', Jt, r, q⟩ := hsp
      exact ⟨v, σ', H', Jt.ofTry ok, r, q⟩
end

/-! ### own exception classes with one field -/
theorem app_len (a b : Str) : (a ++ b).length = a.length + b.length := by
  show (a.cps ++ b.cps).size = _
  rw [Array.size_append]
  rfl
section
variable {σ : L2.St} {H : Hp} {ts : List TE} {te : TE} {acc s : Str} {R : Str → Hp → Prop} {i : Int}
theorem js_nil (h : R acc H) : tJs [] acc σ H R := h
theorem js_c {n : Nat} (ha : acc.length ≤ n) (hs : n + s.length ≤ 100000) (h : ∀ acc' : Str, acc'.length ≤ n + s.length → tJs ts acc' σ H R) : tJs (tC (.str s) :: ts) acc σ H R :=
  ⟨s, rfl, sz_of (by rw [app_len]; omega), h _ (by rw [app_len]; omega)⟩
theorem js_i {n : Nat} (ha : acc.length ≤ n) (hs : n ≤ 50000) (hv : i.natAbs.log2 < 1920) (hte : ∀ Q : VK, Q (.int i) H → te σ H Q) (h : ∀ acc' : Str, acc'.length ≤ n + 1921 → tJs ts acc' σ H R) : tJs (tFmt te :: ts) acc σ H R := by
  have hl : (Str.ofString (toString i)).length ≤ 1921 := by
    have e := PySem.int_text_length_le (k := 1920) (by decide) hv
    rw [PySem.ofString_length]
    omega
  exact hte _ (.inr ⟨i, rfl, hv, _, rfl, sz_of (by rw [app_len]; omega), h _ (by rw [app_len]; omega)⟩)
theorem js_s {n : Nat} (ha : acc.length ≤ n) (hs : n + s.length ≤ 100000) (hte : ∀ Q : VK, Q (.str s) H → te σ H Q) (h : ∀ acc' : Str, acc'.length ≤ n + s.length → tJs ts acc' σ H R) : tJs (tFmt te :: ts) acc σ H R :=
  hte _ (.inl ⟨s, rfl, sz_of (by omega), s, rfl, sz_of (by rw [app_len]; omega), h _ (by rw [app_len]; omega)⟩)
end
/-- what may be told in an error's text -/
def tellV : V → Prop
  | .int i => i.natAbs.log2 < 1920
  | .str s => s.length ≤ 1000
  | _ => False
/-- __init__(self, f): self.f = f -/
def spExc (K : PySem.W.Frag) (C : Addr) (f : Str) : Sp := fun vs H Q _ => ∃ (a : Addr) (v : V), vs = [.ref a, v] ∧ tellV v ∧ H a = some (exo a C none) ∧
  ∀ dx, H dx = none → dx ≠ a → Q .non (upd (upd H dx (exd dx [(f, v)])) a (exo a C (some dx)))
structure Exn (P : Program) (w : World) (K : PySem.W.Frag) (mg : Str → Option Value) (base : Heap) (x f : Str) (C : Addr) : Prop where
  o : OexC K C
  g : mg x = some (.ref C)
  init : ∃ (fI : Addr) (fd : FuncData), PySem.W.findIn K (.ref C) "__init__" = some (some (.ref fI)) ∧ PySem.W.typeIn K (.ref fI) = some (.type "function") ∧ FnOk P w K mg base (L2.CX P w) 1 fI fd ["self", f] (spExc K C f) ∧ Binds K fd ["self", f] []
  xf : XfC K C
  no : PySem.W.findIn K (.ref C) f = some none
  te : PySem.W.exmOne K (.ref C) (.ref C) = some true
def tRaiseE (C : Addr) (f : Str) (W : WX) (te : TE) : TS := fun _ σ H => te σ H fun v H1 => tellV v ∧ ∀ d H2, Ex H1 H2 → H2 d = some (.xd [(f, v)]) → W (.ref C) (some d) σ H2
section
variable {X : Cx} {x f : Str} {C : Addr} {W : WX} {e : Expr} {te : TE} {p pos pos2 : Pos}
theorem pe_cl (h : PE X e te) : PE X e (fun σ H Q => ∃ P1 : VK, te σ H P1 ∧ ∀ v H1, P1 v H1 → Q v H1) :=
  ⟨fun pins s σ H Q I ⟨P1, hp, pq⟩ => thn (h.run pins s σ H P1 I hp) fun u s1 ⟨v, H1, I1, r, q⟩ => ⟨v, H1, I1, r, pq v H1 q⟩⟩
theorem ps_raiseE (T : Exn X.prog X.w X.K X.mg X.base x f C) (hc : X.calm = true) (hr : Room 2 X.A) (tk : Takes X W) (he : PE X e te) (hg : Gl X x := by rfl) (hdb : (x == ("__debug__" : Str)) = false := by decide)
    (hs : starEach (e :: []) X.env = (false, eval e X.env) :: starEach [] X.env := by rfl) (hpl : (backTo pos (starEach [] X.env)).any (·.1) = false := by rfl) :
    PS X (.Raise (some (.Call (.Name x p) [e] [] pos)) none pos2) (tRaiseE C f W te) := by
  obtain ⟨fI, fd, iC, tI, F, b⟩ := T.init
  have hx : Passes (L2.CX X.prog X.w) X (fun _ _ _ => False) := passL
  have m := pmk_oex (pos := pos) (p := p) T.o iC tI F (hr.mono (Nat.le_refl _)) b .nil hx hg T.g (pa_cons (pe_cl he) pa_nil hs) hdb hs hpl
  have r := ps_raise (pos := pos2) hc tk m
  refine ⟨fun pins s σ H D I h => r.run pins s σ H D I ?_⟩
  show ∃ P1 : VK, te σ H P1 ∧ _
  have key : ∀ v H1, (tellV v ∧ ∀ d H2, Ex H1 H2 → H2 d = some (.xd [(f, v)]) → W (.ref C) (some d) σ H2) →
      ([v] : List V).length ≤ 1000 ∧ ∀ a, H1 a = none → spExc X.K C f (.ref a :: ([v] ++ [])) (upd H1 a (exo a C none))
        (fun u H2 => u = .non ∧ ∃ (d : Addr) (fs : List (Str × V)), H2 a = some (exo a C (some d)) ∧ H2 d = some (exd d fs) ∧ H1 d = none ∧ W (.ref C) (some d) σ (upd (del H2 a) d (.xd fs))) (fun _ _ _ => False) := by
    intro v H1 q
    refine ⟨by show 1 ≤ 1000; decide, fun a ha => ⟨a, v, rfl, q.1, upd_same, fun dx hdx hne => ⟨rfl, dx, [(f, v)], upd_same, ?_, ?_, ?_⟩⟩⟩
    · rw [upd_ne hne, upd_same]
    · rw [upd_ne hne] at hdx
      exact hdx
    · have hd1 : H1 dx = none := by
        rw [upd_ne hne] at hdx
        exact hdx
      refine q.2 dx _ (fun b o hb => ?_) upd_same
      have n1 : b ≠ dx := ne_of_none hb hd1
      have n2 : b ≠ a := ne_of_none hb ha
      rw [upd_ne n1, del_ne n2, upd_ne n2, upd_ne n1, upd_ne n2]
      exact hb
  exact ⟨_, h, fun v H1 q => key v H1 q⟩
end
section
variable {K : PySem.W.Frag} {H : Hp} {Q : VK} {i : Int}
theorem r_isII (q : Q (.bl true) H) : rIsi K [.int i, .ty "int"] H Q := r_isiI (kit_ty (by decide +kernel)) q
theorem r_isIB (q : Q (.bl false) H) : rIsi K [.int i, .ty "bool"] H Q := r_isiI (kit_ty (by decide +kernel)) q
theorem r_isLL {p : Addr} {xs : List V} (hp : H p = some (.lst xs)) (q : Q (.bl true) H) : rIsi K [.ref p, .ty "list"] H Q := r_isiL (kit_ty (by decide +kernel)) hp q
end

/-! ### loops -/
def ForW (g : TG) (tb : TS) (D : Ends) (σ : L2.St) (J : It) (H1 : Hp) : Prop := ∃ W : Nat → Nat → L2.St → Hp → Prop, (∃ m, W 0 m σ H1) ∧ ∀ i m σ H, W i m σ H →
  (J.stop i H ∧ D.nx σ H) ∨ (J.go i H ∧ ∃ N : L2.St → Hp → Prop, (∀ σ' H', N σ' H' → ∃ m', m' < m ∧ W (i + 1) m' σ' H') ∧ ∀ x H', J.yld i H x H' → g x σ H' fun σ2 H2 => tb { D with nx := N, ct := N, bk := D.nx } σ2 H2)
def ItL (K : PySem.W.Frag) (x : V) (H : Hp) (R : It → Hp → Prop) : Prop := ∃ a, x = .ref a ∧ (∃ xs, SqL K H a xs) ∧ R (Itl K a) H
def ItT (K : PySem.W.Frag) (x : V) (H : Hp) (R : It → Hp → Prop) : Prop := ∃ a, x = .ref a ∧ (∃ xs, SqT K H a xs) ∧ R (Itt K a) H
def ItR1 (vs : List V) (H : Hp) (R : It → Hp → Prop) : Prop := ∃ j : Int, vs = [.int j] ∧ -(2 ^ 62) ≤ j ∧ j < 2 ^ 62 ∧ R (Itr 0 j.toNat) H
def ItR2 (vs : List V) (H : Hp) (R : It → Hp → Prop) : Prop := ∃ i j : Int, vs = [.int i, .int j] ∧ (-(2 ^ 62) ≤ i ∧ i < 2 ^ 62 ∧ -(2 ^ 62) ≤ j ∧ j < 2 ^ 62) ∧ R (Itr i (j - i).toNat) H
def ItE (K : PySem.W.Frag) (vs : List V) (H : Hp) (R : It → Hp → Prop) : Prop := ∃ a xs, vs = [.ref a] ∧ SqL K H a xs ∧ R (Ite K a) H
def LcW (g : TG) (tt : TT) (te : TE) (vs : List Nat) (σ : L2.St) (Q : VK) (J : It) (H1 : Hp) : Prop := ∀ D, H1 D = none → ∃ W : Nat → Nat → Hp → Prop, (∃ m, W 0 m (upd H1 D (.lst []))) ∧ ∀ i m H, W i m H →
  (J.stop i H ∧ Q (.ref D) H) ∨ (J.go i H ∧ ∃ Nx : Hp → Prop, (∀ H', Nx H' → ∃ m', m' < m ∧ W (i + 1) m' H') ∧ ∀ x H', J.yld i H x H' → g x (wipe σ vs) H' fun σ2 H2 => wipe σ2 vs = wipe σ vs ∧ tt σ2 H2 fun b H3 =>
    if b = true then te σ2 H3 fun y H4 => ∃ acc, H4 D = some (.lst acc) ∧ acc.length < sizeLine ∧ Nx (upd H4 D (.lst (acc ++ [y]))) else Nx H3)
def AppW (p : Addr) (N : Hp → Prop) (y : V) (H4 : Hp) : Prop := ∃ acc, H4 p = some (.lst acc) ∧ acc.length < sizeLine ∧ N (upd H4 p (.lst (acc ++ [y])))
def WhB (tb : TS) (D : Ends) (W : Nat → L2.St → Hp → Prop) (m : Nat) (σ : L2.St) (b : Bool) (H1 : Hp) : Prop :=
  if b = true then ∃ N : L2.St → Hp → Prop, (∀ σ' H', N σ' H' → ∃ m', m' < m ∧ W m' σ' H') ∧ tb { D with nx := N, ct := N, bk := D.nx } σ H1 else D.nx σ H1
section
variable {K : PySem.W.Frag} {σ : L2.St} {H : Hp} {D : Ends} {tb : TS} {te : TE} {ta : TA} {g : TG} {wi : TI} {tt c : TT} {Q : VK} {R : It → Hp → Prop} {a : Addr} {xs : List V} {ns : List Int} {m m1 m2 : Nat} {vs : List Nat} {i j : Int}
theorem r_for (h : wi σ H (ForW g tb D σ)) : tFor wi g tb D σ H := h
theorem r_lc (h : wi σ H (LcW g tt te vs σ Q)) : tLc wi g tt te vs σ H Q := h
theorem r_iList (h : te σ H fun x H1 => ItL K x H1 R) : iList K te σ H R := h
theorem r_iTup (h : te σ H fun x H1 => ItT K x H1 R) : iTup K te σ H R := h
theorem r_iRng1 (h : ta σ H fun x H1 => ItR1 x H1 R) : iRng1 ta σ H R := h
theorem r_iRng2 (h : ta σ H fun x H1 => ItR2 x H1 R) : iRng2 ta σ H R := h
theorem r_iEnum (h : ta σ H fun x H1 => ItE K x H1 R) : iEnum K ta σ H R := h
theorem forL (hx : SqL K H a xs) (Pv : Nat → L2.St → Hp → Prop) (h0 : Pv 0 σ H) (hl : ∀ i s h, i ≤ xs.length → Pv i s h → SqL K h a xs)
    (hs : ∀ i x s h, xs[i]? = some x → Pv i s h → g x s h fun s2 h2 => tb ⟨Pv (i + 1), D.rt, D.nx, Pv (i + 1)⟩ s2 h2) (hd : ∀ s h, Pv xs.length s h → D.nx s h) : ItL K (.ref a) H (ForW g tb D σ) :=
  ⟨a, rfl, ⟨xs, hx⟩, for_list (K := K) (a := a) (xs := xs) Pv h0 hl hs hd⟩
theorem forI (hx : SqL K H a (ns.map V.int)) (Pv : Nat → L2.St → Hp → Prop) (h0 : Pv 0 σ H) (hl : ∀ i s h, i ≤ ns.length → Pv i s h → SqL K h a (ns.map V.int))
    (hs : ∀ i z s h, ns[i]? = some z → Pv i s h → tb ⟨Pv (i + 1), D.rt, D.nx, Pv (i + 1)⟩ (s.set m (some (.int z))) h) (hd : ∀ s h, Pv ns.length s h → D.nx s h) : ItL K (.ref a) H (ForW (gName m) tb D σ) := by
  refine forL hx Pv h0 (fun i s h hi p => hl i s h (by rw [List.length_map] at hi; exact hi) p) (fun i x s h hi p => ?_) (fun s h p => hd s h (by rw [List.length_map] at p; exact p))
  rw [List.getElem?_map] at hi
  cases e : ns[i]? with
  | none =>
    rw [e] at hi
    cases hi
  | some z =>
    rw [e] at hi
    cases hi
    exact hs i z s h e p
theorem forR1 (h1 : -1000000000 ≤ j) (h2 : j ≤ 1000000000) (Pv : Nat → L2.St → Hp → Prop) (h0 : Pv 0 σ H)
    (hs : ∀ (i : Nat) s h, (i : Int) < j → Pv i s h → tb ⟨Pv (i + 1), D.rt, D.nx, Pv (i + 1)⟩ (s.set m (some (.int i))) h) (hd : ∀ s h, Pv j.toNat s h → D.nx s h) : ItR1 [.int j] H (ForW (gName m) tb D σ) := by
  refine ⟨j, rfl, by omega, by omega, for_range (lo := 0) (n := j.toNat) Pv h0 (fun i s h hi p => ?_) hd⟩
  have e : (0 : Int) + (i : Int) = (i : Int) := Int.zero_add _
  show tb _ (s.set m (some (.int ((0 : Int) + (i : Int))))) h
  rw [e]
  exact hs i s h (by omega) p
theorem forR2 (h1 : -1000000000 ≤ i ∧ i ≤ 1000000000) (h2 : -1000000000 ≤ j ∧ j ≤ 1000000000) (Pv : Nat → L2.St → Hp → Prop) (h0 : Pv 0 σ H)
    (hs : ∀ (k : Nat) s h, i + (k : Int) < j → Pv k s h → tb ⟨Pv (k + 1), D.rt, D.nx, Pv (k + 1)⟩ (s.set m (some (.int (i + k)))) h) (hd : ∀ s h, Pv (j - i).toNat s h → D.nx s h) : ItR2 [.int i, .int j] H (ForW (gName m) tb D σ) :=
  ⟨i, j, rfl, ⟨by omega, by omega, by omega, by omega⟩, for_range (lo := i) (n := (j - i).toNat) Pv h0 (fun k s h hk p => hs k s h (by omega) p) hd⟩
theorem forE (hx : SqL K H a xs) (Pv : Nat → L2.St → Hp → Prop) (h0 : Pv 0 σ H) (hl : ∀ i s h, i ≤ xs.length → Pv i s h → SqL K h a xs)
    (hs : ∀ (i : Nat) x s h h2, xs[i]? = some x → Pv i s h → Ex h h2 → tb ⟨Pv (i + 1), D.rt, D.nx, Pv (i + 1)⟩ ((s.set m1 (some (.int i))).set m2 (some x)) h2) (hd : ∀ s h, Pv xs.length s h → D.nx s h) :
    ItE K [.ref a] H (ForW (gTup K 2 (gCons (gName m1) (gCons (gName m2) gNil))) tb D σ) := by
  refine ⟨a, xs, rfl, hx, fun i m s h => m = xs.length - i ∧ i ≤ xs.length ∧ Pv i s h, ⟨xs.length, by simp, Nat.zero_le _, h0⟩, ?_⟩
  rintro i m s h ⟨rfl, hi, p⟩
  have q := hl i s h hi p
  by_cases hlt : i < xs.length
  · refine .inr ⟨⟨xs, xs[i], q, by simp [hlt]⟩, Pv (i + 1), fun s' h' p' => ⟨xs.length - (i + 1), by omega, rfl, hlt, p'⟩, fun x h' y => ?_⟩
    obtain ⟨T, z, rfl, hT, rfl, hz⟩ := y
    exact ⟨T, _, rfl, .inl (.inl upd_same), rfl, _, _, rfl, _, _, rfl, rfl, hs i z s h _ (hz xs q) p (Ex.new hT)⟩
  · have e : i = xs.length := by omega
    subst e
    exact .inl ⟨⟨xs, q, Nat.le_refl _⟩, hd s h p⟩
theorem r_while (W : Nat → L2.St → Hp → Prop) (m0 : Nat) (h0 : W m0 σ H) (hs : ∀ m s h, W m s h → c s h (WhB tb D W m s)) : tWhile c tb D σ H := ⟨W, ⟨m0, h0⟩, fun m s h w => hs m s h w⟩
theorem whB {W : Nat → L2.St → Hp → Prop} {p : Prop} [Decidable p] (h1 : p → tb ⟨fun s h => ∃ m', m' < m ∧ W m' s h, D.rt, D.nx, fun s h => ∃ m', m' < m ∧ W m' s h⟩ σ H) (h2 : ¬ p → D.nx σ H) : WhB tb D W m σ (decide p) H := by
  by_cases hp : p
  · unfold WhB
    rw [if_pos (decide_eq_true hp)]
    exact ⟨_, fun _ _ z => z, h1 hp⟩
  · unfold WhB
    rw [decide_eq_false hp]
    exact iteF (h2 hp)
theorem whB_no {W : Nat → L2.St → Hp → Prop} (h : D.nx σ H) : WhB tb D W m σ false H := iteF h
theorem appW {p : Addr} {N : Hp → Prop} {y : V} {acc : List V} (h : H p = some (.lst acc)) (l : acc.length < 100000) (k : ∀ H5, ExB p H H5 → H5 p = some (.lst (acc ++ [y])) → N H5) : AppW p N y H :=
  ⟨acc, h, sz_lt l, k _ (fun a o n e => by rw [upd_ne n]; exact e) upd_same⟩
theorem yesL {K1 : VK} {B : Hp → Prop} (h : te σ H K1) : tYes σ H fun b H3 => if b = true then te σ H3 K1 else B H3 := by
  show if true = true then te σ H K1 else B H
  exact iteT h
theorem lcR1 (h1 : -1000000000 ≤ j) (h2 : j ≤ 1000000000) (Pv : Addr → Nat → Hp → Prop) (h0 : ∀ p h, H p = none → Ex H h → h p = some (.lst []) → Pv p 0 h)
    (hs : ∀ p (i : Nat) h, (i : Int) < j → Pv p i h → te ((wipe σ vs).set m (some (.int i))) h (AppW p (Pv p (i + 1)))) (hd : ∀ p h, Pv p j.toNat h → Q (.ref p) h)
    (hw : ∀ x, wipe ((wipe σ vs).set m (some x)) vs = wipe σ vs) : ItR1 [.int j] H (LcW (gName m) tYes te vs σ Q) := by
  refine ⟨j, rfl, by omega, by omega, fun p hp => lc_range (lo := 0) (n := j.toNat) (Pv p) (h0 p _ hp (Ex.new hp) upd_same) (fun i h hi q => ?_) (hd p)⟩
  have e : (0 : Int) + (i : Int) = (i : Int) := Int.zero_add _
  rw [e]
  exact ⟨hw _, yesL (hs p i h (by omega) q)⟩
theorem lcL (hx : SqL K H a xs) (Pv : Addr → Nat → Hp → Prop) (h0 : ∀ p h, H p = none → Ex H h → h p = some (.lst []) → Pv p 0 h) (hl : ∀ p i h, i ≤ xs.length → Pv p i h → SqL K h a xs)
    (hs : ∀ p (i : Nat) x h, xs[i]? = some x → Pv p i h → te ((wipe σ vs).set m (some x)) h (AppW p (Pv p (i + 1)))) (hd : ∀ p h, Pv p xs.length h → Q (.ref p) h)
    (hw : ∀ x, wipe ((wipe σ vs).set m (some x)) vs = wipe σ vs) : ItL K (.ref a) H (LcW (gName m) tYes te vs σ Q) :=
  ⟨a, rfl, ⟨xs, hx⟩, fun p hp => lc_list (K := K) (a := a) (xs := xs) (Pv p) (h0 p _ hp (Ex.new hp) upd_same) (fun i h hi q => hl p i h hi q) (fun i x h hi q => ⟨hw x, yesL (hs p i x h hi q)⟩) (hd p)⟩
theorem lcI (hx : SqL K H a (ns.map V.int)) (Pv : Addr → Nat → Hp → Prop) (h0 : ∀ p h, H p = none → Ex H h → h p = some (.lst []) → Pv p 0 h) (hl : ∀ p i h, i ≤ ns.length → Pv p i h → SqL K h a (ns.map V.int))
    (hs : ∀ p (i : Nat) z h, ns[i]? = some z → Pv p i h → te ((wipe σ vs).set m (some (.int z))) h (AppW p (Pv p (i + 1)))) (hd : ∀ p h, Pv p ns.length h → Q (.ref p) h)
    (hw : ∀ x, wipe ((wipe σ vs).set m (some x)) vs = wipe σ vs) : ItL K (.ref a) H (LcW (gName m) tYes te vs σ Q) := by
  refine lcL hx Pv h0 (fun p i h hi q => hl p i h (by rw [List.length_map] at hi; exact hi) q) (fun p i x h hi q => ?_) (fun p h q => hd p h (by rw [List.length_map] at q; exact q)) hw
  rw [List.getElem?_map] at hi
  cases e : ns[i]? with
  | none =>
    rw [e] at hi
    cases hi
  | some z =>
    rw [e] at hi
    cases hi
    exact hs p i z h e q
theorem r_raise {C : Addr} {f : Str} {W : WX} (h : te σ H fun v H1 => tellV v ∧ ∀ d H2, Ex H1 H2 → H2 d = some (.xd [(f, v)]) → W (.ref C) (some d) σ H2) : tRaiseE C f W te D σ H := h
end
/-- lists of ints, deep -/
theorem dp_int {K : PySem.W.Frag} {H : Hp} {i : Int} : Dp K H (.int i) (.int i) := .int i
section
variable {K : PySem.W.Frag} {σ : L2.St} {H : Hp} {ts : List TE} {acc : Str} {R : Str → Hp → Prop} {v : V} {n k : Nat} {D : Ends} {a C : Addr} {f : Str}
theorem js_v (tv : tellV v) (e1 : σ[n]? = some (some v)) (ha : acc.length ≤ k) (hk : k ≤ 50000) (h : ∀ acc' : Str, acc'.length ≤ k + 1921 → tJs ts acc' σ H R) : tJs (tFmt (tVar n) :: ts) acc σ H R := by
  cases v with
  | int i => exact js_i ha hk tv (fun Q q => ⟨_, e1, q⟩) h
  | str s =>
    have hs : s.length ≤ 1000 := tv
    exact js_s (n := k) ha (by omega) (fun Q q => ⟨_, e1, q⟩) fun acc' l => h acc' (by omega)
  | non => exact tv.elim
  | bl b => exact tv.elim
  | byt b => exact tv.elim
  | flt b => exact tv.elim
  | ref b => exact tv.elim
  | ty b => exact tv.elim
theorem exc_body {parts : List TE} (js : ∀ R : Str → Hp → Prop, (∀ s, R s H) → tJs parts Str.empty σ H R) (e0 : σ[0]? = some (some (.ref a))) (e1 : σ[1]? = some (some v)) (o : OexC K C) (no : PySem.W.findIn K (.ref C) f = some none)
    (ha : H a = some (exo a C none)) (q : ∀ dx, H dx = none → dx ≠ a → D.nx σ (upd (upd H dx (exd dx [(f, v)])) a (exo a C (some dx)))) :
    tSeq (tDrop (tVeI K (tCons (tVar 0) (tCons (fun σ H Q => tJs parts Str.empty σ H fun out H1 => Q (.str out) H1) tNil)))) (tOst K f (tVar 0) (tVar 1)) D σ H := by
  refine ⟨_, e0, ?_⟩
  refine js _ fun s => ?_
  exact ⟨a, C, [.str s], rfl, by show 1 ≤ 1000; decide, o, ha, _, e1, _, e0, a, C, rfl, o, no, .inl ⟨ha, q⟩⟩
end
/-! ### comparing lists of ints -/
theorem ints_lay : ∀ ns : List Int, PyData.canLayAll0 (ns.map PyData.int) = true
  | [] => rfl
  | n :: ns => by
    have h := ints_lay ns
    simp only [List.map_cons, PyData.canLayAll0, PyData.canLay0, Bool.true_and]
    exact h
theorem ints_depth : ∀ ns : List Int, PyData.depthAll (ns.map PyData.int) ≤ 1
  | [] => by simp [PyData.depthAll]
  | n :: ns => by
    have h := ints_depth ns
    simp only [List.map_cons, PyData.depthAll, PyData.depth]
    omega
theorem shape_of {d : PyData} (h1 : d.canLay0 = true) (h2 : d.depth ≤ 64) : SeqAt.shaped d = true := by
  show (d.canLay0 && decide (d.depth ≤ 64)) = true
  rw [h1, decide_eq_true h2]
  rfl
theorem sh_ints (ns : List Int) : SeqAt.shaped (.list (ns.map PyData.int)) = true := by
  have h := ints_depth ns
  refine shape_of ?_ ?_
  · simp only [PyData.canLay0]
    exact ints_lay ns
  · simp only [PyData.depth]
    omega
theorem eqv_ints : ∀ ns ms : List Int, PyData.eqvAll (ns.map PyData.int) (ms.map PyData.int) = decide (ns = ms)
  | [], [] => by simp [PyData.eqvAll]
  | [], m :: ms => by simp [PyData.eqvAll]
  | n :: ns, [] => by simp [PyData.eqvAll]
  | n :: ns, m :: ms => by
    have h := eqv_ints ns ms
    simp only [List.map_cons, PyData.eqvAll, PyData.eqv, h]
    by_cases e1 : n = m
    · by_cases e2 : ns = ms
      · simp [e1, e2]
      · simp [e2]
    · simp [e1]
theorem eqv_listI (ns ms : List Int) : PyData.eqv (.list (ns.map PyData.int)) (.list (ms.map PyData.int)) = decide (ns = ms) := by
  simp only [PyData.eqv]
  exact eqv_ints ns ms
theorem dpa_ints {K : PySem.W.Frag} {H : Hp} : ∀ ns : List Int, DpAll K H (ns.map V.int) (ns.map PyData.int)
  | [] => .nil
  | n :: ns => .cons (.int n) (dpa_ints ns)
theorem dp_ints {K : PySem.W.Frag} {H : Hp} {p : Addr} {ns : List Int} (h : SqL K H p (ns.map V.int)) : Dp K H (.ref p) (.list (ns.map PyData.int)) := .lst h (dpa_ints ns)
section
variable {K : PySem.W.Frag} {H : Hp} {Q : VK} {p q : Addr} {ns ms : List Int}
theorem r_eqL (h1 : SqL K H p (ns.map V.int)) (h2 : SqL K H q (ms.map V.int)) (k : Q (.bl (decide (ns = ms))) H) : rEqD K (.ref p) (.ref q) H Q :=
  r_eqD (dp_ints h1) (dp_ints h2) (sh_ints _) (sh_ints _) (by rw [eqv_listI]; exact k)
theorem r_neL (h1 : SqL K H p (ns.map V.int)) (h2 : SqL K H q (ms.map V.int)) (k : Q (.bl (!decide (ns = ms))) H) : rNeD K (.ref p) (.ref q) H Q :=
  r_neD (dp_ints h1) (dp_ints h2) (sh_ints _) (sh_ints _) (by rw [eqv_listI]; exact k)
theorem r_eqSame {x y : V} {d : PyData} (hx : Dp K H x d) (hy : Dp K H y d) (s1 : SeqAt.shaped d = true) (k : Q (.bl true) H) : rEqD K x y H Q :=
  r_eqD hx hy s1 s1 (by rw [SeqAt.eqv_refl d (SeqAt.canLay_of_shaped s1)]; exact k)
theorem r_neSame {x y : V} {d : PyData} (hx : Dp K H x d) (hy : Dp K H y d) (s1 : SeqAt.shaped d = true) (k : Q (.bl false) H) : rNeD K x y H Q :=
  r_neD hx hy s1 s1 (by rw [SeqAt.eqv_refl d (SeqAt.canLay_of_shaped s1)]; exact k)
end
theorem tell_int {i : Int} (h1 : -1000000000 ≤ i) (h2 : i ≤ 1000000000) : tellV (.int i) := by
  show i.natAbs.log2 < 1920
  by_cases h : i.natAbs = 0
  · rw [h]
    decide
  · have a : i.natAbs.log2 < 30 := (Nat.log2_lt h).mpr (by omega)
    omega
/-- a part is shown apart from what follows -/
theorem r_K {te : TE} {σ : L2.St} {H : Hp} {Q : VK} (h1 : ∀ Q' : VK, (∀ i H1, Ex H H1 → Q' (.int i) H1) → te σ H Q') (h2 : ∀ i H1, Ex H H1 → Q (.int i) H1) : te σ H Q := h1 Q h2
/-- three ints at p -/
def Pur (H : Hp) (p : Addr) : Prop := ∃ a b c : Int, H p = some (.lst [.int a, .int b, .int c])
theorem Pur.ex {H H2 : Hp} {p : Addr} (h : Pur H p) (e : Ex H H2) : Pur H2 p := by
  obtain ⟨a, b, c, h⟩ := h
  exact ⟨a, b, c, e _ _ h⟩
theorem cut_ints (ns : List Int) (lo hi : Option Int) : cutV (ns.map V.int) lo hi = ((ns.drop (HT.sIx ns.length 0 lo)).take (HT.sIx ns.length ns.length hi - HT.sIx ns.length 0 lo)).map V.int := by
  unfold cutV
  rw [List.length_map, ← List.map_drop, ← List.map_take]
section
variable {σ : L2.St} {H : Hp} {Q : VK} {te : TE} {tl th : TO} {r : V → Option Int → Option Int → Hp → VK → Prop} {i : Int} {Z : Option Int → Hp → Prop}
theorem r_sl (h : te σ H fun x H1 => tl σ H1 fun l H2 => th σ H2 fun u H3 => r x l u H3 Q) : tSl r te tl th σ H Q := h
theorem r_noP (h : Z none H) : tNoPart σ H Z := h
theorem r_part (h : te σ H fun x H1 => ∃ i, x = .int i ∧ Z (some i) H1) : tPart te σ H Z := h
theorem r_in {P : Int → Prop} (h : P i) : ∃ j, V.int i = .int j ∧ P j := ⟨i, rfl, h⟩
end
theorem len3 {n : Nat} {xs : List V} (h : xs.length.ble n = true) : xs.length ≤ n := Nat.le_of_ble_eq_true h
theorem r_nT {A B : Prop} (h : B) : if (!true) = true then A else B := iteF h
theorem r_nF {A B : Prop} (h : A) : if (!false) = true then A else B := iteT h
section
variable {K : PySem.W.Frag} {σ : L2.St} {H : Hp} {Q : VK} {p q : Addr} {ns : List Int} {xs : List V} {k : Int} {v : V} {n : Nat} {f : Str} {C a dd : Addr}
theorem r_rep (h : H p = some (.lst [v])) (h0 : -1000000 ≤ k) (h1 : k ≤ 1000000) (q : ∀ p2 H2, H p2 = none → Ex H H2 → H2 p2 = some (.lst (List.replicate k.toNat v)) → Q (.ref p2) H2) : rRep (.ref p) (.int k) H Q :=
  ⟨p, k, _, rfl, rfl, h, by omega, by omega, by rw [List.length_singleton, sizeLine_eq]; omega, fun p2 n => q p2 _ n (Ex.new n) (by rw [List.flatten_replicate_singleton]; exact upd_same)⟩
theorem r_xf (e : σ[n]? = some (some (.ref a))) (h : H dd = some (.xd [(f, v)])) (q : Q v H) : tXf a (.ref C) (some dd) C f (tVar n) σ H Q :=
  ⟨_, e, rfl, rfl, dd, [(f, v)], v, rfl, h, by simp [List.lookup], q⟩
theorem r_eqT (h1 : SqL K H p (ns.map V.int)) (h2 : SqL K H q (ns.map V.int)) (k : Q (.bl true) H) : rEqD K (.ref p) (.ref q) H Q :=
  r_eqSame (dp_ints h1) (dp_ints h2) (sh_ints _) k
end
section
variable {K : PySem.W.Frag} {H : Hp} {Q : VK} {p : Addr} {xs : List V} {v a b : V}
theorem r_ix0 (h : SqL K H p (v :: xs)) (q : Q v H) : rIxL K (.ref p) (.int 0) H Q := r_ixL h (atI_V (j := 0) rfl rfl) q
theorem r_ix1 (h : SqL K H p (a :: v :: xs)) (q : Q v H) : rIxL K (.ref p) (.int 1) H Q := r_ixL h (atI_V (j := 1) rfl rfl) q
theorem r_ix2 (h : SqL K H p (a :: b :: v :: xs)) (q : Q v H) : rIxL K (.ref p) (.int 2) H Q := r_ixL h (atI_V (j := 2) rfl rfl) q
end
theorem Pur.upd {H H2 : Hp} {p l : Addr} (h : Pur H p) (e : ExB l H H2) (n : p ≠ l) : Pur H2 p := by
  obtain ⟨a, b, c, h⟩ := h
  exact ⟨a, b, c, e _ _ n h⟩
theorem Pur.ne {H : Hp} {p l : Addr} (h : Pur H p) (n : H l = none) : l ≠ p := by
  obtain ⟨a, b, c, h⟩ := h
  exact (ne_of_none h n).symm
/-! ### the end -/
section
variable {K : PySem.W.Frag} {mg : Str → Option Value} {h : Heap}
theorem at_mk {x : Str} {st : Stmt} {f : Addr} {ps : List Str} {oc : Value} {od an : Option Addr} {osl : Array (Option Value)} {kV doc pm cdv ct : Value} (X : K.In h) (G : h.Ns mainGlobals mg)
    (a : PySem.W.nsIn K mainGlobals x = some (some (.ref f))) (l : K.lookup f = some ⟨oc, od, .func (PySem.W.fnOf x x (defArgs st) (defBody st) (defScope st) .none kV doc pm an cdv ct), osl⟩) (c : PySem.W.codeIn K cdv x = true) (k : PySem.W.keepIn K (.ref f) = true)
    (hb : ∀ (kV doc pm : Value) (an : Option Addr) (cdv ct : Value) (us : List Value), us.length = ps.length → bindArgs (PySem.W.fnOf x x (defArgs st) (defBody st) (defScope st) .none kV doc pm an cdv ct) ⟨us, []⟩ = pure (ps.zip us)) : At K mg x st ps :=
  ⟨f, _, fun_mk l c k, PySem.W.mg_of X G a, (fun_mk l c k).binds hb⟩
theorem exm_is {A B : Addr} {b : Bool} (h1 : PySem.W.subIn K (.ref B) (.type "BaseException") = some true) (h2 : PySem.W.isClsIn K B = true) (h3 : PySem.W.typeIn K (.ref B) = some (.type "type")) (h4 : PySem.W.subIn K (.ref A) (.ref B) = some b) :
    PySem.W.exmOne K (.ref A) (.ref B) = some b := by
  have e1 : (PySem.W.subIn K (.ref B) (.type "BaseException") == some true) = true := by
    rw [h1]
    rfl
  have e2 : ((PySem.W.clsIn K B).isSome && PySem.W.typeIn K (.ref B) == some (.type "type")) = true := by
    have h2' : (PySem.W.clsIn K B).isSome = true := h2
    rw [h2', h3]
    rfl
  show (if (PySem.W.subIn K (.ref B) (.type "BaseException") == some true) = true then (if ((PySem.W.clsIn K B).isSome && PySem.W.typeIn K (.ref B) == some (.type "type")) = true then PySem.W.subIn K (.ref A) (.ref B) else none) else none) = some b
  rw [if_pos e1, if_pos e2, h4]
theorem exm_self {A : Addr} (h1 : PySem.W.subIn K (.ref A) (.type "BaseException") = some true) (h2 : PySem.W.isClsIn K A = true) (h3 : PySem.W.typeIn K (.ref A) = some (.type "type")) (h4 : PySem.W.subIn K (.ref A) (.ref A) = some true) :
    PySem.W.exmOne K (.ref A) (.ref A) = some true := exm_is h1 h2 h3 h4
theorem exm_not {A B : Addr} (h1 : PySem.W.subIn K (.ref B) (.type "BaseException") = some true) (h2 : PySem.W.isClsIn K B = true) (h3 : PySem.W.typeIn K (.ref B) = some (.type "type")) (h4 : PySem.W.subIn K (.ref A) (.ref B) = some false) :
    PySem.W.exmOne K (.ref A) (.ref B) = some false := exm_is h1 h2 h3 h4
end
section
variable {P : Program} {w : World} {K : PySem.W.Frag} {mg : Str → Option Value} {base : Heap}
/-- the law itself: its own def stays in sight -/
theorem fnK {x : Str} {st : Stmt} {f : Addr} {fd : FuncData} {N ps : List Str} {k : Nat} {sp : Sp} (F : Fun K x x st f fd) (S : FnScope N ps (defScope st)) (len : ∀ vs H Q E, sp vs H Q E → vs.length = ps.length)
    (hbody : ∀ (f : Addr) (cdv : Value) (A : Around) (outer : List Env) (s : Shared) (H : Hp) (vs : List V) (Q : VK) (E : XK), Room k (A.deeper (envOfC x (defScope st) s.heap.objs.size f cdv)) → sp vs H Q E →
      ∃ t, PSs (cxOf (L2.CX P w) P w K mg base N x (defScope st) f cdv A outer s H E) (defBody st) t ∧ t { nx := fun _ H' => Q .non H', rt := Q } (start N vs) H) : FnOk P w K mg base (L2.CX P w) (k + 1) f fd ps sp := F.okX S len (hbody f)
end
theorem end_of {l : PySem.W.OpenLaw} {k : Nat} {q : Program} {loose : List Str} {XP : (Str → Option Value) → Heap → Prop} {YP : World → Heap → Prop} {d : DefRec} {K : Params → PySem.W.Frag} {sp : PySem.W.Frag → Sp}
    (hn : l.most = some 63) (hdf : d.params.defaults = []) (hr : Room k callerA) (hY : ∀ (w : World) (h : Heap), YP w h → (K w.params).In h)
    (hsp : ∀ (K : PySem.W.Frag) (H : Hp) (a : Addr) (ns : List Int), ns.length ≤ 63 → SqL K H a (ns.map V.int) → sp K [.ref a] H (fun v _ => v = .bl true) fun _ _ _ => False)
    (F : ∀ (w : World) (mg : Str → Option Value) (fa : Addr) (h : Heap), (K w.params).In h → h.Ns mainGlobals mg → mg d.name = some (.ref fa) →
      ∃ fd : FuncData, (∀ (s : Shared) (u : Value), BindsTo s fd ⟨[u], []⟩ [("script", u)]) ∧ ∀ base : Heap, (K w.params).In base → base.Ns mainGlobals mg → FnOk l.prog w (K w.params) mg base (L2.CX l.prog w) k fa fd ["script"] (sp (K w.params))) :
    PySem.W.WalkO q loose XP YP l.row.toRowW d [] (fun f vs => PySem.call f vs) :=
  walk_of (n := 63) (x := "script") (CX := fun w => L2.CX l.prog w) (sp := fun w => sp (K w.params)) hn (by decide) hdf hr hY F (fun _ H a ns h1 _ h3 => hsp _ H a ns h1 h3) fun _ _ _ _ _ z => by
    obtain ⟨_, _, _, _, _, _, _, _, _, _, _, _, z⟩ := z
    exact z.elim
end Lay
namespace LayR
open PySem PySem.Spec PyProof.Rows L2 RT
section
variable {prog : Program} {w : World} {A : Around} {E : Value → Shared → Prop} {s : Shared}
/-- S.extend(it), S an empty list, it a list's reverse iterator at its begin -/
theorem extend_rev {it l S : Addr} {items : Array Value} {res : Value} {c0 : Nat} {R : Result → Shared → Prop} (hh : A.handled = none) (hit : s.heap.IsRevIter it l ((items.size : Int) - 1)) (hl : s.heap.IsList l items) (hne : l ≠ it) (hn : items.size ≤ sizeLine)
    (hSi : S ≠ it) (hSl : S ≠ l) (hS : s.heap.get? S = some { cls := .type "list", data := .seq #[] c0 })
    (hR : ∀ h' tk acc c', (∀ b o, b ≠ S → b ≠ it → s.heap.get? b = some o → h'.get? b = some o) → h'.get? S = some { cls := .type "list", dict := none, data := .seq acc c', slots := #[] } →
      ItemsOf (fun i v => items[items.size - 1 - i]? = some v) acc items.size → R (.ok (.ret res)) { s with heap := h', toks := tk }) :
    wpAny (model prog w) A.in1 (Builtin.List.listExtendWith (.ref S) (.ref it) res)
      (fun fin s' => match fin with | .done f => R (.ok f) s' | .again c' => c'.quiet = true ∧ codeAny (model prog w) A c' R s') (fun e s' => R (.error e) s') s := by
  have W := (Walks.listRev (prog := prog) (w := w) (A := A.in1) hh it l hne items).toS
  have hSf : S ∉ [it, l] := by
    simp only [List.mem_cons, List.not_mem_nil, or_false, not_or]
    exact ⟨hSi, hSl⟩
  have hT : s.TypeIs (.ref it) "list_reverseiterator" := hit.typeIs
  have h1 : Builtin.List.listSameRef (.ref S) (.ref it) = false := by simp [Builtin.List.listSameRef, hSi]
  unfold Builtin.List.listExtendWith
  refine wpAny_bind (wpAny_typeOf hT ?_)
  rw [if_neg (by rw [h1]; decide)]
  refine wpAny_bind (wpAny_pyIter_revIter hit ?_)
  refine wpAny_bind (wpAny_holding ?_)
  unfold Builtin.List.listLengthHint
  refine wpAny_bind (wpAny_specialOf hT nolen_lri ?_)
  show wpAny _ A.in1 (specialOf (Value.ref it) (Str.ofString "__length_hint__") >>= _) _ _ _
  refine wpAny_bind (wpAny_specialOf hT hint_lri ?_)
  generalize hid : ("list_reverseiterator.__length_hint__" : String) = id0
  wp_delta
  rw [show splitId id0 = some ("list_reverseiterator", "__length_hint__") by subst hid; decide +kernel]
  subst hid
  refine wpAny_bind (wpAny_isInstance (b := true) hT (by rw [isSubtype_type]; kernel_rfl) (wpAny_pure ?_))
  rw [if_neg (by decide)]
  have e0 : ((items.size : Nat) : Int) - 1 - ((0 : Nat) : Int) = (items.size : Int) - 1 := by omega
  refine wpAny_pure ⟨plainId_quiet F.plain_extend_loop _, codeAny_extend_loopS W hn S hSf _ items.size 0 _ _ _ rfl (Nat.zero_le _) ⟨Nat.zero_le _, by rw [e0]; exact hit, hl⟩ hS (ItemsOf.nil _) fun s' acc' c' hm hS' hacc => ?_⟩
  rw [Moved.eq_with hm]
  refine hR s'.heap s'.toks acc' c' (fun b o hb hb2 e => hm.heap b o (fun hmem => ?_) e) hS' hacc
  rcases List.mem_cons.mp hmem with e' | hmem
  · exact hb e'
  · exact hb2 (List.mem_singleton.mp hmem)
theorem call_list_rev {it l : Addr} {items : Array Value} {Q : Value → Shared → Prop} (hh : A.handled = none) (hit : s.heap.IsRevIter it l ((items.size : Int) - 1)) (hl : s.heap.IsList l items) (hne : l ≠ it) (hn : items.size ≤ sizeLine)
    (hQ : ∀ h' tk acc c', (∀ b o, b ≠ it → s.heap.get? b = some o → h'.get? b = some o) → h'.get? s.heap.objs.size = some { cls := .type "list", dict := none, data := .seq acc c', slots := #[] } →
      ItemsOf (fun i v => items[items.size - 1 - i]? = some v) acc items.size → Q (.ref s.heap.objs.size) { s with heap := h', toks := tk }) :
    wpAny (model prog w) A (call (.type "list") [.ref it]) Q E s := by
  obtain ⟨oi, hoi, _⟩ := id hit
  obtain ⟨ol, hol, _⟩ := id hl
  have hSi : s.heap.objs.size ≠ it := Nat.ne_of_gt (Heap.lt_size hoi)
  have hSl : s.heap.objs.size ≠ l := Nat.ne_of_gt (Heap.lt_size hol)
  refine callType_codes (Q₁ := fun obj s₁ => obj = .ref s.heap.objs.size ∧ s₁ = { s with heap := s.heap.push { cls := .type "list", data := .seq #[] } }) F.called_list (F.typeCall_list_1 _) F.entry_list_init (code_list_new _ ⟨rfl, rfl⟩) fun obj s₁ h₁ => ?_
  obtain ⟨rfl, rfl⟩ := h₁
  have hS : (s.heap.push { cls := .type "list", data := .seq #[] }).get? s.heap.objs.size = some { cls := .type "list", data := .seq #[] } := Heap.get?_push_size _ rfl
  refine ⟨⟨_, hS, rfl⟩, F.args_list_init_2 _ _, ?_⟩
  show wpAny _ _ (do let old ← Builtin.List.listItems (.ref s.heap.objs.size); Builtin.List.listUpdate (.ref s.heap.objs.size) (fun _ => #[]); letGo old.toList.reverse; Builtin.List.listExtendWith (.ref s.heap.objs.size) (.ref it) .none) _ _ _
  refine wpAny_bind ?_
  unfold Builtin.List.listItems
  refine wpAny_bind (wpAny_seqItems hS rfl (wpAny_pure ?_))
  show wpAny _ _ (updateSeq s.heap.objs.size (fun _ => #[]) >>= fun _ => letGo (#[] : Array Value).toList.reverse >>= fun _ => Builtin.List.listExtendWith (.ref s.heap.objs.size) (.ref it) .none) _ _ _
  refine wpAny_bind (wpAny_updateSeq hS rfl ?_)
  have hS2 := Heap.get?_update_self (Obj.mapSeq (fun _ => (#[] : Array Value))) hS rfl
  have oth : ∀ b o, b ≠ s.heap.objs.size → s.heap.get? b = some o → ((s.heap.push { cls := .type "list", data := .seq #[] }).update s.heap.objs.size (Obj.mapSeq (fun _ => (#[] : Array Value)))).get? b = some o :=
    fun b o hb e => (Heap.get?_update_other _ _ (Ne.symm hb)).trans (Heap.get?_push_of_some _ e)
  refine wpAny_bind (wpAny_letGo ?_)
  refine extend_rev (A := A.in1) hh (hit.at fun o e => oth it o hSi.symm e) (hl.at fun o e => oth l o hSl.symm e) hne hn hSi hSl hS2 fun h' tk acc c' hk hS' hacc => ?_
  exact ⟨rfl, hQ h' tk acc c' (fun b o hb e => hk b o (Nat.ne_of_lt (Heap.lt_size e)) hb (oth b o (Nat.ne_of_lt (Heap.lt_size e)) e)) hS' hacc⟩
end
/-- list(reversed(x)), x a list -/
def rLstRev (K : PySem.W.Frag) (te : TE) : TE := fun σ H Q => te σ H fun v H1 => ∃ (a : Addr) (xs : List V), v = .ref a ∧ SqL K H1 a xs ∧ Lay.NewL xs.reverse H1 Q
section
variable {X : Cx}
theorem pe_lstRev {e : Expr} {te : TE} {p p2 pos pos2 : Pos} (hc : X.calm = true) (hg : Gl X "list") (hm : X.mg "list" = none) (hg2 : Gl X "reversed") (hm2 : X.mg "reversed" = none) (he : PE X e te)
    (hs : starEach [e] X.env = (false, eval e X.env) :: starEach [] X.env := by rfl)
    (hs2 : starEach [.Call (.Name "reversed" p2) [e] [] pos2] X.env = (false, eval (.Call (.Name "reversed" p2) [e] [] pos2) X.env) :: starEach [] X.env := by rfl) :
    PE X (.Call (.Name "list" p) [.Call (.Name "reversed" p2) [e] [] pos2] [] pos) (rLstRev X.K te) := by
  refine ⟨fun pins s σ H Q I h => ?_⟩
  refine Call_ (ld_blt I hg hm boot_list (PyProof.Rows.callWith_type1 (args_cons (Call_ (ld_blt I hg2 hm2 PyProof.Rows.boot_reversed (PyProof.Rows.callWith_type1 (args_cons (thn (he.run pins s σ H _ I h) fun u s1 ⟨v, H1, I1, r1, q1⟩ => args_nil ?_) hs) hs rfl))) hs2) hs2 rfl))
  obtain ⟨a, xs, ev, hq, hz2, q⟩ := q1
  subst ev
  obtain rfl : u = Value.ref a := r1
  obtain ⟨its, rv, p', hz⟩ := I1.list hq
  refine call_reversed_list p'.isList (args_nil ?_)
  have k0 : ∀ b o, s1.heap.get? b = some o → (s1.heap.push (revObj a ((its.toArray.size : Int) - 1))).get? b = some o := fun b o e => Heap.get?_push_of_some _ e
  have I2 : Inv X pins σ H1 { s1 with heap := s1.heap.push (revObj a ((its.toArray.size : Int) - 1)) } := I1.kept (t' := s1.toks) k0
  obtain ⟨f0, f1, f2, f3, f4, f5⟩ := I1.fpOk (H' := H1) (b := s1.heap.objs.size) (Nat.le_refl _) (I1.hok.fresh (Nat.le_refl _))
  have hl := p'.isList
  obtain ⟨ol, hol, _⟩ := id hl
  have hne : a ≠ s1.heap.objs.size := Nat.ne_of_lt (Heap.lt_size hol)
  have hn : its.toArray.size ≤ sizeLine := by rw [List.size_toArray, ← rv.length]; exact hz
  refine call_list_rev (s := { s1 with heap := s1.heap.push (revObj a ((its.toArray.size : Int) - 1)) }) (I1.ok.hd hc) ⟨_, Heap.get?_push_size _ rfl, rfl, rfl⟩ (hl.push _) hne hn fun h' tk acc c' hk hS' hi => ?_
  have fp : FpOk X pins H1 s1.heap.objs.size := I1.fpOk (H' := H1) (b := s1.heap.objs.size) (Nat.le_refl _) (I1.hok.fresh (Nat.le_refl _))
  have I3 := I2.turnedNew (t' := tk) (ch := [s1.heap.objs.size]) (ob := .lst xs.reverse) (fun b o hb e => hk b o (by simpa using hb) e) (by intro b hb; obtain rfl := List.mem_singleton.mp hb; exact fp) (Nat.le_refl _)
    (show ObjOk X.prog X.w _ _ _ (.lst xs.reverse) from ⟨by rw [List.length_reverse]; exact hz, acc.toList, c', vals_rev rv hi, ?_⟩)
  · exact ⟨.ref _, _, I3, rfl, q _ (I2.hok.fresh (Nat.le_refl _))⟩
  · rw [Array.toArray_toList]
    exact hS'
end
end LayR
namespace Lay
open PySem PySem.Spec PyProof.Rows L2 Evl
section
variable {X : Cx}
/-- tuple(x) -/
def rTuple (K : PySem.W.Frag) : List V → Hp → VK → Prop := fun xs H Q => ∃ p ys, xs = [.ref p] ∧ ((SqL K H p ys ∧ ∀ l, H l = none → Q (.ref l) (upd H l (.tup ys))) ∨ (SqT K H p ys ∧ Q (.ref p) H))
theorem c_tuple : CallR X (.type "tuple") (rTuple X.K) := call_tuple_of
end
section
variable {K : PySem.W.Frag} {σ : L2.St} {H : Hp} {D : Ends} {te : TE} {Q : VK} {p q : Addr} {xs ys : List V} {ns ms : List Int} {v : V} {n : Nat} {i j k l : Int} {t : TGs} {g : TG} {R : L2.St → Hp → Prop}
theorem r_asg (h : te σ H fun x H1 => g x σ H1 D.nx) : tAsg te g D σ H := h
theorem r_gTup (h : SqT K H p xs) (l : xs.length = n) (q : t xs σ H R) : gTup K n t (.ref p) σ H R := ⟨p, xs, rfl, h, l, q⟩
theorem r_gUnl (h : SqL K H p xs) (l : xs.length = n) (q : t xs σ H R) : gUnl K n t (.ref p) σ H R := ⟨p, xs, rfl, h, l, q⟩
theorem r_gCons {u : TGs} (h : g v σ H fun σ' H' => u xs σ' H' R) : gCons g u (v :: xs) σ H R := ⟨v, xs, rfl, h⟩
theorem r_gNil (h : R σ H) : gNil [] σ H R := ⟨rfl, h⟩
theorem r_gName {m : Nat} (h : R (σ.set m (some v)) H) : gName m v σ H R := h
theorem r_revV (e : σ[n]? = some (some (.ref p))) (h : SqL K H p (ns.map V.int)) (l : ns.length ≤ 100000) (q : ∀ p2 H2, H p2 = none → Ex H H2 → H2 p2 = some (.lst (ns.reverse.map V.int)) → Q (.ref p2) H2) : LayR.rLstRev K (tVar n) σ H Q :=
  ⟨_, e, p, ns.map V.int, rfl, h, r_newL (by rw [List.length_reverse, List.length_map]; exact l) fun p2 H2 n e h => q p2 H2 n e (by rw [List.map_reverse]; exact h)⟩
/-! ### new lists of ints -/
theorem r_newI0 (h : ∀ p H2, H p = none → Ex H H2 → H2 p = some (.lst (([] : List Int).map V.int)) → Q (.ref p) H2) : NewL [] H Q := r_newL (by decide) h
theorem r_newI1 (h : ∀ p H2, H p = none → Ex H H2 → H2 p = some (.lst ([i].map V.int)) → Q (.ref p) H2) : NewL [.int i] H Q := r_newL (len3 rfl) h
theorem r_newI2 (h : ∀ p H2, H p = none → Ex H H2 → H2 p = some (.lst ([i, j].map V.int)) → Q (.ref p) H2) : NewL [.int i, .int j] H Q := r_newL (len3 rfl) h
theorem r_newI3 (h : ∀ p H2, H p = none → Ex H H2 → H2 p = some (.lst ([i, j, k].map V.int)) → Q (.ref p) H2) : NewL [.int i, .int j, .int k] H Q := r_newL (len3 rfl) h
theorem r_newI4 (h : ∀ p H2, H p = none → Ex H H2 → H2 p = some (.lst ([i, j, k, l].map V.int)) → Q (.ref p) H2) : NewL [.int i, .int j, .int k, .int l] H Q := r_newL (len3 rfl) h
theorem r_catI (h : H p = some (.lst (ns.map V.int))) (h' : H q = some (.lst (ms.map V.int))) (l : ns.length + ms.length ≤ 100000) (k : ∀ p2 H2, H p2 = none → Ex H H2 → H2 p2 = some (.lst ((ns ++ ms).map V.int)) → Q (.ref p2) H2) : rCat (.ref p) (.ref q) H Q :=
  r_cat h h' (by rw [List.length_map, List.length_map]; exact l) fun p2 H2 n e h => k p2 H2 n e (by rw [List.map_append]; exact h)
theorem r_appI (h : H p = some (.lst (ns.map V.int))) (l : ns.length < 100000) (q : ∀ H2, ExB p H H2 → H2 p = some (.lst ((ns ++ [i]).map V.int)) → (∀ a, H a = none → H2 a = none) → Q .non H2) : rAppend (.ref p) [.int i] H Q :=
  r_app h (by rw [List.length_map]; exact l) fun H2 e h2 f => q H2 e (by rw [List.map_append]; exact h2) f
theorem r_listI (h : SqL K H p (ns.map V.int)) (k : ∀ p2 H2, H p2 = none → Ex H H2 → H2 p2 = some (.lst (ns.map V.int)) → Q (.ref p2) H2) : rList K [.ref p] H Q := r_list h k
theorem r_listT (h : SqT K H p xs) (k : ∀ p2 H2, H p2 = none → Ex H H2 → H2 p2 = some (.lst xs) → Q (.ref p2) H2) : rList K [.ref p] H Q := ⟨p, xs, rfl, .inr h, fun p2 n => k p2 _ n (Ex.new n) upd_same⟩
theorem r_tupleL (h : SqL K H p xs) (k : ∀ p2 H2, H p2 = none → Ex H H2 → H2 p2 = some (.tup xs) → Q (.ref p2) H2) : rTuple K [.ref p] H Q := ⟨p, xs, rfl, .inl ⟨h, fun p2 n => k p2 _ n (Ex.new n) upd_same⟩⟩
theorem r_tupleT (h : SqT K H p xs) (k : Q (.ref p) H) : rTuple K [.ref p] H Q := ⟨p, xs, rfl, .inr ⟨h, k⟩⟩
theorem r_lenT (h : SqT K H p xs) (q : Q (.int xs.length) H) : rLen K [.ref p] H Q := ⟨p, xs, rfl, .inr h, q⟩
/-- ns[i] = z -/
theorem r_setI {Z : Hp → Prop} {z : Int} (h : H p = some (.lst (ns.map V.int))) (h0 : 0 ≤ i) (h1 : i < ns.length) (q : ∀ H2, ExB p H H2 → H2 p = some (.lst ((ns.set i.toNat z).map V.int)) → (∀ a, H a = none → H2 a = none) → Z H2) : rSetL (.ref p) (.int i) (.int z) H Z :=
  r_setL h h0 (by rw [List.length_map]; exact h1) fun H2 e h2 f => q H2 e (by rw [List.map_set]; exact h2) f
/-- ns[b:e] -/
theorem cut_nat {b e : Nat} (ns : List Int) (h1 : b ≤ e) (h2 : e ≤ ns.length) : cutV (ns.map V.int) (some (b : Int)) (some (e : Int)) = ((ns.drop b).take (e - b)).map V.int := by
  rw [cut_ints, HT.sIx_nat, HT.sIx_nat, Nat.min_eq_left (by omega), Nat.min_eq_left (by omega)]
theorem cut_from {b : Nat} (ns : List Int) (h1 : b ≤ ns.length) : cutV (ns.map V.int) (some (b : Int)) none = (ns.drop b).map V.int := by
  rw [cut_ints, HT.sIx_nat, Nat.min_eq_left (by omega)]
  show ((ns.drop b).take (ns.length - b)).map V.int = _
  rw [List.take_of_length_le (by rw [List.length_drop]; omega)]
theorem cut_to {e : Nat} (ns : List Int) (h1 : e ≤ ns.length) : cutV (ns.map V.int) none (some (e : Int)) = (ns.take e).map V.int := by
  rw [cut_ints, HT.sIx_nat, Nat.min_eq_left (by omega)]
  show ((ns.drop 0).take (e - 0)).map V.int = _
  rw [List.drop_zero, Nat.sub_zero]
theorem r_slBE {b e : Nat} {x y : Int} (h : SqL K H p (ns.map V.int)) (hx : x = (b : Int)) (hy : y = (e : Int)) (h1 : b ≤ e) (h2 : e ≤ ns.length) (q : ∀ p2 H2, H p2 = none → Ex H H2 → H2 p2 = some (.lst (((ns.drop b).take (e - b)).map V.int)) → Q (.ref p2) H2) : rSlL K (.ref p) (some x) (some y) H Q :=
  r_slL h fun p2 H2 n e h => q p2 H2 n e (by rw [hx, hy, cut_nat ns h1 h2] at h; exact h)
theorem r_slB {b : Nat} {x : Int} (h : SqL K H p (ns.map V.int)) (hx : x = (b : Int)) (h1 : b ≤ ns.length) (q : ∀ p2 H2, H p2 = none → Ex H H2 → H2 p2 = some (.lst ((ns.drop b).map V.int)) → Q (.ref p2) H2) : rSlL K (.ref p) (some x) none H Q :=
  r_slL h fun p2 H2 n e h => q p2 H2 n e (by rw [hx, cut_from ns h1] at h; exact h)
theorem r_slE {e : Nat} {y : Int} (h : SqL K H p (ns.map V.int)) (hy : y = (e : Int)) (h1 : e ≤ ns.length) (q : ∀ p2 H2, H p2 = none → Ex H H2 → H2 p2 = some (.lst ((ns.take e).map V.int)) → Q (.ref p2) H2) : rSlL K (.ref p) none (some y) H Q :=
  r_slL h fun p2 H2 n e h => q p2 H2 n e (by rw [hy, cut_to ns h1] at h; exact h)
/-! ### isinstance of tuples -/
theorem r_isiT {nm : String} {b : Bool} (h : PySem.W.kitOne K (.type "tuple") (.type nm) = some b) (hp : H p = some (.tup xs)) (q : Q (.bl b) H) : rIsi K [.ref p, .ty nm] H Q := ⟨.ref p, .ty nm, .type "tuple", .type nm, b, rfl, .ty nm, .base (.tup hp), h, q⟩
theorem r_isTT (hp : H p = some (.tup xs)) (q : Q (.bl true) H) : rIsi K [.ref p, .ty "tuple"] H Q := r_isiT (kit_ty (by decide +kernel)) hp q
theorem r_isTL (hp : H p = some (.tup xs)) (q : Q (.bl false) H) : rIsi K [.ref p, .ty "list"] H Q := r_isiT (kit_ty (by decide +kernel)) hp q
theorem r_isLT (hp : H p = some (.lst xs)) (q : Q (.bl false) H) : rIsi K [.ref p, .ty "tuple"] H Q := r_isiL (kit_ty (by decide +kernel)) hp q
end
/-! ### heaps, backwards -/
theorem freshB {p l : Addr} {A B : Hp} (e : ExB p A B) (n : l ≠ p) (h : B l = none) : A l = none := by
  cases hx : A l with
  | none => rfl
  | some o =>
    have := e _ _ n hx
    rw [h] at this
    cases this
theorem ext {K : PySem.W.Frag} {H H' : Hp} {a : Addr} {xs : List V} (e : Ex H H') (h : SqT K H a xs) : SqT K H' a xs := ex_t e h
theorem exb_t {K : PySem.W.Frag} {l : Addr} {H H' : Hp} {a : Addr} {xs : List V} (e : ExB l H H') (n : a ≠ l) (h : SqT K H a xs) : SqT K H' a xs := by
  rcases h with (h | ⟨o, h⟩) | h
  · exact .inl (.inl (e _ _ n h))
  · exact .inl (.inr ⟨o, e _ _ n h⟩)
  · exact .inr h
theorem ne_pur {H : Hp} {p l : Addr} (h : Pur H p) (n : H l = none) : p ≠ l := (h.ne n).symm
section
variable {K : PySem.W.Frag} {σ : L2.St} {H : Hp} {D : Ends} {te : TE} {g : TG} {tb : TS} {tt : TT} {Q : VK} {a : Addr} {xs : List V} {ns : List Int} {m : Nat} {vs : List Nat}
/-- over a tuple -/
theorem forT (hx : SqT K H a xs) (Pv : Nat → L2.St → Hp → Prop) (h0 : Pv 0 σ H) (hl : ∀ i s h, i ≤ xs.length → Pv i s h → SqT K h a xs)
    (hs : ∀ i x s h, xs[i]? = some x → Pv i s h → g x s h fun s2 h2 => tb ⟨Pv (i + 1), D.rt, D.nx, Pv (i + 1)⟩ s2 h2) (hd : ∀ s h, Pv xs.length s h → D.nx s h) : ItT K (.ref a) H (ForW g tb D σ) :=
  ⟨a, rfl, ⟨xs, hx⟩, for_tup (K := K) (a := a) (xs := xs) Pv h0 hl hs hd⟩
theorem lcT (hx : SqT K H a xs) (Pv : Addr → Nat → Hp → Prop) (h0 : ∀ p h, H p = none → Ex H h → h p = some (.lst []) → Pv p 0 h) (hl : ∀ p i h, i ≤ xs.length → Pv p i h → SqT K h a xs)
    (hs : ∀ p (i : Nat) x h, xs[i]? = some x → Pv p i h → te ((wipe σ vs).set m (some x)) h (AppW p (Pv p (i + 1)))) (hd : ∀ p h, Pv p xs.length h → Q (.ref p) h)
    (hw : ∀ x, wipe ((wipe σ vs).set m (some x)) vs = wipe σ vs) : ItT K (.ref a) H (LcW (gName m) tYes te vs σ Q) :=
  ⟨a, rfl, ⟨xs, hx⟩, fun p hp => lc_tup (K := K) (a := a) (xs := xs) (Pv p) (h0 p _ hp (Ex.new hp) upd_same) (fun i h hi q => hl p i h hi q) (fun i x h hi q => ⟨hw x, yesL (hs p i x h hi q)⟩) (hd p)⟩
/-- [one for one in xs] -/
theorem lcLcopy (hx : SqL K H a xs) (l : xs.length ≤ 100000) (e : (wipe σ vs).length > m) (q : ∀ p H2, H p = none → Ex H H2 → H2 p = some (.lst xs) → Q (.ref p) H2)
    (hw : ∀ x, wipe ((wipe σ vs).set m (some x)) vs = wipe σ vs) : ItL K (.ref a) H (LcW (gName m) tYes (tVar m) vs σ Q) := by
  refine lcL hx (fun p i h => h p = some (.lst (xs.take i)) ∧ Ex H h ∧ H p = none) (fun p h n e h1 => ⟨h1, e, n⟩) (fun p i h _ ⟨_, e, _⟩ => ex_l e hx) (fun p i x h hi ⟨h1, e1, n⟩ => ?_) (fun p h ⟨h1, e1, n⟩ => q p h n e1 (by rw [List.take_length] at h1; exact h1)) hw
  have hil := (List.getElem?_eq_some_iff.mp hi).1
  refine r_var (v := x) (by rw [List.getElem?_set_self e]) (appW h1 (by rw [List.length_take]; omega) fun H5 e5 h5 => ⟨?_, ExB.ex e1 e5 n, n⟩)
  rw [h5, List.take_succ, hi]
  rfl
theorem lcTcopy (hx : SqT K H a xs) (l : xs.length ≤ 100000) (e : (wipe σ vs).length > m) (q : ∀ p H2, H p = none → Ex H H2 → H2 p = some (.lst xs) → Q (.ref p) H2)
    (hw : ∀ x, wipe ((wipe σ vs).set m (some x)) vs = wipe σ vs) : ItT K (.ref a) H (LcW (gName m) tYes (tVar m) vs σ Q) := by
  refine lcT hx (fun p i h => h p = some (.lst (xs.take i)) ∧ Ex H h ∧ H p = none) (fun p h n e h1 => ⟨h1, e, n⟩) (fun p i h _ ⟨_, e, _⟩ => ex_t e hx) (fun p i x h hi ⟨h1, e1, n⟩ => ?_) (fun p h ⟨h1, e1, n⟩ => q p h n e1 (by rw [List.take_length] at h1; exact h1)) hw
  have hil := (List.getElem?_eq_some_iff.mp hi).1
  refine r_var (v := x) (by rw [List.getElem?_set_self e]) (appW h1 (by rw [List.length_take]; omega) fun H5 e5 h5 => ⟨?_, ExB.ex e1 e5 n, n⟩)
  rw [h5, List.take_succ, hi]
  rfl
end
/-! ### tuples of ints compared -/
theorem sh_tints (ns : List Int) : SeqAt.shaped (.tuple (ns.map PyData.int)) = true := by
  have h := ints_depth ns
  refine shape_of ?_ ?_
  · simp only [PyData.canLay0]
    exact ints_lay ns
  · simp only [PyData.depth]
    omega
theorem dp_tints {K : PySem.W.Frag} {H : Hp} {p : Addr} {ns : List Int} (h : SqT K H p (ns.map V.int)) : Dp K H (.ref p) (.tuple (ns.map PyData.int)) := .tup h (dpa_ints ns)
/-! ### lists of lists of ints -/
def ptab (t : List (List Int)) : PyData := .list (t.map fun ns => PyData.list (ns.map PyData.int))
theorem tab_lay : ∀ t : List (List Int), PyData.canLayAll0 (t.map fun ns => PyData.list (ns.map PyData.int)) = true
  | [] => rfl
  | ns :: t => by
    have h := tab_lay t
    simp only [List.map_cons, PyData.canLayAll0, PyData.canLay0, ints_lay, Bool.true_and]
    exact h
theorem tab_depth : ∀ t : List (List Int), PyData.depthAll (t.map fun ns => PyData.list (ns.map PyData.int)) ≤ 2
  | [] => by simp [PyData.depthAll]
  | ns :: t => by
    have h := tab_depth t
    have h2 := ints_depth ns
    simp only [List.map_cons, PyData.depthAll, PyData.depth]
    omega
theorem sh_tab (t : List (List Int)) : SeqAt.shaped (ptab t) = true := by
  have h := tab_depth t
  refine shape_of ?_ ?_
  · simp only [ptab, PyData.canLay0]
    exact tab_lay t
  · simp only [ptab, PyData.depth]
    omega
theorem dp_tab2 {K : PySem.W.Frag} {H : Hp} {p a b : Addr} {ns ms : List Int} (h : SqL K H p [.ref a, .ref b]) (ha : SqL K H a (ns.map V.int)) (hb : SqL K H b (ms.map V.int)) : Dp K H (.ref p) (ptab [ns, ms]) :=
  .lst h (.cons (dp_ints ha) (.cons (dp_ints hb) .nil))
/-! ### conditions that are values -/
section
variable {K : PySem.W.Frag} {σ : L2.St} {H : Hp} {Q : VK} {x y : V} {i j : Int} {P : Prop} [Decidable P]
theorem r_iteC (h : Q (.int (if P then i else j)) H) : if decide P = true then tC (.int i) σ H Q else tC (.int j) σ H Q := by
  by_cases c : P
  · rw [if_pos (decide_eq_true c)]
    rw [if_pos c] at h
    exact h
  · rw [if_neg (by rw [decide_eq_false c]; decide)]
    rw [if_neg c] at h
    exact h
theorem r_chain {r r' : R2} {ta tb tc : TE} (h : ta σ H fun x H1 => tb σ H1 fun y H2 => r x y H2 fun z H3 => ∃ k, z = .bl k ∧ (if k = true then tc σ H3 fun w' H4 => r' y w' H4 Q else Q (.bl false) H3)) : tChain r r' ta tb tc σ H Q := h
theorem r_tIfI {c : TT} (h : c σ H fun b H1 => if b = true then tC (.int i) σ H1 Q else tC (.int j) σ H1 Q) : tIf c (tC (.int i)) (tC (.int j)) σ H Q := h
theorem r_ixT0 {p : Addr} {xs : List V} {v : V} (h : SqT K H p (v :: xs)) (q : Q v H) : rIxT K (.ref p) (.int 0) H Q := r_ixT h (atI_V (j := 0) rfl rfl) q
theorem r_ixT1 {p : Addr} {xs : List V} {a v : V} (h : SqT K H p (a :: v :: xs)) (q : Q v H) : rIxT K (.ref p) (.int 1) H Q := r_ixT h (atI_V (j := 1) rfl rfl) q
theorem r_ixT2 {p : Addr} {xs : List V} {a b v : V} (h : SqT K H p (a :: b :: v :: xs)) (q : Q v H) : rIxT K (.ref p) (.int 2) H Q := r_ixT h (atI_V (j := 2) rfl rfl) q
end
/-! ### the greatest of ints -/
def mx (a b : Int) : Int := if b > a then b else a
def mn (a b : Int) : Int := if b < a then b else a
def mxl : List Int → Int
  | [] => 0
  | z :: ns => ns.foldl (fun a b => if b > a then b else a) z
theorem mxf_ge : ∀ (ns : List Int) (z : Int), z ≤ ns.foldl (fun a b => if b > a then b else a) z ∧ ∀ y ∈ ns, y ≤ ns.foldl (fun a b => if b > a then b else a) z
  | [], z => ⟨Int.le_refl z, fun y h => (List.not_mem_nil h).elim⟩
  | x :: ns, z => by
    have ih := mxf_ge ns (if x > z then x else z)
    rw [List.foldl_cons]
    refine ⟨Int.le_trans ?_ ih.1, fun y hy => ?_⟩
    · split <;> omega
    · rcases List.mem_cons.mp hy with q | q
      · rw [q]
        refine Int.le_trans ?_ ih.1
        split <;> omega
      · exact ih.2 y q
theorem mxf_mem : ∀ (ns : List Int) (z : Int), ns.foldl (fun a b => if b > a then b else a) z ∈ z :: ns
  | [], z => List.mem_cons_self
  | x :: ns, z => by
    have ih := mxf_mem ns (if x > z then x else z)
    rw [List.foldl_cons]
    rcases List.mem_cons.mp ih with q | q
    · rw [q]
      by_cases c : x > z
      · rw [if_pos c]; exact List.mem_cons_of_mem _ List.mem_cons_self
      · rw [if_neg c]; exact List.mem_cons_self
    · exact List.mem_cons_of_mem _ (List.mem_cons_of_mem _ q)
theorem mxl_mem {ns : List Int} (h : 0 < ns.length) : mxl ns ∈ ns := by
  cases ns with
  | nil => exact absurd h (Nat.lt_irrefl 0)
  | cons z ns => exact mxf_mem ns z
theorem mxl_ge {ns : List Int} {y : Int} (h : y ∈ ns) : y ≤ mxl ns := by
  cases ns with
  | nil => exact (List.not_mem_nil h).elim
  | cons z ns =>
    rcases List.mem_cons.mp h with q | q
    · rw [q]; exact (mxf_ge ns z).1
    · exact (mxf_ge ns z).2 y q
section
variable {K : PySem.W.Frag} {σ : L2.St} {H : Hp} {Q : VK} {p : Addr} {xs : List V} {ns : List Int} {i j k : Int} {a b : Bool} {n : Nat}
theorem r_maxI (h : SqL K H p (ns.map V.int)) (l : 0 < ns.length) (q : Q (.int (mxl ns)) H) : rMax K [.ref p] H Q :=
  r_max h l fun m hm hge => by
    have a := hge _ (mxl_mem l)
    have b := mxl_ge hm
    have e : m = mxl ns := by omega
    rw [e]
    exact q
theorem dB {a b : Bool} : decide (V.bl a = V.bl b) = decide (a = b) := by cases a <;> cases b <;> rfl
theorem r_eqB (h : Q (.bl (decide (a = b))) H) : rEq (.bl a) (.bl b) H Q := ⟨rfl, by rw [dB]; exact h⟩
theorem r_neB (h : Q (.bl (!decide (a = b))) H) : rNe (.bl a) (.bl b) H Q := ⟨rfl, by rw [dB]; exact h⟩
/-- xs * k -/
theorem r_repG (h : H p = some (.lst xs)) (h0 : 0 ≤ k) (h1 : xs.length * k.toNat ≤ 100000) (h2 : k ≤ 1000000) (q : ∀ p2 H2, H p2 = none → Ex H H2 → H2 p2 = some (.lst (List.replicate k.toNat xs).flatten) → Q (.ref p2) H2) : rRep (.ref p) (.int k) H Q :=
  ⟨p, k, xs, rfl, rfl, h, by omega, by omega, sz_of h1, fun p2 n => q p2 _ n (Ex.new n) upd_same⟩
def rStrI : List V → Hp → VK → Prop := fun xs H Q => ∃ i : Int, xs = [.int i] ∧ i.natAbs.log2 < 1920 ∧ Q (.str (toString i)) H
def rLenS : List V → Hp → VK → Prop := fun xs H Q => ∃ z : Str, xs = [.str z] ∧ z.length ≤ sizeLine ∧ Q (.int z.length) H
theorem r_strI (h0 : -1000000000 ≤ i) (h1 : i ≤ 1000000000) (q : Q (.str (toString i)) H) : rStrI [.int i] H Q := ⟨i, rfl, tell_int h0 h1, q⟩
theorem r_lenS {z : Str} (h : z.length ≤ 100000) (q : Q (.int z.length) H) : rLenS [.str z] H Q := ⟨z, rfl, sz_of h, q⟩
end
section
variable {X : Cx}
theorem c_str : CallR X (.type "str") rStrI := call_str_int
theorem c_lenS : CallR X (.builtin "len") rLenS := call_len_str
end
section
variable {K : PySem.W.Frag} {σ : L2.St} {H : Hp} {te : TE} {Q : VK} {m : Nat} {vs : List Nat} {i j : Int}
theorem lcR2 (h1 : -1000000000 ≤ i ∧ i ≤ 1000000000) (h2 : -1000000000 ≤ j ∧ j ≤ 1000000000) (Pv : Addr → Nat → Hp → Prop) (h0 : ∀ p h, H p = none → Ex H h → h p = some (.lst []) → Pv p 0 h)
    (hs : ∀ p (k : Nat) h, i + (k : Int) < j → Pv p k h → te ((wipe σ vs).set m (some (.int (i + k)))) h (AppW p (Pv p (k + 1)))) (hd : ∀ p h, Pv p (j - i).toNat h → Q (.ref p) h)
    (hw : ∀ x, wipe ((wipe σ vs).set m (some x)) vs = wipe σ vs) : ItR2 [.int i, .int j] H (LcW (gName m) tYes te vs σ Q) := by
  refine ⟨i, j, rfl, ⟨by omega, by omega, by omega, by omega⟩, fun p hp => lc_range (lo := i) (n := (j - i).toNat) (Pv p) (h0 p _ hp (Ex.new hp) upd_same) (fun k h hk q => ?_) (hd p)⟩
  exact ⟨hw _, yesL (hs p k h (by omega) q)⟩
/-- a list of ints by a comprehension over a range that only reads and calls what adds to the heap -/
theorem lcF1 {f : Nat → Int} (h1 : -1000000000 ≤ j) (h2 : j ≤ 90000)
    (hs : ∀ (k : Nat) h (R : VK), (k : Int) < j → Ex H h → (∀ h2, Ex h h2 → R (.int (f k)) h2) → te ((wipe σ vs).set m (some (.int k))) h R)
    (hd : ∀ p h, H p = none → Ex H h → h p = some (.lst (((List.range j.toNat).map f).map V.int)) → Q (.ref p) h)
    (hw : ∀ x, wipe ((wipe σ vs).set m (some x)) vs = wipe σ vs) : ItR1 [.int j] H (LcW (gName m) tYes te vs σ Q) := by
  refine lcR1 h1 (by omega) (fun p k h => h p = some (.lst (((List.range k).map f).map V.int)) ∧ Ex H h ∧ H p = none) (fun p h n e hp => ⟨hp, e, n⟩) (fun p k h hk ⟨hp, e, n⟩ => ?_) (fun p h ⟨hp, e, n⟩ => hd p h n e hp) hw
  refine hs k h _ hk e fun h2 e2 => appW (e2 _ _ hp) (by rw [List.length_map, List.length_map, List.length_range]; omega) fun H5 e5 h5 => ⟨?_, ExB.ex (e.trans e2) e5 n, n⟩
  rw [h5, List.range_succ, List.map_append, List.map_append]
  rfl
theorem lcF2 {f : Nat → Int} (h1 : -1000000000 ≤ i ∧ i ≤ 1000000000) (h2 : -1000000000 ≤ j ∧ j ≤ 1000000000) (h3 : j - i ≤ 90000)
    (hs : ∀ (k : Nat) h (R : VK), i + (k : Int) < j → Ex H h → (∀ h2, Ex h h2 → R (.int (f k)) h2) → te ((wipe σ vs).set m (some (.int (i + k)))) h R)
    (hd : ∀ p h, H p = none → Ex H h → h p = some (.lst (((List.range (j - i).toNat).map f).map V.int)) → Q (.ref p) h)
    (hw : ∀ x, wipe ((wipe σ vs).set m (some x)) vs = wipe σ vs) : ItR2 [.int i, .int j] H (LcW (gName m) tYes te vs σ Q) := by
  refine lcR2 h1 h2 (fun p k h => h p = some (.lst (((List.range k).map f).map V.int)) ∧ Ex H h ∧ H p = none) (fun p h n e hp => ⟨hp, e, n⟩) (fun p k h hk ⟨hp, e, n⟩ => ?_) (fun p h ⟨hp, e, n⟩ => hd p h n e hp) hw
  refine hs k h _ hk e fun h2 e2 => appW (e2 _ _ hp) (by rw [List.length_map, List.length_map, List.length_range]; omega) fun H5 e5 h5 => ⟨?_, ExB.ex (e.trans e2) e5 n, n⟩
  rw [h5, List.range_succ, List.map_append, List.map_append]
  rfl
end
theorem sq_fresh {K : PySem.W.Frag} {H0 H1 H2 : Hp} {s p : Addr} {xs : List V} (h0 : SqL K H0 s xs) (np : H0 p = none) (h : SqL K H1 s xs) (e : ExB p H1 H2) : SqL K H2 s xs := by
  rcases h0 with (h0 | ⟨o, h0⟩) | h0
  · exact exb_l e (ne_of_none h0 np) h
  · exact exb_l e (ne_of_none h0 np) h
  · exact .inr h0
end Lay
/-! own classes: their objects, fields, methods -/
namespace Lay
open PySem PySem.Spec PyProof.Rows L2 Evl
/-- an own class and the fields that its objects have -/
structure OC (K : PySem.W.Frag) (mg : Str → Option Value) (x : Str) (C : Addr) (fs : List Str) : Prop where
  cl : Cls K C
  g : mg x = some (.ref C)
  kp : PySem.W.keepIn K (.ref C) = true
  na : ∀ f ∈ fs, NoAttr K C f
/-- a def's text, with or without defaults -/
structure FunD (K : PySem.W.Frag) (x qual : Str) (st : Stmt) (f : Addr) (fd : FuncData) : Prop where
  ex : ∃ (oc : Value) (od : Option Addr) (dV kV doc pm : Value) (an : Option Addr) (cdv ct : Value) (osl : Array (Option Value)),
    fd = PySem.W.fnOf x qual (defArgs st) (defBody st) (defScope st) dV kV doc pm an cdv ct ∧ K.lookup f = some ⟨oc, od, .func fd, osl⟩ ∧ PySem.W.codeIn K cdv qual = true
section
variable {P : Program} {w : World} {K : PySem.W.Frag} {mg : Str → Option Value} {base : Heap}
theorem FunD.okX {x qual : Str} {st : Stmt} {f : Addr} {fd : FuncData} {N ps : List Str} {k : Nat} {sp : Sp} (F : FunD K x qual st f fd) (S : FnScope N ps (defScope st)) (len : ∀ vs H Q E, sp vs H Q E → vs.length = ps.length)
    (hbody : ∀ (cdv : Value) (A : Around) (outer : List Env) (s : Shared) (H : Hp) (vs : List V) (Q : VK) (E : XK), Room k (A.deeper (envOfC qual (defScope st) s.heap.objs.size f cdv)) → sp vs H Q E →
      ∃ t, PSs (cxOf (L2.CX P w) P w K mg base N qual (defScope st) f cdv A outer s H E) (defBody st) t ∧ t { nx := fun _ H' => Q .non H', rt := Q } (start N vs) H) : FnOk P w K mg base (L2.CX P w) (k + 1) f fd ps sp := by
  obtain ⟨oc, od, dV, kV, doc, pm, an, cdv, ct, osl, rfl, lk, hcd⟩ := F.ex
  exact fn_of lk hcd S len fun A outer s H vs Q E hr hsp => hbody cdv A outer s H vs Q E hr hsp
theorem funD_mk {x qual : Str} {st : Stmt} {f : Addr} {oc : Value} {od an : Option Addr} {osl : Array (Option Value)} {dV kV doc pm cdv ct : Value} (l : K.lookup f = some ⟨oc, od, .func (PySem.W.fnOf x qual (defArgs st) (defBody st) (defScope st) dV kV doc pm an cdv ct), osl⟩)
    (c : PySem.W.codeIn K cdv qual = true) : FunD K x qual st f (PySem.W.fnOf x qual (defArgs st) (defBody st) (defScope st) dV kV doc pm an cdv ct) := ⟨⟨oc, od, dV, kV, doc, pm, an, cdv, ct, osl, rfl, l, c⟩⟩
theorem FunD.binds {x qual : Str} {st : Stmt} {f : Addr} {fd : FuncData} {ps : List Str} (F : FunD K x qual st f fd)
    (h : ∀ (dV kV doc pm : Value) (an : Option Addr) (cdv ct : Value) (us : List Value), us.length = ps.length → bindArgs (PySem.W.fnOf x qual (defArgs st) (defBody st) (defScope st) dV kV doc pm an cdv ct) ⟨us, []⟩ = pure (ps.zip us)) : Binds K fd ps [] := by
  obtain ⟨oc, od, dV, kV, doc, pm, an, cdv, ct, osl, rfl, lk, hcd⟩ := F.ex
  exact .all (h dV kV doc pm an cdv ct)
end
/-- a method's text -/
structure AtM (K : PySem.W.Frag) (C : Addr) (m qual : Str) (st : Stmt) (ps : List Str) : Prop where
  ex : ∃ (f : Addr) (fd : FuncData), FunD K m qual st f fd ∧ Meth K C m f ∧ Binds K fd ps []
/-- a method as callers know it -/
structure DM (P : Program) (w : World) (K : PySem.W.Frag) (mg : Str → Option Value) (base : Heap) (C : Addr) (m : Str) (k : Nat) (ps : List Str) (sp : Sp) : Prop where
  ex : ∃ (f : Addr) (fd : FuncData), FnOk P w K mg base (L2.CX P w) k f fd ps sp ∧ Meth K C m f ∧ Binds K fd ps []
/-- an __init__'s text, and the making -/
structure AtI (K : PySem.W.Frag) (mg : Str → Option Value) (x : Str) (C : Addr) (qual : Str) (st : Stmt) (ps : List Str) : Prop where
  ex : ∃ (f : Addr) (fd : FuncData), FunD K "__init__" qual st f fd ∧ Mk K C f ∧ mg x = some (.ref C) ∧ Binds K fd ps []
structure DI (P : Program) (w : World) (K : PySem.W.Frag) (mg : Str → Option Value) (base : Heap) (x : Str) (C : Addr) (k : Nat) (ps : List Str) (sp : Sp) : Prop where
  ex : ∃ (f : Addr) (fd : FuncData), FnOk P w K mg base (L2.CX P w) k f fd ps sp ∧ Mk K C f ∧ mg x = some (.ref C) ∧ Binds K fd ps []
section
variable {P : Program} {w : World} {K : PySem.W.Frag} {mg : Str → Option Value} {base : Heap}
theorem DM.mk' {C : Addr} {m qual : Str} {st : Stmt} {N ps : List Str} {k : Nat} {sp : Sp} (F : AtM K C m qual st ps) (S : FnScope N ps (defScope st)) (len : ∀ vs H Q E, sp vs H Q E → vs.length = ps.length)
    (hbody : ∀ (f : Addr) (cdv : Value) (A : Around) (outer : List Env) (s : Shared) (H : Hp) (vs : List V) (Q : VK) (E : XK), Room k (A.deeper (envOfC qual (defScope st) s.heap.objs.size f cdv)) → sp vs H Q E →
      ∃ t, PSs (cxOf (L2.CX P w) P w K mg base N qual (defScope st) f cdv A outer s H E) (defBody st) t ∧ t { nx := fun _ H' => Q .non H', rt := Q } (start N vs) H) : DM P w K mg base C m (k + 1) ps sp := by
  obtain ⟨f, fd, Ff, g, b⟩ := F.ex
  exact ⟨f, fd, Ff.okX S len (hbody f), g, b⟩
theorem DI.mk' {x : Str} {C : Addr} {qual : Str} {st : Stmt} {N ps : List Str} {k : Nat} {sp : Sp} (F : AtI K mg x C qual st ps) (S : FnScope N ps (defScope st)) (len : ∀ vs H Q E, sp vs H Q E → vs.length = ps.length)
    (hbody : ∀ (f : Addr) (cdv : Value) (A : Around) (outer : List Env) (s : Shared) (H : Hp) (vs : List V) (Q : VK) (E : XK), Room k (A.deeper (envOfC qual (defScope st) s.heap.objs.size f cdv)) → sp vs H Q E →
      ∃ t, PSs (cxOf (L2.CX P w) P w K mg base N qual (defScope st) f cdv A outer s H E) (defBody st) t ∧ t { nx := fun _ H' => Q .non H', rt := Q } (start N vs) H) : DI P w K mg base x C (k + 1) ps sp := by
  obtain ⟨f, fd, Ff, g, m, b⟩ := F.ex
  exact ⟨f, fd, Ff.okX S len (hbody f), g, m, b⟩
end
section
variable {X : Cx} {k : Nat} {ps : List Str} {sp : Sp} {E : XK} {x m : Str} {C : Addr} {p pos apos : Pos} {o e : Expr} {es : List Expr} {ta : TE} {t : TA}
theorem pe_mD {pl : Sem Bool} (d : DM X.prog X.w X.K X.mg X.base C m k ps sp) (c : Cls X.K C) (hr : Room k X.A) (hx : Passes (L2.CX X.prog X.w) X E) (he : PE X o ta) (ha : PA X (e :: es) t)
    (hst : starEach (e :: es) X.env = (false, eval e X.env) :: starEach es X.env := by rfl) (hpl : (backTo pos (starEach es X.env)).any (·.1) = false := by rfl)
    (ht : eval (.Call (.Attribute o m apos) (e :: es) [] pos) X.env = (do
      let ov ← eval o X.env
      standAt apos.atName
      let (f, first) ← holding [ov] (getMethod ov m pl)
      callWith pos f first (backTo pos (starEach (e :: es) X.env)) (backToKw pos (keywordEach [] X.env))) := by rfl) :
    PE X (.Call (.Attribute o m apos) (e :: es) [] pos) (tMeth C m sp [] E ta t) := by
  obtain ⟨f, fd, F, hm, b⟩ := d.ex
  exact pe_meth (pl := pl) he c hm F hr b .nil hx ha hst hpl ht
theorem pe_mD0 {pl : Sem Bool} (d : DM X.prog X.w X.K X.mg X.base C m k ps sp) (c : Cls X.K C) (hr : Room k X.A) (hx : Passes (L2.CX X.prog X.w) X E) (he : PE X o ta)
    (ht : eval (.Call (.Attribute o m apos) [] [] pos) X.env = (do
      let ov ← eval o X.env
      standAt apos.atName
      let (f, first) ← holding [ov] (getMethod ov m pl)
      callWith pos f first (backTo pos (starEach [] X.env)) (backToKw pos (keywordEach [] X.env))) := by rfl) :
    PE X (.Call (.Attribute o m apos) [] [] pos) (tMeth C m sp [] E ta tNil) := by
  obtain ⟨f, fd, F, hm, b⟩ := d.ex
  exact pe_meth0 (pl := pl) he c hm F hr b .nil hx ht
theorem pe_mkD (d : DI X.prog X.w X.K X.mg X.base x C k ps sp) (hr : Room (k + 1) X.A) (hx : Passes (L2.CX X.prog X.w) X E) (ha : PA X (e :: es) t) (hg : Gl X x := by rfl)
    (hdb : (x == ("__debug__" : Str)) = false := by decide) (he : starEach (e :: es) X.env = (false, eval e X.env) :: starEach es X.env := by rfl) (hpl : (backTo pos (starEach es X.env)).any (·.1) = false := by rfl) :
    PE X (.Call (.Name x p) (e :: es) [] pos) (tMake C sp [] E t) := by
  obtain ⟨f, fd, F, hm, g, b⟩ := d.ex
  exact pe_make hm F hr hg g b .nil hx ha hdb he hpl
end
/-! ### readings -/
def rFld (K : PySem.W.Frag) (f : Str) (x : V) (H : Hp) (Q : VK) : Prop := ∃ a C dx fs v, x = .ref a ∧ H a = some (.ins C dx fs) ∧ Cls K C ∧ NoAttr K C f ∧ fs.lookup f = some v ∧ Q v H
def rFst (K : PySem.W.Frag) (f : Str) (y : V) (σ : L2.St) (N : L2.St → Hp → Prop) (x : V) (H : Hp) : Prop := ∃ a C dx fs, x = .ref a ∧ H a = some (.ins C dx fs) ∧ Cls K C ∧ NoAttr K C f ∧ fs.length < 1000 ∧ N σ (upd H a (.ins C dx (putF f y fs)))
def rMth (C : Addr) (m : Str) (sp : Sp) (E : XK) (σ : L2.St) (t : TA) (Q : VK) (x : V) (H : Hp) : Prop := ∃ a dx fs, x = .ref a ∧ H a = some (.ins C dx fs) ∧ fs.lookup m = none ∧ t σ H fun vs H2 => sp (x :: vs) H2 Q E
def rMk (C : Addr) (sp : Sp) (E : XK) (Q : VK) (vs : List V) (H : Hp) : Prop := ∀ x dx, H x = none → H dx = none → dx ≠ x → sp (.ref x :: (vs ++ [])) (upd (upd H dx (.own x)) x (.ins C dx [])) (fun v H2 => v = .non ∧ Q (.ref x) H2) E
section
variable {K : PySem.W.Frag} {mg : Str → Option Value} {σ : L2.St} {H : Hp} {D : Ends} {Q : VK} {N : L2.St → Hp → Prop} {ta tv : TE} {t : TA} {f m x : Str} {a C dx : Addr} {fs : List (Str × V)} {ff : List Str} {v y : V} {sp : Sp} {E : XK}
theorem r_fld (h : ta σ H fun x H1 => rFld K f x H1 Q) : tFld K ta f σ H Q := h
theorem r_rfld (h : H a = some (.ins C dx fs)) (c : OC K mg x C ff) (hf : f ∈ ff) (l : fs.lookup f = some v) (q : Q v H) : rFld K f (.ref a) H Q := ⟨a, C, dx, fs, v, rfl, h, c.cl, c.na f hf, l, q⟩
theorem r_fst (h : tv σ H fun y H1 => ta σ H1 fun x H2 => rFst K f y σ D.nx x H2) : sFld K ta tv f D σ H := h
theorem r_rfst (h : H a = some (.ins C dx fs)) (c : OC K mg x C ff) (hf : f ∈ ff) (l : fs.length < 1000) (q : ∀ H2, ExB a H H2 → H2 a = some (.ins C dx (putF f y fs)) → N σ H2) : rFst K f y σ N (.ref a) H :=
  ⟨a, C, dx, fs, rfl, h, c.cl, c.na f hf, l, q _ (fun b o n e => by rw [upd_ne n]; exact e) upd_same⟩
theorem r_mth (h : ta σ H fun x H1 => rMth C m sp E σ t Q x H1) : tMeth C m sp [] E ta t σ H Q := by
  refine Eq.mp ?_ h
  unfold tMeth rMth
  simp only [List.append_nil]
theorem r_rmth (h : H a = some (.ins C dx fs)) (l : fs.lookup m = none) (q : t σ H fun vs H2 => sp (.ref a :: vs) H2 Q E) : rMth C m sp E σ t Q (.ref a) H := ⟨a, dx, fs, rfl, h, l, q⟩
theorem r_make (h : t σ H fun vs H1 => rMk C sp E Q vs H1) : tMake C sp [] E t σ H Q := h
/-- a new object: __init__ is handed it, empty -/
theorem r_rmk {vs : List V} (h : ∀ x dx H2, H x = none → H dx = none → dx ≠ x → Ex H H2 → H2 x = some (.ins C dx []) → sp (.ref x :: vs) H2 (fun v H3 => v = .non ∧ Q (.ref x) H3) E) : rMk C sp E Q vs H := fun x dx nx nd ne => by
  have e : Ex H (upd (upd H dx (.own x)) x (.ins C dx [])) := fun b o hb => by
    rw [upd_ne (ne_of_none hb nx), upd_ne (ne_of_none hb nd)]
    exact hb
  rw [List.append_nil]
  exact h x dx _ nx nd ne e upd_same
end
/-- a statement that is never reached -/
theorem ps_dead {X : Cx} {st : Stmt} : PS X st (fun _ _ _ => False) := ⟨fun _ _ _ _ _ _ h => h.elim⟩
theorem pe_dead {X : Cx} {e : Expr} : PE X e (fun _ _ _ => False) := ⟨fun _ _ _ _ _ _ h => h.elim⟩
def rPar (i j : Nat) (N : L2.St → Hp → Prop) (σ : L2.St) (vs : List V) (H : Hp) : Prop := ∃ v w, vs = [v, w] ∧ N ((σ.set i (some v)).set j (some w)) H
theorem r_par {i j : Nat} {ta : TA} {D : Ends} {σ : L2.St} {H : Hp} (h : ta σ H fun vs H1 => rPar i j D.nx σ vs H1) : tPar i j ta D σ H := h
theorem r_rpar {i j : Nat} {N : L2.St → Hp → Prop} {σ : L2.St} {H : Hp} {v w : V} (h : N ((σ.set i (some v)).set j (some w)) H) : rPar i j N σ [v, w] H := ⟨v, w, rfl, h⟩
/-! ### o.append(e), o any expression -/
def rBMr (K : PySem.W.Frag) (r : V → List V → Hp → VK → Prop) (t : TA) (Q : VK) (σ : L2.St) (x : V) (H : Hp) : Prop := tyV K "list" x H ∧ t σ H fun xs H2 => r x xs H2 Q
section
variable {K : PySem.W.Frag} {σ : L2.St} {H : Hp} {Q : VK} {to : TE} {t : TA} {r : V → List V → Hp → VK → Prop} {p : Addr} {xs : List V}
theorem r_bmG (h : to σ H fun x H1 => rBMr K r t Q σ x H1) : tBM K "list" r to t σ H Q := h
theorem r_bmR (h : SqL K H p xs) (q : t σ H fun vs H2 => r (.ref p) vs H2 Q) : rBMr K r t Q σ (.ref p) H := ⟨.inl ⟨rfl, _, h⟩, q⟩
end
end Lay
/-! lists of references: rows of pairs; data of any shape compared; comprehensions with any target and a filter -/
namespace Lay
open PySem PySem.Spec PyProof.Rows L2 Evl
/-! ### data -/
mutual
theorem Dp.ex {K : PySem.W.Frag} {H H' : Hp} (e : Ex H H') : ∀ (d : PyData) (v : V), Dp K H v d → Dp K H' v d
  | .none, _, h => by cases h; exact .non
  | .bool b, _, h => by cases h; exact .bl b
  | .int i, _, h => by cases h; exact .int i
  | .str x, _, h => by cases h; exact .str x
  | .list ds, _, h => by
    cases h with
    | lst hs ha => exact .lst (ex_l e hs) (Dp.exAll e ds _ ha)
  | .tuple ds, _, h => by
    cases h with
    | tup hs ha => exact .tup (ex_t e hs) (Dp.exAll e ds _ ha)
  | .dict _, _, h => by cases h
theorem Dp.exAll {K : PySem.W.Frag} {H H' : Hp} (e : Ex H H') : ∀ (ds : List PyData) (vs : List V), DpAll K H vs ds → DpAll K H' vs ds
  | [], _, h => by cases h; exact .nil
  | d :: ds, _, h => by
    cases h with
    | cons h1 h2 => exact .cons (Dp.ex e d _ h1) (Dp.exAll e ds _ h2)
end
theorem DpAll.snoc {K : PySem.W.Frag} {H : Hp} {v : V} {d : PyData} (h : Dp K H v d) : ∀ {vs : List V} {ds : List PyData}, DpAll K H vs ds → DpAll K H (vs ++ [v]) (ds ++ [d])
  | _, _, .nil => .cons h .nil
  | _, _, .cons a r => .cons a (DpAll.snoc h r)
theorem DpAll.len {K : PySem.W.Frag} {H : Hp} : ∀ {vs : List V} {ds : List PyData}, DpAll K H vs ds → vs.length = ds.length
  | _, _, .nil => rfl
  | _, _, .cons a r => congrArg (· + 1) (DpAll.len r)
/-- flat data -/
def Fl (d : PyData) : Prop := d.canLay0 = true ∧ d.depth ≤ 3
theorem fl_all : ∀ {ds : List PyData}, (∀ d ∈ ds, Fl d) → PyData.canLayAll0 ds = true ∧ PyData.depthAll ds ≤ 3
  | [], _ => ⟨rfl, by simp [PyData.depthAll]⟩
  | d :: ds, h => by
    have a := h d List.mem_cons_self
    have b := fl_all fun x hx => h x (List.mem_cons_of_mem _ hx)
    refine ⟨?_, ?_⟩
    · simp only [PyData.canLayAll0, a.1, b.1, Bool.and_self]
    · simp only [PyData.depthAll]
      have := a.2
      have := b.2
      omega
theorem sh_fl {ds : List PyData} (h : ∀ d ∈ ds, Fl d) : SeqAt.shaped (.list ds) = true := by
  have a := fl_all h
  refine shape_of ?_ ?_
  · simp only [PyData.canLay0]
    exact a.1
  · simp only [PyData.depth]
    omega
theorem eqv_nil (ds : List PyData) : PyData.eqv (.list ds) (.list []) = decide (ds = []) := by
  cases ds with
  | nil => simp [PyData.eqv, PyData.eqvAll]
  | cons d ds => simp [PyData.eqv, PyData.eqvAll]
section
variable {K : PySem.W.Frag} {H : Hp} {Q : VK} {p q : Addr} {ds : List PyData} {xs : List V} {v : V} {i : Int}
theorem r_neNil (h1 : Dp K H (.ref p) (.list ds)) (hf : ∀ d ∈ ds, Fl d) (h2 : SqL K H q []) (k : Q (.bl (!decide (ds = []))) H) : rNeD K (.ref p) (.ref q) H Q :=
  r_neD h1 (.lst h2 .nil) (sh_fl hf) (sh_fl fun _ z => (List.not_mem_nil z).elim) (by rw [eqv_nil]; exact k)
theorem r_eqNil (h1 : Dp K H (.ref p) (.list ds)) (hf : ∀ d ∈ ds, Fl d) (h2 : SqL K H q []) (k : Q (.bl (decide (ds = []))) H) : rEqD K (.ref p) (.ref q) H Q :=
  r_eqD h1 (.lst h2 .nil) (sh_fl hf) (sh_fl fun _ z => (List.not_mem_nil z).elim) (by rw [eqv_nil]; exact k)
/-- x != None of a list or a tuple -/
theorem r_neNon {d : PyData} (h1 : Dp K H v d) (hs : SeqAt.shaped d = true) (hn : PyData.eqv d .none = false) (k : Q (.bl true) H) : rNeD K v .non H Q :=
  r_neD h1 .non hs rfl (by rw [hn]; exact k)
end
/-! ### isinstance of own classes -/
structure OI (K : PySem.W.Frag) (C : Addr) : Prop where
  ha : PySem.W.findIn K (.ref C) "__class__" = some (some (.builtin "object.__class__"))
  hn : PySem.W.specialIn K (.builtin "object.__class__") "__get__" = some (some (.builtin "getset_descriptor.__get__"))
  htk : PySem.W.takesIn K (.builtin "object.__class__") = some true
  hm : PySem.W.mroIn K C (.type "object") = some true
theorem r_isO {K : PySem.W.Frag} {mg : Str → Option Value} {x : Str} {ff : List Str} {H : Hp} {Q : VK} {a C C2 dx : Addr} {fs : List (Str × V)} {b : Bool} (h : H a = some (.ins C dx fs)) (c : OC K mg x C ff) (o : OI K C)
    (k : PySem.W.kitOne K (.ref C) (.ref C2) = some b) (q : Q (.bl b) H) : rIsi K [.ref a, .ref C2] H Q := ⟨.ref a, .ref C2, .ref C, .ref C2, b, rfl, .own C2, .base (.ins h c.cl o.ha o.hn o.htk o.hm), k, q⟩
/-! ### a list or a tuple is no object -/
theorem exb_lI {K : PySem.W.Frag} {l C dx : Addr} {fs : List (Str × V)} {H H' : Hp} {a : Addr} {xs : List V} (e : ExB l H H') (hl : H l = some (.ins C dx fs)) (h : SqL K H a xs) : SqL K H' a xs := by
  rcases h with (h | ⟨o, h⟩) | h
  · exact .inl (.inl (e _ _ (fun z => by rw [z, hl] at h; cases h) h))
  · exact .inl (.inr ⟨o, e _ _ (fun z => by rw [z, hl] at h; cases h) h⟩)
  · exact .inr h
theorem int_at {ns : List Int} {i : Nat} {x : V} (h : (ns.map V.int)[i]? = some x) : ∃ hi : i < ns.length, x = .int ns[i] := by
  rw [List.getElem?_map] at h
  cases e : ns[i]? with
  | none =>
    rw [e] at h
    cases h
  | some z =>
    rw [e] at h
    cases h
    obtain ⟨hi, q⟩ := List.getElem?_eq_some_iff.mp e
    exact ⟨hi, by rw [q]⟩
theorem gi_range {f : Nat → Int} {n : Nat} {i : Int} (h0 : 0 ≤ i) (h1 : i < n) : gi ((List.range n).map f) i = f i.toNat := by
  unfold gi
  rw [List.getD_eq_getElem?_getD, List.getElem?_map, List.getElem?_range (by omega)]
  rfl
theorem take_snoc {ns : List Int} {i : Nat} (h : i < ns.length) : ns.take i ++ [ns[i]] = ns.take (i + 1) := (List.take_succ_eq_append_getElem h).symm
theorem take_sum {ns : List Int} {i : Nat} (h : i < ns.length) : (ns.take i).sum + ns[i] = (ns.take (i + 1)).sum := by
  rw [List.take_succ_eq_append_getElem h, List.sum_append]
  simp
/-! ### lists of references -/
def ga (ps : List Addr) (i : Int) : Addr := ps.getD i.toNat 0
theorem atI_ga {ps : List Addr} {i : Int} (h0 : 0 ≤ i) (h1 : i < ps.length) : atI (ps.map V.ref) i = some (.ref (ga ps i)) := by
  obtain ⟨j, rfl⟩ : ∃ j : Nat, i = (j : Int) := ⟨i.toNat, by omega⟩
  have hj : j < ps.length := by omega
  refine atI_nat ?_
  rw [List.getElem?_map]
  unfold ga
  rw [Int.toNat_natCast, List.getD_eq_getElem?_getD, List.getElem?_eq_getElem hj]
  rfl
theorem ga_at {ps : List Addr} {i : Nat} {x : V} (h : (ps.map V.ref)[i]? = some x) : x = .ref (ga ps i) ∧ i < ps.length := by
  rw [List.getElem?_map] at h
  cases e : ps[i]? with
  | none =>
    rw [e] at h
    cases h
  | some z =>
    rw [e] at h
    cases h
    refine ⟨?_, (List.getElem?_eq_some_iff.mp e).1⟩
    unfold ga
    rw [Int.toNat_natCast, List.getD_eq_getElem?_getD, e]
    rfl
/-- pairs of ints -/
abbrev Prs := List (Int × Int)
def zl (sp : Prs) (i : Int) : Int := (sp.getD i.toNat (0, 0)).1
def zh (sp : Prs) (i : Int) : Int := (sp.getD i.toNat (0, 0)).2
/-- at a stands a list of these pairs -/
def PrL (K : PySem.W.Frag) (H : Hp) (a : Addr) (ps : List Addr) (sp : Prs) : Prop :=
  SqL K H a (ps.map V.ref) ∧ ps.length = sp.length ∧ ∀ i : Int, 0 ≤ i → i < sp.length → H (ga ps i) = some (.tup [.int (zl sp i), .int (zh sp i)])
theorem PrL.ex {K : PySem.W.Frag} {H H2 : Hp} {a : Addr} {ps : List Addr} {sp : Prs} (h : PrL K H a ps sp) (e : Ex H H2) : PrL K H2 a ps sp :=
  ⟨ex_l e h.1, h.2.1, fun i h0 h1 => e _ _ (h.2.2 i h0 h1)⟩
theorem PrL.exb {K : PySem.W.Frag} {H H2 : Hp} {a l : Addr} {ps : List Addr} {sp : Prs} (h : PrL K H a ps sp) (e : ExB l H H2) (n : a ≠ l) (nt : ∀ xs, H l ≠ some (.tup xs)) : PrL K H2 a ps sp :=
  ⟨exb_l e n h.1, h.2.1, fun i h0 h1 => e _ _ (fun z => nt _ (by rw [← z]; exact h.2.2 i h0 h1)) (h.2.2 i h0 h1)⟩
/-- one pair more at the list's end -/
theorem ga_snoc {ps : List Addr} {p : Addr} {i : Int} (h0 : 0 ≤ i) (h : i < ps.length) : ga (ps ++ [p]) i = ga ps i := by
  unfold ga
  rw [List.getD_eq_getElem?_getD, List.getD_eq_getElem?_getD, List.getElem?_append_left (by omega)]
theorem ga_last {ps : List Addr} {p : Addr} {i : Int} (h : i = ps.length) : ga (ps ++ [p]) i = p := by
  unfold ga
  rw [h, Int.toNat_natCast, List.getD_eq_getElem?_getD, List.getElem?_append_right (Nat.le_refl _), Nat.sub_self]
  rfl
theorem gd_snoc {sp : Prs} {p : Int × Int} {i : Int} (h0 : 0 ≤ i) (h : i < sp.length) : (sp ++ [p]).getD i.toNat (0, 0) = sp.getD i.toNat (0, 0) := by
  rw [List.getD_eq_getElem?_getD, List.getD_eq_getElem?_getD, List.getElem?_append_left (by omega)]
theorem gd_last {sp : Prs} {p : Int × Int} {i : Int} (h : i = sp.length) : (sp ++ [p]).getD i.toNat (0, 0) = p := by
  rw [h, Int.toNat_natCast, List.getD_eq_getElem?_getD, List.getElem?_append_right (Nat.le_refl _), Nat.sub_self]
  rfl
theorem snoc_at {H2 : Hp} {t : Addr} {ps : List Addr} {sp : Prs} {lo hi : Int} (hl : ps.length = sp.length) (ht : ∀ i : Int, 0 ≤ i → i < sp.length → H2 (ga ps i) = some (.tup [.int (zl sp i), .int (zh sp i)]))
    (hp : H2 t = some (.tup [.int lo, .int hi])) (i : Int) (h0 : 0 ≤ i) (h1 : i < (sp ++ [(lo, hi)]).length) : H2 (ga (ps ++ [t]) i) = some (.tup [.int (zl (sp ++ [(lo, hi)]) i), .int (zh (sp ++ [(lo, hi)]) i)]) := by
  rw [List.length_append] at h1
  change i < ((sp.length + 1 : Nat) : Int) at h1
  by_cases c : i < sp.length
  · rw [ga_snoc h0 (by omega)]
    unfold zl zh
    rw [gd_snoc h0 c]
    exact ht i h0 c
  · rw [ga_last (by omega)]
    unfold zl zh
    rw [gd_last (by omega)]
    exact hp
section
variable {K : PySem.W.Frag} {σ : L2.St} {H : Hp} {D : Ends} {g : TG} {tb : TS} {te : TE} {tt : TT} {Q : VK} {a p : Addr} {xs : List V} {ns : List Int} {m : Nat} {vs : List Nat} {i j : Int} {ps : List Addr} {sp : Prs} {v : V}
theorem r_ixP (h : PrL K H p ps sp) (h0 : 0 ≤ i) (h1 : i < sp.length) (q : H (ga ps i) = some (.tup [.int (zl sp i), .int (zh sp i)]) → Q (.ref (ga ps i)) H) : rIxL K (.ref p) (.int i) H Q :=
  r_ixL h.1 (atI_ga h0 (by rw [h.2.1]; exact h1)) (q (h.2.2 i h0 h1))
theorem r_lenP (h : PrL K H p ps sp) (q : Q (.int sp.length) H) : rLen K [.ref p] H Q := r_len h.1 (by rw [List.length_map, h.2.1]; exact q)
theorem r_listP (h : PrL K H p ps sp) (k : ∀ p2 H2, H p2 = none → Ex H H2 → PrL K H2 p2 ps sp → H2 p2 = some (.lst (ps.map V.ref)) → Q (.ref p2) H2) : rList K [.ref p] H Q :=
  r_list h.1 fun p2 H2 n e h2 => k p2 H2 n e ⟨L2.SqL.of h2, h.2.1, fun i h0 h1 => e _ _ (h.2.2 i h0 h1)⟩ h2
/-- for x in pairs -/
theorem forP (hx : PrL K H a ps sp) (Pv : Nat → L2.St → Hp → Prop) (h0 : Pv 0 σ H) (hl : ∀ i s h, i ≤ sp.length → Pv i s h → SqL K h a (ps.map V.ref))
    (hs : ∀ (i : Nat) s h, i < sp.length → Pv i s h → g (.ref (ga ps i)) s h fun s2 h2 => tb ⟨Pv (i + 1), D.rt, D.nx, Pv (i + 1)⟩ s2 h2) (hd : ∀ s h, Pv sp.length s h → D.nx s h) : ItL K (.ref a) H (ForW g tb D σ) := by
  refine forL hx.1 Pv h0 (fun i s h hi q => hl i s h (by rw [List.length_map, hx.2.1] at hi; exact hi) q) (fun i x s h hi q => ?_) (fun s h q => hd s h (by rw [List.length_map, hx.2.1] at q; exact q))
  obtain ⟨rfl, hj⟩ := ga_at hi
  exact hs i s h (by rw [← hx.2.1]; exact hj) q
/-- a comprehension with any target -/
theorem lcLG (hx : SqL K H a xs) (Pv : Addr → Nat → Hp → Prop) (h0 : ∀ p h, H p = none → Ex H h → h p = some (.lst []) → Pv p 0 h) (hl : ∀ p i h, i ≤ xs.length → Pv p i h → SqL K h a xs)
    (hs : ∀ p (i : Nat) x h, xs[i]? = some x → Pv p i h → g x (wipe σ vs) h fun σ2 h2 => wipe σ2 vs = wipe σ vs ∧ tt σ2 h2 fun b h3 => if b = true then te σ2 h3 (AppW p (Pv p (i + 1))) else Pv p (i + 1) h3)
    (hd : ∀ p h, Pv p xs.length h → Q (.ref p) h) : ItL K (.ref a) H (LcW g tt te vs σ Q) :=
  ⟨a, rfl, ⟨xs, hx⟩, fun p hp => lc_list (K := K) (a := a) (xs := xs) (Pv p) (h0 p _ hp (Ex.new hp) upd_same) (fun i h hi q => hl p i h hi q) (fun i x h hi q => hs p i x h hi q) (hd p)⟩
theorem lcP (hx : PrL K H a ps sp) (Pv : Addr → Nat → Hp → Prop) (h0 : ∀ p h, H p = none → Ex H h → h p = some (.lst []) → Pv p 0 h) (hl : ∀ p i h, i ≤ sp.length → Pv p i h → SqL K h a (ps.map V.ref))
    (hs : ∀ p (i : Nat) h, i < sp.length → Pv p i h → g (.ref (ga ps i)) (wipe σ vs) h fun σ2 h2 => wipe σ2 vs = wipe σ vs ∧ tt σ2 h2 fun b h3 => if b = true then te σ2 h3 (AppW p (Pv p (i + 1))) else Pv p (i + 1) h3)
    (hd : ∀ p h, Pv p sp.length h → Q (.ref p) h) : ItL K (.ref a) H (LcW g tt te vs σ Q) := by
  refine lcLG hx.1 Pv h0 (fun p i h hi q => hl p i h (by rw [List.length_map, hx.2.1] at hi; exact hi) q) (fun p i x h hi q => ?_) (fun p h q => hd p h (by rw [List.length_map, hx.2.1] at q; exact q))
  obtain ⟨rfl, hj⟩ := ga_at hi
  exact hs p i h (by rw [← hx.2.1]; exact hj) q
theorem r_yesC {P : Prop} {h3 : Hp} {K1 : VK} {B : Hp → Prop} (hp : P) (h : te σ h3 K1) : P ∧ tYes σ h3 fun b h3 => if b = true then te σ h3 K1 else B h3 := ⟨hp, yesL h⟩
theorem r_listRg (h : te σ H fun x H1 => NewL [] H1 Q) : te σ H fun x H1 => NewL [] H1 Q := h
end
/-! ### texts compared -/
theorem dS {a b : Str} : decide (V.str a = V.str b) = decide (a = b) := by
  by_cases e : a = b
  · rw [e]
    simp
  · rw [decide_eq_false e, decide_eq_false (fun h => e (V.str.inj h))]
section
variable {H : Hp} {Q : VK} {a b : Str}
theorem r_eqS (h : Q (.bl (decide (a = b))) H) : rEq (.str a) (.str b) H Q := ⟨rfl, by rw [dS]; exact h⟩
theorem r_neS (h : Q (.bl (!decide (a = b))) H) : rNe (.str a) (.str b) H Q := ⟨rfl, by rw [dS]; exact h⟩
end
/-! ### a list of pairs as it grows -/
def PB (h : Hp) (l : Addr) (qs : List Addr) (sp : Prs) : Prop := h l = some (.lst (qs.map V.ref)) ∧ qs.length = sp.length ∧ ∀ i : Int, 0 ≤ i → i < sp.length → h (ga qs i) = some (.tup [.int (zl sp i), .int (zh sp i)])
theorem PB.nil {h : Hp} {l : Addr} (hl : h l = some (.lst [])) : PB h l [] [] := ⟨hl, rfl, fun i a b => absurd b (by show ¬ i < 0; omega)⟩
theorem PB.ex {h h2 : Hp} {l : Addr} {qs : List Addr} {sp : Prs} (b : PB h l qs sp) (e : Ex h h2) : PB h2 l qs sp := ⟨e _ _ b.1, b.2.1, fun i h0 h1 => e _ _ (b.2.2 i h0 h1)⟩
theorem PB.exb {h h2 : Hp} {l p : Addr} {qs : List Addr} {sp : Prs} (b : PB h l qs sp) (e : ExB p h h2) (n : l ≠ p) (nt : ∀ xs, h p ≠ some (.tup xs)) : PB h2 l qs sp :=
  ⟨e _ _ n b.1, b.2.1, fun i h0 h1 => e _ _ (fun z => nt _ (by rw [← z]; exact b.2.2 i h0 h1)) (b.2.2 i h0 h1)⟩
theorem Pur.nt {h : Hp} {p : Addr} (hp : Pur h p) : ∀ xs, h p ≠ some (.tup xs) := fun xs z => by
  obtain ⟨a, b, c, hp⟩ := hp
  rw [hp] at z
  cases z
theorem PB.pr {K : PySem.W.Frag} {h : Hp} {l : Addr} {qs : List Addr} {sp : Prs} (b : PB h l qs sp) : PrL K h l qs sp := ⟨L2.SqL.of b.1, b.2⟩
theorem PB.put {h h1 H5 : Hp} {l t : Addr} {qs : List Addr} {sp : Prs} {lo hi : Int} (b : PB h l qs sp) (e : Ex h h1) (ht : h1 t = some (.tup [.int lo, .int hi])) (e5 : ExB l h1 H5) (h5 : H5 l = some (.lst (qs.map V.ref ++ [.ref t]))) : PB H5 l (qs ++ [t]) (sp ++ [(lo, hi)]) := by
  have hl := e _ _ b.1
  refine ⟨by rw [List.map_append]; exact h5, by rw [List.length_append, List.length_append, b.2.1]; rfl, snoc_at b.2.1 (fun i h0 h1' => ?_) (e5 _ _ (fun y => by rw [y, hl] at ht; cases ht) ht)⟩
  have z := e _ _ (b.2.2 i h0 h1')
  exact e5 _ _ (fun y => by rw [y, hl] at z; cases z) z
theorem PB.app {h h1 : Hp} {l t : Addr} {qs : List Addr} {sp : Prs} {lo hi : Int} {Q : VK} (b : PB h l qs sp) (lt : qs.length < 100000) (e : Ex h h1) (ht : h1 t = some (.tup [.int lo, .int hi]))
    (q : ∀ H5, ExB l h1 H5 → PB H5 l (qs ++ [t]) (sp ++ [(lo, hi)]) → Q .non H5) : rAppend (.ref l) [.ref t] h1 Q :=
  r_app (e _ _ b.1) (by rw [List.length_map]; exact lt) fun H5 e5 h5 _ => q H5 e5 (b.put e ht e5 h5)
theorem PB.appW {h h1 : Hp} {l t : Addr} {qs : List Addr} {sp : Prs} {lo hi : Int} {N : Hp → Prop} (b : PB h l qs sp) (lt : qs.length < 100000) (e : Ex h h1) (ht : h1 t = some (.tup [.int lo, .int hi]))
    (q : ∀ H5, ExB l h1 H5 → PB H5 l (qs ++ [t]) (sp ++ [(lo, hi)]) → N H5) : AppW l N (.ref t) h1 :=
  Lay.appW (e _ _ b.1) (by rw [List.length_map]; exact lt) fun H5 e5 h5 => q H5 e5 (b.put e ht e5 h5)
theorem ga_app {ps qs : List Addr} {i : Int} (h0 : 0 ≤ i) : ga (ps ++ qs) i = if i < ps.length then ga ps i else ga qs (i - ps.length) := by
  unfold ga
  split
  · rw [List.getD_eq_getElem?_getD, List.getD_eq_getElem?_getD, List.getElem?_append_left (by omega)]
  · rw [List.getD_eq_getElem?_getD, List.getD_eq_getElem?_getD, List.getElem?_append_right (by omega)]
    congr 2
    omega
theorem gd_app {ps qs : Prs} {i : Int} (h0 : 0 ≤ i) : (ps ++ qs).getD i.toNat (0, 0) = if i < ps.length then ps.getD i.toNat (0, 0) else qs.getD (i - ps.length).toNat (0, 0) := by
  split
  · rw [List.getD_eq_getElem?_getD, List.getD_eq_getElem?_getD, List.getElem?_append_left (by omega)]
  · rw [List.getD_eq_getElem?_getD, List.getD_eq_getElem?_getD, List.getElem?_append_right (by omega)]
    congr 2
    omega
theorem PB.cat {h : Hp} {l m : Addr} {qs rs : List Addr} {sp tp : Prs} {Q : VK} (b : PB h l qs sp) (c : PB h m rs tp) (lt : qs.length + rs.length ≤ 100000)
    (q : ∀ p2 H2, h p2 = none → Ex h H2 → PB H2 p2 (qs ++ rs) (sp ++ tp) → Q (.ref p2) H2) : rCat (.ref l) (.ref m) h Q :=
  r_cat b.1 c.1 (by rw [List.length_map, List.length_map]; exact lt) fun p2 H2 n e h2 => q p2 H2 n e ⟨by rw [List.map_append]; exact h2, by rw [List.length_append, List.length_append, b.2.1, c.2.1], fun i h0 h1 => by
    rw [List.length_append] at h1
    unfold zl zh
    rw [ga_app h0, gd_app h0, b.2.1]
    by_cases k : i < sp.length
    · rw [if_pos k, if_pos k]
      exact e _ _ (b.2.2 i h0 k)
    · rw [if_neg k, if_neg k]
      exact e _ _ (c.2.2 (i - sp.length) (by omega) (by omega))⟩
/-! ### a list of triples as it grows -/
def T3 (h : Hp) (t : Addr) : Prop := ∃ (a b : Int) (c : V), ((∃ k, c = .bl k) ∨ ∃ z, c = .int z) ∧ h t = some (.tup [.int a, .int b, c])
def TB (h : Hp) (l : Addr) (ts : List Addr) : Prop := h l = some (.lst (ts.map V.ref)) ∧ ∀ t ∈ ts, T3 h t
theorem TB.nil {h : Hp} {l : Addr} (hl : h l = some (.lst [])) : TB h l [] := ⟨hl, fun _ z => (List.not_mem_nil z).elim⟩
theorem T3.ex {h h2 : Hp} {t : Addr} (b : T3 h t) (e : Ex h h2) : T3 h2 t := by
  obtain ⟨a, b, c, k, z⟩ := b
  exact ⟨a, b, c, k, e _ _ z⟩
theorem TB.ex {h h2 : Hp} {l : Addr} {ts : List Addr} (b : TB h l ts) (e : Ex h h2) : TB h2 l ts := ⟨e _ _ b.1, fun t m => (b.2 t m).ex e⟩
theorem TB.put {h h1 H5 : Hp} {l t : Addr} {ts : List Addr} (b : TB h l ts) (e : Ex h h1) (ht : T3 h1 t) (e5 : ExB l h1 H5) (h5 : H5 l = some (.lst (ts.map V.ref ++ [.ref t]))) : TB H5 l (ts ++ [t]) := by
  have hl := e _ _ b.1
  have key : ∀ u, T3 h1 u → T3 H5 u := fun u ⟨a, b, c, k, z⟩ => ⟨a, b, c, k, e5 _ _ (fun y => by rw [y, hl] at z; cases z) z⟩
  refine ⟨by rw [List.map_append]; exact h5, fun u m => ?_⟩
  rcases List.mem_append.mp m with m | m
  · exact key u ((b.2 u m).ex e)
  · rw [List.mem_singleton.mp m]
    exact key t ht
theorem TB.app {h h1 : Hp} {l t : Addr} {ts : List Addr} {Q : VK} (b : TB h l ts) (lt : ts.length < 100000) (e : Ex h h1) (ht : T3 h1 t) (q : ∀ H5, ExB l h1 H5 → TB H5 l (ts ++ [t]) → Q .non H5) : rAppend (.ref l) [.ref t] h1 Q :=
  r_app (e _ _ b.1) (by rw [List.length_map]; exact lt) fun H5 e5 h5 _ => q H5 e5 (b.put e ht e5 h5)
theorem TB.appW {h h1 : Hp} {l t : Addr} {ts : List Addr} {N : Hp → Prop} (b : TB h l ts) (lt : ts.length < 100000) (e : Ex h h1) (ht : T3 h1 t) (q : ∀ H5, ExB l h1 H5 → TB H5 l (ts ++ [t]) → N H5) : AppW l N (.ref t) h1 :=
  Lay.appW (e _ _ b.1) (by rw [List.length_map]; exact lt) fun H5 e5 h5 => q H5 e5 (b.put e ht e5 h5)
theorem dp_t3 {K : PySem.W.Frag} {h : Hp} {t : Addr} (b : T3 h t) : ∃ d, Dp K h (.ref t) d ∧ Fl d := by
  obtain ⟨a, b, c, k | k, z⟩ := b
  · obtain ⟨k, rfl⟩ := k
    exact ⟨_, .tup (L2.SqT.of z) (.cons (.int a) (.cons (.int b) (.cons (.bl k) .nil))), by simp [PyData.canLay0, PyData.canLayAll0], by simp [PyData.depth, PyData.depthAll]⟩
  · obtain ⟨k, rfl⟩ := k
    exact ⟨_, .tup (L2.SqT.of z) (.cons (.int a) (.cons (.int b) (.cons (.int k) .nil))), by simp [PyData.canLay0, PyData.canLayAll0], by simp [PyData.depth, PyData.depthAll]⟩
theorem dp_t3s {K : PySem.W.Frag} {h : Hp} : ∀ {ts : List Addr}, (∀ t ∈ ts, T3 h t) → ∃ ds, DpAll K h (ts.map V.ref) ds ∧ (∀ d ∈ ds, Fl d) ∧ (ds = [] ↔ ts = [])
  | [], _ => ⟨[], .nil, fun _ z => (List.not_mem_nil z).elim, Iff.rfl.trans (by simp)⟩
  | t :: ts, b => by
    obtain ⟨d, h1, h2⟩ := dp_t3 (K := K) (b t List.mem_cons_self)
    obtain ⟨ds, g1, g2, _⟩ := dp_t3s (K := K) fun u m => b u (List.mem_cons_of_mem _ m)
    refine ⟨d :: ds, .cons h1 g1, fun e m => ?_, by simp⟩
    rcases List.mem_cons.mp m with r | m
    · rw [r]; exact h2
    · exact g2 e m
theorem r_neT3 {K : PySem.W.Frag} {h : Hp} {Q : VK} {l q : Addr} {ts : List Addr} (b : TB h l ts) (hq : SqL K h q []) (k : Q (.bl (!decide (ts = []))) h) : rNeD K (.ref l) (.ref q) h Q := by
  obtain ⟨ds, d1, d2, d3⟩ := dp_t3s (K := K) b.2
  refine r_neNil (.lst (L2.SqL.of b.1) d1) d2 hq ?_
  have e : decide (ds = []) = decide (ts = []) := decide_eq_decide.mpr d3
  rw [e]
  exact k
theorem PB.one {h : Hp} {l t : Addr} {lo hi : Int} (hl : h l = some (.lst [.ref t])) (ht : h t = some (.tup [.int lo, .int hi])) : PB h l [t] [(lo, hi)] := by
  refine ⟨hl, rfl, fun i h0 h1 => ?_⟩
  have e : i = 0 := by
    have h1' : i < 1 := h1
    omega
  rw [e]
  exact ht
theorem zl_snoc {sp : Prs} {p : Int × Int} {i : Int} (h0 : 0 ≤ i) (h : i < sp.length) : zl (sp ++ [p]) i = zl sp i := by unfold zl; rw [gd_snoc h0 h]
theorem zh_snoc {sp : Prs} {p : Int × Int} {i : Int} (h0 : 0 ≤ i) (h : i < sp.length) : zh (sp ++ [p]) i = zh sp i := by unfold zh; rw [gd_snoc h0 h]
theorem zl_last {sp : Prs} {p : Int × Int} {i : Int} (h : i = sp.length) : zl (sp ++ [p]) i = p.1 := by unfold zl; rw [gd_last h]
theorem zh_last {sp : Prs} {p : Int × Int} {i : Int} (h : i = sp.length) : zh (sp ++ [p]) i = p.2 := by unfold zh; rw [gd_last h]
theorem zl_take {sp : Prs} {i : Int} {n : Nat} (h0 : 0 ≤ i) (h : i < n) : zl (sp.take n) i = zl sp i := by unfold zl; rw [List.getD_eq_getElem?_getD, List.getD_eq_getElem?_getD, List.getElem?_take_of_lt (by omega)]
theorem zh_take {sp : Prs} {i : Int} {n : Nat} (h0 : 0 ≤ i) (h : i < n) : zh (sp.take n) i = zh sp i := by unfold zh; rw [List.getD_eq_getElem?_getD, List.getD_eq_getElem?_getD, List.getElem?_take_of_lt (by omega)]
theorem ga_take {ps : List Addr} {i : Int} {n : Nat} (h0 : 0 ≤ i) (h : i < n) : ga (ps.take n) i = ga ps i := by unfold ga; rw [List.getD_eq_getElem?_getD, List.getD_eq_getElem?_getD, List.getElem?_take_of_lt (by omega)]
/-- pairs[:e] -/
theorem r_slPE {K : PySem.W.Frag} {H : Hp} {Q : VK} {p : Addr} {ps : List Addr} {sp : Prs} {e : Nat} {y : Int} (hP : PrL K H p ps sp) (hy : y = (e : Int)) (h1 : e ≤ sp.length)
    (q : ∀ p2 H2, H p2 = none → Ex H H2 → PB H2 p2 (ps.take e) (sp.take e) → Q (.ref p2) H2) : rSlL K (.ref p) none (some y) H Q := by
  refine r_slL hP.1 fun p2 H2 n ex h => q p2 H2 n ex ⟨?_, ?_, fun i h0 hi => ?_⟩
  · have c : cutV (ps.map V.ref) none (some y) = (ps.take e).map V.ref := by
      unfold cutV
      rw [hy, List.length_map, HT.sIx_nat, Nat.min_eq_left (by rw [hP.2.1]; exact h1)]
      show ((ps.map V.ref).drop 0).take (e - 0) = _
      rw [List.drop_zero, Nat.sub_zero, List.map_take]
    rw [c] at h
    exact h
  · rw [List.length_take, List.length_take, hP.2.1]
  · rw [List.length_take] at hi
    rw [ga_take h0 (by omega), zl_take h0 (by omega), zh_take h0 (by omega)]
    exact ex _ _ (hP.2.2 i h0 (by omega))
/-- a part is shown apart, with what is known of it -/
theorem r_KP {te : TE} {σ : L2.St} {H : Hp} {Q : VK} (P : Int → Prop) (h1 : ∀ Q' : VK, (∀ i H1, P i → Ex H H1 → Q' (.int i) H1) → te σ H Q') (h2 : ∀ i H1, P i → Ex H H1 → Q (.int i) H1) : te σ H Q := h1 Q h2
/-! ### list(range(..)) -/
def rRg1 (Q : VK) (x : V) (H1 : Hp) : Prop := ∃ n : Int, x = .int n ∧ RgOk 0 n ∧ ∀ q, H1 q = none → Q (.ref q) (upd H1 q (.lst (rgV 0 n)))
theorem r_lRg1 {ta : TE} {σ : L2.St} {H : Hp} {Q : VK} (h : ta σ H fun x H1 => rRg1 Q x H1) : tLstRg (tRg1 ta) σ H Q := h
theorem rg_ints (n : Int) : rgV 0 n = ((List.range n.toNat).map fun i : Nat => (i : Int)).map V.int := by
  unfold rgV
  rw [List.map_map, Int.sub_zero]
  refine List.map_congr_left fun i _ => ?_
  show V.int (0 + (i : Int)) = V.int i
  rw [Int.zero_add]
theorem r_rRg1 {H : Hp} {Q : VK} {n : Int} (h0 : 0 ≤ n) (h1 : n ≤ 1000000) (k : ∀ p H2, H p = none → Ex H H2 → H2 p = some (.lst (((List.range n.toNat).map fun i : Nat => (i : Int)).map V.int)) → Q (.ref p) H2) : rRg1 Q (.int n) H :=
  ⟨n, rfl, RgOk.of_le (by decide) (by omega) (by decide) h0, fun q hq => k q _ hq (Ex.new hq) (by rw [← rg_ints]; exact upd_same)⟩
/-- a statement is shown apart from what follows it -/
theorem r_cut {t : TS} {D : Ends} {σ : L2.St} {H : Hp} (P : L2.St → Hp → Prop) (h1 : ∀ N : L2.St → Hp → Prop, (∀ s h, P s h → N s h) → t ⟨N, D.rt, D.bk, D.ct⟩ σ H) (h2 : ∀ s h, P s h → D.nx s h) : t D σ H := h1 D.nx h2
/-- x = e, x is .non or a list of ints -/
def NonL (F h : Hp) (v : V) (P : Prop) (L : List Int) : Prop := (v = .non ∧ P) ∨ ∃ l, v = .ref l ∧ F l = none ∧ h l = some (.lst (L.map V.int)) ∧ ¬ P
/-! ### a def with defaults, all its parameters written -/
theorem binds_d {K : PySem.W.Frag} {fd : FuncData} {ps : List Str} {T : Addr} {o : Obj} {its : List Value} {n : Nat} (lT : K.lookup T = some o) (oT : o.data = .seq its.toArray n)
    (h : ∀ us : List Value, us.length = ps.length → ∃ k, bindArgs fd ⟨us, []⟩ = seqItems? (.ref T) >>= k ∧ k (some its.toArray) = pure (ps.zip us)) : Binds K fd ps [] := fun s us X hl => by
  rw [List.append_nil] at hl ⊢
  obtain ⟨k, e1, e2⟩ := h us hl
  refine L2.BindsTo.of_looks fun M => ?_
  rw [e1]
  exact L2.looks_items X lT oT (.of_pure e2)
end Lay
/-! lambdas without parameters handed to a def that calls them in a try; isinstance of caught errors with fields -/
namespace Lay
open PySem PySem.Spec PyProof.Rows L2 Evl
/-! ### isinstance of a caught error -/
structure XI (K : PySem.W.Frag) (C : Addr) : Prop where
  cl : (PySem.W.clsIn K C).isSome = true
  ga : PySem.W.findIn K (.ref C) "__getattribute__" = some (some (.builtin "BaseException.__getattribute__"))
  gg : PySem.W.findIn K (.ref C) "__getattr__" = some none
  sub : PySem.W.subIn K (.ref C) (.type "BaseException") = some true
  ha : PySem.W.findIn K (.ref C) "__class__" = some (some (.builtin "object.__class__"))
  hn : PySem.W.specialIn K (.builtin "object.__class__") "__get__" = some (some (.builtin "getset_descriptor.__get__"))
  ht : PySem.W.takesIn K (.builtin "object.__class__") = some true
  hm : PySem.W.mroIn K C (.type "object") = some true
def rIsX (K : PySem.W.Frag) (C a : Addr) (cls : Value) (d : Option Addr) : List V → Hp → VK → Prop := fun xs H Q => ∃ (c : V) (u : Value) (b : Bool) (dd : Addr) (fs : List (Str × V)), xs = [.ref a, c] ∧ cls = .ref C ∧ ClsV c u ∧ d = some dd ∧ H dd = some (.xd fs) ∧ PySem.W.kitOne K (.ref C) u = some b ∧ Q (.bl b) H
def rIsXT (K : PySem.W.Frag) (C a : Addr) (cls : Value) (d : Option Addr) : List V → Hp → VK → Prop := fun xs H Q => ∃ (tp : Addr) (cs : List V) (us : List Value) (b : Bool) (dd : Addr) (fs : List (Str × V)), xs = [.ref a, .ref tp] ∧ cls = .ref C ∧ H tp = some (.tup cs) ∧ Paired ClsV cs us ∧ d = some dd ∧ H dd = some (.xd fs) ∧ PySem.W.kitAny K (.ref C) us = some b ∧ Q (.bl b) H
section
variable {X : Cx} {a C : Addr} {oe : Obj} {cls : Value} {d : Option Addr} {pn : List (Addr × Obj)}
theorem inst_exc {pins : List (Addr × Obj)} {σ : L2.St} {H : Hp} {s : Shared} {fs : List (Str × V)} {dd : Addr} (I : Inv (X.suite a ((a, oe) :: pn)) pins σ H s) (hz : Zc (.ref C) (some dd) oe) (hf : ∃ vs, oe.data = .fields vs) (ea : H dd = some (.xd fs)) :
    ∃ od, PySem.W.InstAt s.heap a oe C (some od) := by
  obtain ⟨ha, _⟩ := I.pin (a, oe) (List.mem_append_left _ List.mem_cons_self)
  obtain ⟨vs, hd⟩ := hf
  have hx : ObjOk X.prog X.w H s.heap dd (.xd fs) := I.hok dd _ ea
  obtain ⟨mA, hns, hr⟩ := hx
  obtain ⟨od, ho, hl⟩ := lookIn_ns hns
  exact ⟨od, ha, hz.1, by unfold PySem.W.notCls; rw [hd] <;> rfl, by rw [hz.2]; exact ho⟩
theorem call_isX (T : XI X.K C) (hz : Zc cls d oe) (hf : ∃ vs, oe.data = .fields vs) : CallR (X.suite a ((a, oe) :: pn)) (.builtin "isinstance") (rIsX X.K C a cls d) := by
  intro pins s σ H xs us Q I r h
  obtain ⟨c, u, b, dd, fs, rfl, rfl, k, rfl, ea, e, q⟩ := h
  obtain ⟨u1, u2, rfl, r1, r2⟩ := vals2 r
  have e2 := k.eq r2
  subst e2
  cases (show u1 = Value.ref a from r1)
  obtain ⟨od, J⟩ := inst_exc I hz hf ea
  exact PySem.W.kia_one (PySem.W.kitx_exc T.cl T.ga T.gg T.sub T.ha T.hn T.ht T.hm) I.kIn J e (fun z => nomatch z) fun tk => ⟨.bl b, H, I.tok tk, rfl, q⟩
theorem call_isXT (T : XI X.K C) (hz : Zc cls d oe) (hf : ∃ vs, oe.data = .fields vs) : CallR (X.suite a ((a, oe) :: pn)) (.builtin "isinstance") (rIsXT X.K C a cls d) := by
  intro pins s σ H xs us Q I r h
  obtain ⟨tp, cs, ws, b, dd, fs, rfl, rfl, hT, k, rfl, ea, e, q⟩ := h
  obtain ⟨u1, u2, rfl, r1, r2⟩ := vals2 r
  cases (show u1 = Value.ref a from r1)
  cases (show u2 = Value.ref tp from r2)
  obtain ⟨_, its, rv, o, h1, h2, n, h3⟩ := (show ObjOk X.prog X.w H s.heap tp (.tup cs) from I.hok tp _ hT)
  have e3 := ClsV.all k rv
  subst e3
  obtain ⟨oc, od, dt, sl⟩ := o
  simp only at h2 h3
  subst h2 h3
  obtain ⟨od, J⟩ := inst_exc I hz hf ea
  exact PySem.W.kia_tup (PySem.W.kitx_exc T.cl T.ga T.gg T.sub T.ha T.hn T.ht T.hm) I.kIn J h1 e (fun z => nomatch z) fun tk => ⟨.bl b, H, I.tok tk, rfl, q⟩
end
/-! ### heaps, but for the tables -/
abbrev ExN := LamX.ExtN
theorem exn_at {H H' : Hp} {a : Addr} {o : HO} (e : LamX.ExtN H H') (n : ∀ ps, o ≠ .tbl ps) (h : H a = some o) : H' a = some o := e a o h n
theorem exn_l {K : PySem.W.Frag} {H H' : Hp} {a : Addr} {xs : List V} (e : LamX.ExtN H H') (h : SqL K H a xs) : SqL K H' a xs := by
  rcases h with (h | ⟨o, h⟩) | h
  · exact .inl (.inl (e _ _ h fun _ z => by cases z))
  · exact .inl (.inr ⟨o, e _ _ h fun _ z => by cases z⟩)
  · exact .inr h
theorem Ex.n {H H' : Hp} (e : Ex H H') : LamX.ExtN H H' := fun b o h _ => e b o h
theorem Pur.exn {H H2 : Hp} {p : Addr} (h : Pur H p) (e : LamX.ExtN H H2) : Pur H2 p := by
  obtain ⟨a, b, c, h⟩ := h
  exact ⟨a, b, c, e _ _ h fun _ z => by cases z⟩
theorem Tabs.exb {T : List (Addr × Str)} {H H2 : Hp} {p : Addr} (t : LamX.Tabs T H) (e : ExB p H H2) (n : (∃ xs, H p = some (.lst xs)) ∨ ∃ C dx fs, H p = some (.ins C dx fs)) : LamX.Tabs T H2 := fun q hq => by
  obtain ⟨ps, h1, h2, h3⟩ := t q hq
  have np : ∀ b o, H b = some o → ((∃ qs, o = .tbl qs) ∨ ∃ f, o = .ext f) → b ≠ p := fun b o hb k z => by
    rw [z] at hb
    rcases n with ⟨xs, n⟩ | ⟨C, dx, fs, n⟩ <;> rw [n] at hb <;> cases hb <;> rcases k with ⟨_, k⟩ | ⟨_, k⟩ <;> cases k
  refine ⟨ps, e _ _ (np _ _ h1 (.inl ⟨_, rfl⟩)) h1, h2, fun pos cv hc => ?_⟩
  obtain ⟨c, e1, e2⟩ := h3 pos cv hc
  exact ⟨c, e1, e _ _ (np _ _ e2 (.inr ⟨_, rfl⟩)) e2⟩
theorem Pur.lst {H : Hp} {p : Addr} (h : Pur H p) : ∃ xs, H p = some (.lst xs) := by
  obtain ⟨a, b, c, h⟩ := h
  exact ⟨_, h⟩
/-- all but the purse and the tables -/
def ExP (p : Addr) (H H' : Hp) : Prop := ∀ b o, b ≠ p → H b = some o → (∀ ps, o ≠ .tbl ps) → H' b = some o
theorem ExP.refl (p : Addr) (H : Hp) : ExP p H H := fun _ _ _ h _ => h
theorem ExP.trans {p : Addr} {H H1 H2 : Hp} (a : ExP p H H1) (b : ExP p H1 H2) : ExP p H H2 := fun c o n h k => b c o n (a c o n h k) k
theorem ExP.ofN {p : Addr} {H H1 : Hp} (a : LamX.ExtN H H1) : ExP p H H1 := fun c o _ h k => a c o h k
theorem ExP.ofB {p : Addr} {H H1 : Hp} (a : ExB p H H1) : ExP p H H1 := fun c o n h _ => a c o n h
theorem ExP.ofE {p : Addr} {H H1 : Hp} (a : Ex H H1) : ExP p H H1 := fun c o _ h _ => a c o h
/-! ### a lambda handed to a def that calls it in a try -/
theorem takes_len {X : Cx} {W : WX} (t : Takes X W) : Takes X (fun cls d σ H => σ.length = X.N.length → W cls d σ H) := fun u s' ⟨a, B, sI, pins, σ, H, cls, d, e, I, nb, up, sky, na, os, ag, w⟩ =>
  t u s' ⟨a, B, sI, pins, σ, H, cls, d, e, I, nb, up, sky, na, os, ag, w I.len⟩
/-- try: a() / except ..: .. / the rest -/
def TTry (K : PySem.W.Frag) (Ng : List Str) (l : List ClA) (tr : TS) : (XK → Hp → VK → Prop) → Hp → VK → Prop := fun tl H Q =>
  ∀ f : Addr, tl (fun cls d H' => ∀ σ' : L2.St, σ'.length = Ng.length → wManyA K (fun _ _ _ _ => False) ⟨tr { nx := fun _ H' => Q .non H', rt := Q }, Q, fun _ _ => False, fun _ _ => False⟩ l cls d σ' H') H
    (fun _ H1 => tr { nx := fun _ H' => Q .non H', rt := Q } (start Ng [.ref f]) H1)
abbrev gX (X : Cx) (Ng : List Str) (x : Str) (sg : Scope) (g : Addr) (cdg : Value) (s : Shared) (H : Hp) : Cx := (cxOf C8.CX0 X.prog X.w X.K X.mg X.base Ng x sg g cdg X.A X.stack s H C8.E0).nox
theorem try_gives {X : Cx} {Ng : List Str} {x a q : Str} {sg : Scope} {h0 : ExceptHandler} {hds : List ExceptHandler} {l : List ClA} {r0 : Stmt} {rest : List Stmt} {tr : TS} {p1 p2 p3 p8 : Pos} (hn : Ng.Nodup) (hs : ∀ f : Addr, (start Ng [V.ref f])[0]? = some (some (V.ref f)))
    (hh : ∀ (g : Addr) (cdg : Value) (s : Shared) (H : Hp), HdsA (gX X Ng x sg g cdg s H) (h0 :: hds) l) (hr : ∀ (g : Addr) (cdg : Value) (s : Shared) (H : Hp), PSs (gX X Ng x sg g cdg s H) (r0 :: rest) tr) (g : Addr) (cdg : Value) :
    LamX.GivesTo X Ng x sg g cdg (.Try [.Expr (.Call (.Name a p1) [] [] p2) p3] (h0 :: hds) [] [] p8 :: r0 :: rest) a q (TTry X.K Ng l tr) := by
  intro f c' s H Q tl act hc h
  refine ⟨_, pss_cons (ps_tryA (X := gX X Ng x sg g cdg s H) (W0 := fun _ _ _ _ => False)
      (tb := fun W D σ H => ∃ Ech : XK, (∀ cls d σ' H', σ'.length = Ng.length → Ech cls d H' → W cls d σ' H') ∧ σ[0]? = some (some (.ref f)) ∧ H c' = some (LamX.CodeO c' q) ∧ tl Ech H (fun _ H1 => D.nx σ H1))
      rfl rfl hn takes0 (fun W pn xe tk _ => ?_) (hh g cdg s H)) (hr g cdg s H), ?_⟩
  · refine ⟨fun pins s' σ H' D I h' => ?_⟩
    obtain ⟨Ech, hW, h1, h2, h3⟩ := h'
    have tk' : Takes ((cxOf C8.CX0 X.prog X.w X.K X.mg X.base Ng x sg g cdg X.A X.stack s H C8.E0).tr pn xe) (fun cls d σ H => σ.length = Ng.length → W cls d σ H) := takes_len tk
    have hp := act _ pn xe Ech p1 p2 tk' (fun cls d σ' H' e l => hW cls d σ' H' l e)
    have hq := pss_one (ps_expr (pos := p3) hp)
    exact hq.run pins s' σ H' D I ⟨h1, h2, h3⟩
  · exact ⟨_, fun cls d σ' H' l e => e σ' l, hs f, hc, h f⟩
/-! ### defs that make lambdas: their code object is known -/
structure AtL (K : PySem.W.Frag) (mg : Str → Option Value) (x : Str) (st : Stmt) (ps : List Str) (c : Addr) : Prop where
  ex : ∃ (f : Addr) (oc : Value) (od : Option Addr) (kV doc pm : Value) (an : Option Addr) (ct : Value) (osl : Array (Option Value)),
    K.lookup f = some ⟨oc, od, .func (PySem.W.fnOf x x (defArgs st) (defBody st) (defScope st) .none kV doc pm an (.ref c) ct), osl⟩ ∧ PySem.W.codeIn K (.ref c) x = true ∧ mg x = some (.ref f) ∧ PySem.W.keepIn K (.ref f) = true ∧
    Binds K (PySem.W.fnOf x x (defArgs st) (defBody st) (defScope st) .none kV doc pm an (.ref c) ct) ps []
section
variable {P : Program} {w : World} {K : PySem.W.Frag} {mg : Str → Option Value} {base : Heap}
theorem Def.mkL {x : Str} {st : Stmt} {N ps : List Str} {k : Nat} {sp : Sp} {c : Addr} (F : AtL K mg x st ps c) (S : FnScope N ps (defScope st)) (len : ∀ vs H Q E, sp vs H Q E → vs.length = ps.length)
    (hbody : ∀ (f : Addr) (A : Around) (outer : List Env) (s : Shared) (H : Hp) (vs : List V) (Q : VK) (E : XK), Room k (A.deeper (envOfC x (defScope st) s.heap.objs.size f (.ref c))) → sp vs H Q E →
      ∃ t, PSs (cxOf (L2.CX P w) P w K mg base N x (defScope st) f (.ref c) A outer s H E) (defBody st) t ∧ t { nx := fun _ H' => Q .non H', rt := Q } (start N vs) H) : Def P w K mg base x (k + 1) ps sp := by
  obtain ⟨f, oc, od, kV, doc, pm, an, ct, osl, lk, hcd, g, kp, b⟩ := F.ex
  exact ⟨f, _, fn_of lk hcd S len fun A outer s H vs Q E hr hsp => hbody f A outer s H vs Q E hr hsp, g, kp, b⟩
theorem atL_mk {x : Str} {st : Stmt} {f c : Addr} {ps : List Str} {oc : Value} {od an : Option Addr} {osl : Array (Option Value)} {kV doc pm ct : Value} {h : Heap} (X : K.In h) (G : h.Ns mainGlobals mg)
    (a : PySem.W.nsIn K mainGlobals x = some (some (.ref f))) (l : K.lookup f = some ⟨oc, od, .func (PySem.W.fnOf x x (defArgs st) (defBody st) (defScope st) .none kV doc pm an (.ref c) ct), osl⟩) (hc : PySem.W.codeIn K (.ref c) x = true) (k : PySem.W.keepIn K (.ref f) = true)
    (hb : ∀ (kV doc pm : Value) (an : Option Addr) (cdv ct : Value) (us : List Value), us.length = ps.length → bindArgs (PySem.W.fnOf x x (defArgs st) (defBody st) (defScope st) .none kV doc pm an cdv ct) ⟨us, []⟩ = pure (ps.zip us)) : AtL K mg x st ps c :=
  ⟨f, oc, od, kV, doc, pm, an, ct, osl, l, hc, PySem.W.mg_of X G a, k, (fun_mk l hc k).binds hb⟩
end
def lamQ (x : Str) : Str := (x ++ ".<locals>.") ++ "<lambda>"
section
variable {X : Cx}
/-- x(lambda: body) -/
theorem pe_lam {T : List (Addr × Str)} {TT : (XK → Hp → VK → Prop) → Hp → VK → Prop} {x a : Str} {st : Stmt} {c P : Addr} {k : Nat} {Ng : List Str} {params : Arguments} {body : Expr} {scope : Scope} {t : XK → TE} {p lpos pos : Pos}
    (F : At X.K X.mg x st [a]) (Sg : FnScope Ng [a] (defScope st)) (hNg : Ng[0]? = some a) (hva : Vis (defScope st) a)
    (hG : ∀ (g : Addr) (cdg : Value), LamX.GivesTo X Ng x (defScope st) g cdg (defBody st) a (X.env.qual ++ "<lambda>") TT)
    (TB : LamX.TabB X.base X.mg c P) (hmT : (P, X.env.qual ++ "<lambda>") ∈ T) (hu : ∀ p ∈ T, p.1 = P → p.2 = X.env.qual ++ "<lambda>") (hr : Room (k + 2) X.A) (L : LamX.LamS X.env.scope scope)
    (hbind : ∀ (q : Str) (cl : List (Str × Addr)) (pm cv ctv : Value), bindArgs (PySem.W.kla_fn "<lambda>" q params body scope cl pm cv ctv) ⟨[], []⟩ = pure [])
    (hbody : ∀ (A : Around) (outer : List Env) (s : Shared) (H : Hp) (E : XK) (f c' : Addr), Room k (A.deeper (LamX.lamEnv X scope s.heap.objs.size f c')) → PE (LamX.lamCx X A outer s H E scope f c') body (t E))
    (hg : Gl X x := by rfl) (hcode : X.env.code = .ref c := by rfl) (hdef : defaultsOf params X.env = ([], []) := by rfl) (hdb : (x == ("__debug__" : Str)) = false := by decide) (hd : (a == ("__debug__" : Str)) = false := by decide) (hcd : (a == ("__classdict__" : Str)) = false := by decide) :
    PE X (.Call (.Name x p) [.Lambda params body scope lpos] [] pos) (LamX.tLam T TT t) := by
  obtain ⟨f, fd, Ff, hm, b⟩ := F.ex
  have kp := Ff.kp
  obtain ⟨oc, od, kV, doc, pm, an, cdv, ct, osl, rfl, lk, hcdv⟩ := Ff.ex
  exact LamX.pe_lamcall hg hm kp lk hcdv b Sg hNg hva (hG f cdv) TB hcode hmT hu hr L hdef hbind hbody hdb hd hcd
end
theorem r_lam {T : List (Addr × Str)} {TT : (XK → Hp → VK → Prop) → Hp → VK → Prop} {t : XK → TE} {σ : L2.St} {H : Hp} {Q : VK} (hT : LamX.Tabs T H) (h : ∀ H1, LamX.ExtN H H1 → LamX.Tabs T H1 → TT (fun E H' Q' => t E σ H' Q') H1 Q) : LamX.tLam T TT t σ H Q := ⟨hT, h⟩
/-- one clause's suite: return (tag, e.f) -/
def retF (tag : Str) (C : Addr) (f : Str) (i : Nat) : Addr → Value → Option Addr → TS := fun a cls d => tRet (tTup (tCons (tC (.str tag)) (tCons (tXf a cls d C f (tVar i)) tNil)))
section
variable {K : PySem.W.Frag} {W0 : WX} {D : Ends} {l : List ClA} {C C' : Addr} {f tag : Str} {i : Nat} {ts : Addr → Value → Option Addr → TS} {σ : L2.St} {H : Hp} {dd : Addr} {v : V}
theorem wm_no (h : PySem.W.exmOne K (.ref C) (.ref C') = some false) (k : wManyA K W0 D l (.ref C) (some dd) σ H) : wManyA K W0 D ((.ref C', i, ts) :: l) (.ref C) (some dd) σ H :=
  ⟨false, h, (fun z => absurd z (by decide)), fun _ => k⟩
theorem wm_yes (h : PySem.W.exmOne K (.ref C) (.ref C) = some true) (hd : H dd = some (.xd [(f, v)])) (hi : i < σ.length) (k : ∀ t H2, Ex H H2 → H2 t = some (.tup [.str tag, v]) → D.rt (.ref t) H2) : wManyA K W0 D ((.ref C, i, retF tag C f i) :: l) (.ref C) (some dd) σ H :=
  ⟨true, h, fun _ a ha => by
    show tXf a (.ref C) (some dd) C f (tVar i) (σ.set i (some (.ref a))) H fun x H1 => tNil (σ.set i (some (.ref a))) H1 fun xs H2 => NewT (.str tag :: x :: xs) H2 D.rt
    refine r_xf (by rw [List.getElem?_set_self hi]) hd ?_
    exact r_newT (len3 rfl) fun t H2 _ e h => k t H2 e h, fun z => absurd z (by decide)⟩
end
/-! ### the end, with tables -/
theorem end_ofTs {l : PySem.W.OpenLaw} {k : Nat} {q : Program} {loose : List Str} {XP : (Str → Option Value) → Heap → Prop} {YP : World → Heap → Prop} {d : DefRec} {K : Params → PySem.W.Frag} {sp : PySem.W.Frag → List (Addr × Addr) → Sp}
    (hn : l.most = some 63) (hdf : d.params.defaults = []) (hr : Room k callerA) (hY : ∀ (w : World) (h : Heap), YP w h → (K w.params).In h)
    (hsp : ∀ (K : PySem.W.Frag) (cs : List (Addr × Addr)) (H : Hp) (a : Addr) (ns : List Int), ns.length ≤ 63 → (∀ p ∈ cs, H p.2 = some (.tbl #[])) → SqL K H a (ns.map V.int) → sp K cs [.ref a] H (fun v _ => v = .bl true) fun _ _ _ => False)
    (F : ∀ (w : World) (mg : Str → Option Value) (fa : Addr) (h : Heap), (K w.params).In h → h.Ns mainGlobals mg → mg d.name = some (.ref fa) →
      ∃ (fd : FuncData) (cs : List (Addr × Addr)), (∀ p ∈ cs, (∃ x, ((recsOf q).find? fun e => e.name == x).isSome = true ∧ PySem.W.tabIn (K w.params) x = some p) ∧ (K w.params).lookup p.2 = none) ∧
        (∀ (s : Shared) (u : Value), BindsTo s fd ⟨[u], []⟩ [("script", u)]) ∧ ∀ base : Heap, (K w.params).In base → base.Ns mainGlobals mg → (∀ p ∈ cs, LamX.TabB base mg p.1 p.2) → FnOk l.prog w (K w.params) mg base (L2.CX l.prog w) k fa fd ["script"] (sp (K w.params) cs)) :
    PySem.W.WalkO q loose XP YP l.row.toRowW d [] (fun f vs => PySem.call f vs) := by
  refine Att.attach_callB hn hdf fun w s₀ s₁ mg mb fa o pm cd doc a vs ns G Y ho hd hcd hmg hobj hints hlen hbits hg => ?_
  have KX := hY w _ Y
  obtain ⟨fd, cs, hcs, hb, hF⟩ := F w mg fa _ KX G.T.g hmg
  have tb : ∀ p ∈ cs, PySem.W.CodeHd s₁.heap p.1 p.2 ∧ s₁.heap.get? p.2 = some (PySem.W.tabObj #[]) := fun p hp => by
    obtain ⟨⟨x, hx, ht⟩, _⟩ := hcs p hp
    obtain ⟨dr, hdr⟩ := Option.isSome_iff_exists.mp hx
    exact PySem.W.tab_of G.T KX hdr ht
  refine LamX.law_callTs (cs := cs) KX G.T.g G.T.b G.T.builtins G.T.nolimit hg (fun p hp => (tb p hp).2) (fun p hp => (hcs p hp).2) (fun p hp => (tb p hp).1) G.T.bmain hobj hints (Nat.le_trans hlen (by decide)) hr hF hb (fun H hH hS => hsp _ cs H a ns hlen hH hS) fun H e s' z => ?_
  obtain ⟨_, _, _, _, _, _, _, _, _, _, _, _, z⟩ := z
  exact z.elim
end Lay
/-! own errors with two fields; making with defaults -/
namespace Lay
open PySem PySem.Spec PyProof.Rows L2 Evl
def tellR : V → Prop
  | .str s => s = ""
  | _ => False
def spExc2 (K : PySem.W.Frag) (C : Addr) (f1 f2 : Str) : Sp := fun vs H Q _ => ∃ (a : Addr) (v1 v2 : V), vs = [.ref a, v1, v2] ∧ tellR v1 ∧ tellV v2 ∧ H a = some (exo a C none) ∧
  ∀ dx, H dx = none → dx ≠ a → Q .non (upd (upd (upd H dx (exd dx [(f1, v1)])) a (exo a C (some dx))) dx (exd dx [(f2, v2), (f1, v1)]))
structure Exn2 (P : Program) (w : World) (K : PySem.W.Frag) (mg : Str → Option Value) (base : Heap) (x f1 f2 : Str) (C : Addr) : Prop where
  o : OexC K C
  g : mg x = some (.ref C)
  init : ∃ (fI : Addr) (fd : FuncData), PySem.W.findIn K (.ref C) "__init__" = some (some (.ref fI)) ∧ PySem.W.typeIn K (.ref fI) = some (.type "function") ∧ FnOk P w K mg base (L2.CX P w) 1 fI fd ["self", f1, f2] (spExc2 K C f1 f2) ∧ Binds K fd ["self", f1, f2] []
  xf : XfC K C
  no : PySem.W.findIn K (.ref C) f1 = some none
  no2 : PySem.W.findIn K (.ref C) f2 = some none
  te : PySem.W.exmOne K (.ref C) (.ref C) = some true
def tRaiseE2 (C : Addr) (f1 f2 : Str) (W : WX) (te1 te2 : TE) : TS := fun _ σ H => te1 σ H fun v1 H1 => te2 σ H1 fun v2 H2 => tellR v1 ∧ tellV v2 ∧ ∀ d H3, Ex H2 H3 → H3 d = some (.xd [(f2, v2), (f1, v1)]) → W (.ref C) (some d) σ H3
section
variable {X : Cx} {x f1 f2 : Str} {C : Addr} {W : WX} {e1 e2 : Expr} {te1 te2 : TE} {p pos pos2 : Pos}
theorem ps_raiseE2 (T : Exn2 X.prog X.w X.K X.mg X.base x f1 f2 C) (hc : X.calm = true) (hr : Room 2 X.A) (tk : Takes X W) (he1 : PE X e1 te1) (he2 : PE X e2 te2) (hg : Gl X x := by rfl) (hdb : (x == ("__debug__" : Str)) = false := by decide)
    (hs2 : starEach (e2 :: []) X.env = (false, eval e2 X.env) :: starEach [] X.env := by rfl) (hs : starEach (e1 :: e2 :: []) X.env = (false, eval e1 X.env) :: starEach [e2] X.env := by rfl) (hpl : (backTo pos (starEach [e2] X.env)).any (·.1) = false := by rfl) :
    PS X (.Raise (some (.Call (.Name x p) [e1, e2] [] pos)) none pos2) (tRaiseE2 C f1 f2 W te1 te2) := by
  obtain ⟨fI, fd, iC, tI, F, b⟩ := T.init
  have hx : Passes (L2.CX X.prog X.w) X (fun _ _ _ => False) := passL
  have m := pmk_oex (pos := pos) (p := p) T.o iC tI F (hr.mono (Nat.le_refl _)) b .nil hx hg T.g (pa_cons (pe_cl he1) (pa_cons (pe_cl he2) pa_nil hs2) hs) hdb hs hpl
  have r := ps_raise (pos := pos2) hc tk m
  refine ⟨fun pins s σ H D I h => r.run pins s σ H D I ?_⟩
  show ∃ P1 : VK, te1 σ H P1 ∧ _
  have key : ∀ v1 v2 H1, (tellR v1 ∧ tellV v2 ∧ ∀ d H2, Ex H1 H2 → H2 d = some (.xd [(f2, v2), (f1, v1)]) → W (.ref C) (some d) σ H2) →
      ([v1, v2] : List V).length ≤ 1000 ∧ ∀ a, H1 a = none → spExc2 X.K C f1 f2 (.ref a :: ([v1, v2] ++ [])) (upd H1 a (exo a C none))
        (fun u H2 => u = .non ∧ ∃ (d : Addr) (fs : List (Str × V)), H2 a = some (exo a C (some d)) ∧ H2 d = some (exd d fs) ∧ H1 d = none ∧ W (.ref C) (some d) σ (upd (del H2 a) d (.xd fs))) (fun _ _ _ => False) := by
    intro v1 v2 H1 q
    refine ⟨by show 2 ≤ 1000; decide, fun a ha => ⟨a, v1, v2, rfl, q.1, q.2.1, upd_same, fun dx hdx hne => ⟨rfl, dx, [(f2, v2), (f1, v1)], ?_, upd_same, ?_, ?_⟩⟩⟩
    · rw [upd_ne hne.symm, upd_same]
    · rw [upd_ne hne] at hdx
      exact hdx
    · have hd1 : H1 dx = none := by
        rw [upd_ne hne] at hdx
        exact hdx
      refine q.2.2 dx _ (fun b o hb => ?_) upd_same
      have n1 : b ≠ dx := ne_of_none hb hd1
      have n2 : b ≠ a := ne_of_none hb ha
      rw [upd_ne n1, del_ne n2, upd_ne n1, upd_ne n2, upd_ne n1, upd_ne n2]
      exact hb
  exact ⟨_, h, fun v1 H1 q1 => ⟨_, q1, fun v2 H2 q2 => key v1 v2 H2 q2⟩⟩
end
section
variable {K : PySem.W.Frag} {σ : L2.St} {H : Hp} {D : Ends} {a C : Addr} {f1 f2 : Str} {v1 v2 : V}
theorem r_raise2 {W : WX} {te1 te2 : TE} (h : te1 σ H fun v1 H1 => te2 σ H1 fun v2 H2 => tellR v1 ∧ tellV v2 ∧ ∀ d H3, Ex H2 H3 → H3 d = some (.xd [(f2, v2), (f1, v1)]) → W (.ref C) (some d) σ H3) : tRaiseE2 C f1 f2 W te1 te2 D σ H := h
theorem exc_body2 {parts : List TE} (js : ∀ R : Str → Hp → Prop, (∀ s, R s H) → tJs parts Str.empty σ H R) (e0 : σ[0]? = some (some (.ref a))) (e1 : σ[1]? = some (some v1)) (e2 : σ[2]? = some (some v2)) (o : OexC K C) (no : PySem.W.findIn K (.ref C) f1 = some none) (no2 : PySem.W.findIn K (.ref C) f2 = some none)
    (ha : H a = some (exo a C none)) (q : ∀ dx, H dx = none → dx ≠ a → D.nx σ (upd (upd (upd H dx (exd dx [(f1, v1)])) a (exo a C (some dx))) dx (exd dx [(f2, v2), (f1, v1)]))) :
    tSeq (tDrop (tVeI K (tCons (tVar 0) (tCons (fun σ H Q => tJs parts Str.empty σ H fun out H1 => Q (.str out) H1) tNil)))) (tSeq (tOst K f1 (tVar 0) (tVar 1)) (tOst K f2 (tVar 0) (tVar 2))) D σ H := by
  refine ⟨_, e0, ?_⟩
  refine js _ fun s => ?_
  refine ⟨a, C, [.str s], rfl, by show 1 ≤ 1000; decide, o, ha, _, e1, _, e0, a, C, rfl, o, no, .inl ⟨ha, fun dx hdx hne => ?_⟩⟩
  refine ⟨_, e2, _, e0, a, C, rfl, o, no2, .inr ⟨dx, [(f1, v1)], upd_same, ?_, by show 1 ≤ 900; decide, q dx hdx hne⟩⟩
  rw [upd_ne hne, upd_same]
theorem js_r {n k : Nat} {ts : List TE} {acc : Str} {R : Str → Hp → Prop} (e1 : σ[n]? = some (some v1)) (tr : tellR v1) (ha : acc.length ≤ k) (hk : k ≤ 50000) (h : ∀ acc' : Str, acc'.length ≤ k + 2 → tJs ts acc' σ H R) : tJs (tFmtR (tVar n) :: ts) acc σ H R := by
  cases v1 with
  | str s =>
    obtain rfl : s = "" := tr
    have rl : (reprText "").length = 2 := by decide +kernel
    refine ⟨_, e1, .inl ⟨"", rfl, by rw [rl]; exact sz_of (by decide), _, rfl, sz_of (by rw [app_len, rl]; omega), h _ (by rw [app_len, rl]; omega)⟩⟩
  | non => exact tr.elim
  | bl b => exact tr.elim
  | int i => exact tr.elim
  | byt b => exact tr.elim
  | flt b => exact tr.elim
  | ref b => exact tr.elim
  | ty b => exact tr.elim
end
/-- one clause's suite: return (tag, e.f1, e.f2) -/
def retF2 (tag : Str) (C : Addr) (f1 f2 : Str) (i : Nat) : Addr → Value → Option Addr → TS := fun a cls d => tRet (tTup (tCons (tC (.str tag)) (tCons (tXf a cls d C f1 (tVar i)) (tCons (tXf a cls d C f2 (tVar i)) tNil))))
section
variable {K : PySem.W.Frag} {W0 : WX} {D : Ends} {l : List ClA} {C : Addr} {f1 f2 tag : Str} {i : Nat} {σ : L2.St} {H : Hp} {dd : Addr} {v1 v2 : V}
theorem wm_yes2 (h : PySem.W.exmOne K (.ref C) (.ref C) = some true) (hd : H dd = some (.xd [(f2, v2), (f1, v1)])) (hf : (f1 == f2) = false) (hi : i < σ.length) (k : ∀ t H2, Ex H H2 → H2 t = some (.tup [.str tag, v1, v2]) → D.rt (.ref t) H2) :
    wManyA K W0 D ((.ref C, i, retF2 tag C f1 f2 i) :: l) (.ref C) (some dd) σ H :=
  ⟨true, h, fun _ a ha => by
    have e : (σ.set i (some (V.ref a)))[i]? = some (some (.ref a)) := by rw [List.getElem?_set_self hi]
    refine ⟨_, e, rfl, rfl, dd, _, v1, rfl, hd, by simp [List.lookup, hf], _, e, rfl, rfl, dd, _, v2, rfl, hd, by simp [List.lookup], ?_⟩
    exact r_newT (len3 rfl) fun t H2 _ e h => k t H2 e h, fun z => absurd z (by decide)⟩
end
/-! ### C(..), the rest of the parameters by their defaults -/
structure DID (P : Program) (w : World) (K : PySem.W.Frag) (mg : Str → Option Value) (base : Heap) (x : Str) (C : Addr) (k : Nat) (ps : List Str) (dvs : List V) (sp : Sp) : Prop where
  ex : ∃ (f : Addr) (fd : FuncData) (ds : List Value), FnOk P w K mg base (L2.CX P w) k f fd ps sp ∧ Mk K C f ∧ mg x = some (.ref C) ∧ Vals dvs ds ∧ Binds K fd ps ds
structure AtID (K : PySem.W.Frag) (mg : Str → Option Value) (x : Str) (C : Addr) (qual : Str) (st : Stmt) (ps : List Str) (dvs : List V) : Prop where
  ex : ∃ (f : Addr) (fd : FuncData) (ds : List Value), FunD K "__init__" qual st f fd ∧ Mk K C f ∧ mg x = some (.ref C) ∧ Vals dvs ds ∧ Binds K fd ps ds
theorem DI.dflt {P : Program} {w : World} {K : PySem.W.Frag} {mg : Str → Option Value} {base : Heap} {x : Str} {C : Addr} {qual : Str} {st : Stmt} {N ps : List Str} {dvs : List V} {k : Nat} {sp : Sp} (F : AtID K mg x C qual st ps dvs) (S : FnScope N ps (defScope st)) (len : ∀ vs H Q E, sp vs H Q E → vs.length = ps.length)
    (hbody : ∀ (f : Addr) (cdv : Value) (A : Around) (outer : List Env) (s : Shared) (H : Hp) (vs : List V) (Q : VK) (E : XK), Room k (A.deeper (envOfC qual (defScope st) s.heap.objs.size f cdv)) → sp vs H Q E →
      ∃ t, PSs (cxOf (L2.CX P w) P w K mg base N qual (defScope st) f cdv A outer s H E) (defBody st) t ∧ t { nx := fun _ H' => Q .non H', rt := Q } (start N vs) H) : DID P w K mg base x C (k + 1) ps dvs sp := by
  obtain ⟨f, fd, ds, Ff, g, m, v, b⟩ := F.ex
  exact ⟨f, fd, ds, Ff.okX S len (hbody f), g, m, v, b⟩
section
variable {X : Cx} {k : Nat} {ps : List Str} {dvs : List V} {sp : Sp} {E : XK} {x : Str} {C : Addr} {p pos : Pos} {e : Expr} {es : List Expr} {t : TA}
theorem pe_mkDD (d : DID X.prog X.w X.K X.mg X.base x C k ps dvs sp) (hr : Room (k + 1) X.A) (hx : Passes (L2.CX X.prog X.w) X E) (ha : PA X (e :: es) t) (hg : Gl X x := by rfl)
    (hdb : (x == ("__debug__" : Str)) = false := by decide) (he : starEach (e :: es) X.env = (false, eval e X.env) :: starEach es X.env := by rfl) (hpl : (backTo pos (starEach es X.env)).any (·.1) = false := by rfl) :
    PE X (.Call (.Name x p) (e :: es) [] pos) (tMake C sp dvs E t) := by
  obtain ⟨f, fd, ds, F, hm, g, v, b⟩ := d.ex
  exact pe_make hm F hr hg g b v hx ha hdb he hpl
end
def rMkD (C : Addr) (sp : Sp) (dvs : List V) (E : XK) (Q : VK) (vs : List V) (H : Hp) : Prop := ∀ x dx, H x = none → H dx = none → dx ≠ x → sp (.ref x :: (vs ++ dvs)) (upd (upd H dx (.own x)) x (.ins C dx [])) (fun v H2 => v = .non ∧ Q (.ref x) H2) E
theorem r_makeD {C : Addr} {sp : Sp} {dvs : List V} {E : XK} {t : TA} {σ : L2.St} {H : Hp} {Q : VK} (h : t σ H fun vs H1 => rMkD C sp dvs E Q vs H1) : tMake C sp dvs E t σ H Q := h
theorem r_rmkD {C : Addr} {sp : Sp} {dvs : List V} {E : XK} {H : Hp} {Q : VK} {vs : List V} (h : ∀ x dx H2, H x = none → H dx = none → dx ≠ x → Ex H H2 → H2 x = some (.ins C dx []) → sp (.ref x :: (vs ++ dvs)) H2 (fun v H3 => v = .non ∧ Q (.ref x) H3) E) : rMkD C sp dvs E Q vs H := fun x dx nx nd ne => by
  have e : Ex H (upd (upd H dx (.own x)) x (.ins C dx [])) := fun b o hb => by
    rw [upd_ne (ne_of_none hb nx), upd_ne (ne_of_none hb nd)]
    exact hb
  exact h x dx _ nx nd ne e upd_same
/-- a def's last parameters by their defaults -/
theorem binds_dd {K : PySem.W.Frag} {fd : FuncData} {ps : List Str} {T : Addr} {o : Obj} {its : List Value} {n m : Nat} (lT : K.lookup T = some o) (oT : o.data = .seq its.toArray n) (hm : m + its.length = ps.length)
    (h : ∀ us : List Value, us.length = m → ∃ k, bindArgs fd ⟨us, []⟩ = seqItems? (.ref T) >>= k ∧ k (some its.toArray) = pure (ps.zip (us ++ its))) : Binds K fd ps its := fun s us X hl => by
  obtain ⟨k, e1, e2⟩ := h us (by rw [List.length_append] at hl; omega)
  refine L2.BindsTo.of_looks fun M => ?_
  rw [e1]
  exact L2.looks_items X lT oT (.of_pure e2)
/-! ### lists of data as they grow: what stands without the list itself -/
theorem ex_del {h h2 : Hp} {f : Addr} (e : Ex h h2) : Ex (del h f) (del h2 f) := fun b o hb => by
  by_cases n : b = f
  · rw [n] at hb
    unfold del at hb
    rw [if_pos rfl] at hb
    cases hb
  · rw [del_ne n] at hb ⊢
    exact e _ _ hb
theorem exb_del {p f : Addr} {h h2 : Hp} (e : ExB p h h2) : ExB p (del h f) (del h2 f) := fun b o np hb => by
  by_cases n : b = f
  · rw [n] at hb
    unfold del at hb
    rw [if_pos rfl] at hb
    cases hb
  · rw [del_ne n] at hb ⊢
    exact e _ _ np hb
theorem del_ex {h : Hp} {f : Addr} : Ex (del h f) h := fun b o hb => by
  by_cases n : b = f
  · rw [n] at hb
    unfold del at hb
    rw [if_pos rfl] at hb
    cases hb
  · rw [del_ne n] at hb
    exact hb
theorem exB_del {h h2 : Hp} {f : Addr} (e : ExB f h h2) : Ex (del h f) (del h2 f) := fun b o hb => by
  by_cases n : b = f
  · rw [n] at hb
    unfold del at hb
    rw [if_pos rfl] at hb
    cases hb
  · rw [del_ne n] at hb ⊢
    exact e _ _ n hb
/-- what stood before f -/
theorem ex_to_del {h0 h : Hp} {f : Addr} (e : Ex h0 h) (n : h0 f = none) : Ex h0 (del h f) := fun b o hb => by
  rw [del_ne (ne_of_none hb n)]
  exact e _ _ hb
def LB (K : PySem.W.Frag) (h : Hp) (f : Addr) (xs : List V) (ds : List PyData) : Prop := h f = some (.lst xs) ∧ DpAll K (del h f) xs ds
theorem LB.nil {K : PySem.W.Frag} {h : Hp} {f : Addr} (hf : h f = some (.lst [])) : LB K h f [] [] := ⟨hf, .nil⟩
theorem LB.ex {K : PySem.W.Frag} {h h2 : Hp} {f : Addr} {xs : List V} {ds : List PyData} (b : LB K h f xs ds) (e : Ex h h2) : LB K h2 f xs ds := ⟨e _ _ b.1, Dp.exAll (ex_del e) _ _ b.2⟩
theorem LB.dp {K : PySem.W.Frag} {h : Hp} {f : Addr} {xs : List V} {ds : List PyData} (b : LB K h f xs ds) : Dp K h (.ref f) (.list ds) := .lst (L2.SqL.of b.1) (Dp.exAll del_ex _ _ b.2)
theorem LB.len {K : PySem.W.Frag} {h : Hp} {f : Addr} {xs : List V} {ds : List PyData} (b : LB K h f xs ds) : xs.length = ds.length := Lay.DpAll.len b.2
theorem LB.put {K : PySem.W.Frag} {h H5 : Hp} {f : Addr} {xs : List V} {ds : List PyData} {v : V} {d : PyData} (b : LB K h f xs ds) (hv : Dp K (del h f) v d) (e5 : ExB f h H5) (h5 : H5 f = some (.lst (xs ++ [v]))) : LB K H5 f (xs ++ [v]) (ds ++ [d]) :=
  ⟨h5, DpAll.snoc (Dp.ex (exB_del e5) _ _ hv) (Dp.exAll (exB_del e5) _ _ b.2)⟩
theorem LB.app {K : PySem.W.Frag} {h : Hp} {f : Addr} {xs : List V} {ds : List PyData} {v : V} {d : PyData} {Q : VK} (b : LB K h f xs ds) (lt : xs.length < 100000) (hv : Dp K (del h f) v d) (q : ∀ H5, ExB f h H5 → LB K H5 f (xs ++ [v]) (ds ++ [d]) → Q .non H5) : rAppend (.ref f) [v] h Q :=
  r_app b.1 lt fun H5 e5 h5 _ => q H5 e5 (b.put hv e5 h5)
theorem LB.appW {K : PySem.W.Frag} {h : Hp} {f : Addr} {xs : List V} {ds : List PyData} {v : V} {d : PyData} {N : Hp → Prop} (b : LB K h f xs ds) (lt : xs.length < 100000) (hv : Dp K (del h f) v d) (q : ∀ H5, ExB f h H5 → LB K H5 f (xs ++ [v]) (ds ++ [d]) → N H5) : AppW f N v h :=
  Lay.appW b.1 lt fun H5 e5 h5 => q H5 e5 (b.put hv e5 h5)
/-! ### data read -/
section
variable {K : PySem.W.Frag} {H : Hp} {Q : VK} {l : Addr} {ds : List PyData} {i : Int} {v : V} {d : PyData}
theorem dpa_at {K : PySem.W.Frag} {H : Hp} : ∀ {xs : List V} {ds : List PyData}, DpAll K H xs ds → ∀ {i : Nat} {d : PyData}, ds[i]? = some d → ∃ x, xs[i]? = some x ∧ Dp K H x d
  | _, _, .nil, i, x, h => by cases h
  | _, _, .cons a r, 0, x, h => by cases h; exact ⟨_, rfl, a⟩
  | _, _, .cons a r, i + 1, x, h => dpa_at r (i := i) h
theorem r_ixDp (h : Dp K H (.ref l) (.list ds)) (h0 : 0 ≤ i) (hd : ds[i.toNat]? = some d) (q : ∀ v, Dp K H v d → Q v H) : rIxL K (.ref l) (.int i) H Q := by
  cases h with
  | lst hs ha =>
    obtain ⟨x, hx, hv⟩ := dpa_at ha hd
    exact r_ixL hs (atI_V (j := i.toNat) (by omega) hx) (q x hv)
theorem r_ixDt (h : Dp K H (.ref l) (.tuple ds)) (h0 : 0 ≤ i) (hd : ds[i.toNat]? = some d) (q : ∀ v, Dp K H v d → Q v H) : rIxT K (.ref l) (.int i) H Q := by
  cases h with
  | tup hs ha =>
    obtain ⟨x, hx, hv⟩ := dpa_at ha hd
    exact r_ixT hs (atI_V (j := i.toNat) (by omega) hx) (q x hv)
theorem dp_l (h : Dp K H v (.list ds)) : ∃ a, v = .ref a := by cases h; exact ⟨_, rfl⟩
theorem dp_t (h : Dp K H v (.tuple ds)) : ∃ a, v = .ref a := by cases h; exact ⟨_, rfl⟩
theorem dp_b {b : Bool} (h : Dp K H v (.bool b)) : v = .bl b := by cases h; rfl
theorem dp_i {n : Int} (h : Dp K H v (.int n)) : v = .int n := by cases h; rfl
end
theorem DpAll.append {K : PySem.W.Frag} {H : Hp} {ys : List V} {es : List PyData} (h : DpAll K H ys es) : ∀ {xs : List V} {ds : List PyData}, DpAll K H xs ds → DpAll K H (xs ++ ys) (ds ++ es)
  | _, _, .nil => h
  | _, _, .cons a r => .cons a (DpAll.append h r)
section
variable {K : PySem.W.Frag} {σ : L2.St} {H : Hp} {te : TE} {tt : TT} {Q : VK} {m : Nat} {vs : List Nat} {i j : Int} {P : Prop} [Decidable P]
theorem r_iteCN (h : Q (.int (if P then j else i)) H) : if (!decide P) = true then tC (.int i) σ H Q else tC (.int j) σ H Q := by
  by_cases c : P
  · rw [decide_eq_true c]
    rw [if_pos c] at h
    exact iteF h
  · rw [decide_eq_false c]
    rw [if_neg c] at h
    exact iteT h
/-- a comprehension over a range, with a filter -/
theorem lcR1G (h1 : -1000000000 ≤ j) (h2 : j ≤ 1000000000) (Pv : Addr → Nat → Hp → Prop) (h0 : ∀ p h, H p = none → Ex H h → h p = some (.lst []) → Pv p 0 h)
    (hs : ∀ p (i : Nat) h, (i : Int) < j → Pv p i h → tt ((wipe σ vs).set m (some (.int i))) h fun b h3 => if b = true then te ((wipe σ vs).set m (some (.int i))) h3 (AppW p (Pv p (i + 1))) else Pv p (i + 1) h3) (hd : ∀ p h, Pv p j.toNat h → Q (.ref p) h)
    (hw : ∀ x, wipe ((wipe σ vs).set m (some x)) vs = wipe σ vs) : ItR1 [.int j] H (LcW (gName m) tt te vs σ Q) := by
  refine ⟨j, rfl, by omega, by omega, fun p hp => lc_range (lo := 0) (n := j.toNat) (Pv p) (h0 p _ hp (Ex.new hp) upd_same) (fun i h hi q => ?_) (hd p)⟩
  have e : (0 : Int) + (i : Int) = (i : Int) := Int.zero_add _
  rw [e]
  exact ⟨hw _, hs p i h (by omega) q⟩
end
/-- where a def's table of code objects stands -/
theorem tab_mk {K : PySem.W.Frag} {x q : Str} {f c P : Addr} {o1 o2 : Value} {e1 e2 : Option Addr} {dA : Arguments} {dB : List Stmt} {dS : Scope} {d k m t dc : Value} {n : Option Addr} {s1 s2 : Array (Option Value)} {vs : Array Value}
    (a : PySem.W.nsIn K mainGlobals x = some (some (.ref f))) (l : K.lookup f = some ⟨o1, e1, .func (PySem.W.fnOf x q dA dB dS d k dc m n (.ref c) t), s1⟩)
    (lc : K.lookup c = some ⟨o2, e2, .fields vs, s2⟩) (hv : vs[11]? = some (.ref P)) : PySem.W.tabIn K x = some (c, P) := by
  unfold PySem.W.tabIn
  rw [a]
  simp only []
  rw [show List.lookup f K = _ from l]
  show (match List.lookup c K with | some ⟨_, _, .fields vs, _⟩ => _ | x => none) = _
  rw [show List.lookup c K = _ from lc]
  simp only []
  rw [hv]
end Lay
/-! a list or a tuple walked; enumerate over a tuple -/
namespace Lay
open PySem PySem.Spec PyProof.Rows L2 Evl
/-! ### one of two ways -/
def iOr (a b : TI) : TI := fun σ H R => a σ H R ∨ b σ H R
theorem pi_or {X : Cx} {tg e : Expr} {a b : TI} (ha : PI X tg e a) (hb : PI X tg e b) : PI X tg e (iOr a b) := ⟨fun pins s σ H R I h => h.elim (fun h => ha.run pins s σ H R I h) fun h => hb.run pins s σ H R I h⟩
/-! ### enumerate(t) of a tuple -/
set_option maxHeartbeats 1000000 in
theorem newEnum1 {v : Value} {o : Obj} {HH : Heap → Prop} (B : Begins v o HH) :
    Meets (Builtin.«enumerate.__new__» ⟨[.type "enumerate", v], []⟩) (fun _ R s => HH s.heap ∧ R (.ok (.ret (.ref (s.heap.push o).objs.size)))
      { s with heap := (s.heap.push o).push { cls := .type "enumerate", data := .fields #[.none, .bool false, .ref s.heap.objs.size, rawInt 0, .none, .none] } }) :=
  .of_wp fun P w A R s hh => by
    obtain ⟨hp, g1, d1, t1, o1⟩ := s
    obtain ⟨hB, hR⟩ := hh
    have hsub := sub_enumerate
    have qi : ∀ {A2 : Around} {E2 Q2 : Value → Shared → Prop}, Q2 (.ref hp.objs.size) ⟨hp.push o, g1, d1, t1, o1⟩ → wpAny (model P w) A2 (pyIter v) Q2 E2 ⟨hp, g1, d1, t1, o1⟩ := fun z => B.iter P w _ _ ⟨hp, g1, d1, t1, o1⟩ _ hB z
    wp_walk using qi
    refine wpAny_stack_any fun st => wpAny_pure ?_
    split
    · rename_i cc _ _ _ _ _
      cases (cc == Value.type "enumerate") <;> (wp_walk using qi; exact ⟨_, rfl, hR⟩)
    · wp_walk using qi
      exact ⟨_, rfl, hR⟩
theorem callEnum1 {P : Program} {w : World} {A : Around} {E Q : Value → Shared → Prop} {s : Shared} {v : Value} {o : Obj} {HH : Heap → Prop} (B : Begins v o HH) (hb : HH s.heap)
    (k : ∀ h2, IsEnum h2 (s.heap.objs.size + 1) s.heap.objs.size 0 .none → h2.get? s.heap.objs.size = some o → (∀ b ob, s.heap.get? b = some ob → h2.get? b = some ob) → Q (.ref (s.heap.objs.size + 1)) { s with heap := h2 }) :
    wpAny (model P w) A (call (.type "enumerate") [v]) Q E s := by
  have hz : (s.heap.push o).objs.size = s.heap.objs.size + 1 := Heap.size_push ..
  refine callType_new F.called_enumerate (by decide) (F.typeCall_enumerate_1 _) (F.newCall_enumerate_1 _) (fun ob => F.args_object_init_2 ob _) F.entry_enumerate_new (newEnum1 B) ⟨hb, ?_⟩
  show _ ∧ _
  rw [hz]
  have en : IsEnum ((s.heap.push o).push { cls := .type "enumerate", data := .fields #[.none, .bool false, .ref s.heap.objs.size, rawInt 0, .none, .none] }) (s.heap.objs.size + 1) s.heap.objs.size 0 .none := by
    have z := Heap.get?_push_size (s.heap.push o) (o := { cls := .type "enumerate", data := .fields #[.none, .bool false, .ref s.heap.objs.size, rawInt 0, .none, .none] }) rfl
    rw [hz] at z
    exact z
  exact ⟨⟨_, en, rfl⟩, k _ en (Heap.get?_push_of_some _ (Heap.get?_push_size _ B.free)) fun b ob x => Heap.get?_push_of_some _ (Heap.get?_push_of_some _ x)⟩
/-- the tuple at a (n of them), each item in a new pair -/
def IteT (K : PySem.W.Frag) (a : Addr) (n : Nat) : It :=
  ⟨fun i H => i < n ∧ ∃ xs : List V, SqT K H a xs ∧ xs.length = n, fun i H v H' => ∃ T x, v = .ref T ∧ H T = none ∧ H' = upd H T (.tup [.int (i : Nat), x]) ∧ ∀ xs, SqT K H a xs → xs[i]? = some x,
    fun i H => n ≤ i ∧ ∃ xs : List V, SqT K H a xs ∧ xs.length = n⟩
theorem enum_tup_ne {h : Heap} {e it a : Addr} {i : Int} {old : Value} {j : Nat} {its : Array Value} (he : IsEnum h e it i old) (hi : h.IsTupleIter it a j) (ht : h.IsTuple a its) : e ≠ a ∧ a ≠ it := by
  obtain ⟨o, h1, c1, _⟩ := ht
  obtain ⟨o2, h2, c2, _⟩ := hi
  refine ⟨fun z => ?_, fun z => ?_⟩
  · rw [← z] at h1
    have h3 := h1.symm.trans he
    cases h3
    injection c1 with c3
    exact absurd c3 (by decide)
  · rw [z] at h1
    have h3 := h1.symm.trans h2
    cases h3
    rw [c1] at c2
    injection c2 with c3
    exact absurd c3 (by decide)
theorem turnEnumT {P : Program} {w : World} {K : PySem.W.Frag} {elts : List Expr} {kk : Nat} {tpos : Pos} (a e it : Addr) (n : Nat) :
    Turn P w K (.Tuple elts kk tpos) (IteT K a n) [e, it] e (fun i h => (∃ old, IsEnum h e it ((i : Nat) : Int) old) ∧ h.IsTupleIter it a i ∧ e ≠ it ∧ i ≤ n) where
  mem := List.mem_cons_self
  obj := fun i h st b hb => by
    obtain ⟨⟨old, he⟩, ⟨o, ho, hc, hd⟩, _⟩ := st
    rcases List.mem_cons.mp hb with z | z
    · exact ⟨_, by rw [z]; exact he, fun v q => by cases q⟩
    · exact ⟨o, by rw [List.mem_singleton.mp z]; exact ho, fun v q => by rw [hd] at q; cases q⟩
  keep := fun i h h' st k => ⟨⟨st.1.choose, k e List.mem_cons_self _ st.1.choose_spec⟩, st.2.1.at fun o q => k it (List.mem_cons_of_mem _ List.mem_cons_self) o q, st.2.2⟩
  item := fun X hP hw hK hc i pins s σ H E I hf st hg => by
    subst hP hw hK
    obtain ⟨⟨old, he⟩, hit, hne, _⟩ := st
    obtain ⟨hin, xs, hq, hl⟩ := hg
    obtain ⟨its, rv, p, _⟩ := I.tuple hq
    have pt : s.heap.IsTuple a its.toArray := p
    have hlen := rv.length
    obtain ⟨u, hu, ru⟩ := rv.get (show xs[i]? = some xs[i] from List.getElem?_eq_getElem (by omega))
    obtain ⟨n1, n2⟩ := enum_tup_ne he hit pt
    have hel : e < s.heap.objs.size := Heap.lt_size he
    have hil : it < s.heap.objs.size := by obtain ⟨_, q, _⟩ := hit; exact Heap.lt_size q
    refine wpAny_pyNext_enum_itemD (n := its.toArray.size) (Draws.tuple (A := X.A.in1) (I.ok.hd hc) it a n2 its.toArray) he ⟨hit, pt⟩ (by simp; omega) hne (fun z => ?_) fun x h2 tk hPx ho hst2 hT hsz hk => ?_
    · rcases List.mem_cons.mp z with z | z
      · exact hne z
      · exact n1 (List.mem_singleton.mp z)
    have ex : x = u := by
      have z : its[i]? = some x := by simpa using hPx
      rw [hu] at z
      exact (Option.some.inj z).symm
    subst ex
    refine ⟨_, rfl, wpAny_letOwnedTupleGo_enum (s := { s with heap := h2, toks := tk + 1 }) ho fun h3 he3 sb => ?_⟩
    have hT3 : h3.get? s.heap.objs.size = some { cls := .type "tuple", data := .seq #[.int i tk, x] } := (sb.2 _ (Nat.ne_of_gt hel)).trans hT
    have nw : ObjOk X.prog X.w (upd H s.heap.objs.size (.tup [.int (i : Nat), xs[i]])) h3 s.heap.objs.size (.tup [.int (i : Nat), xs[i]]) := ⟨by show 2 ≤ sizeLine; decide, [.int i tk, x], .cons ⟨_, rfl⟩ (.cons ru .nil), ⟨_, hT3, rfl, _, rfl⟩⟩
    have kp : ∀ b ob, b ∉ [e, it] → s.heap.get? b = some ob → h3.get? b = some ob := fun b ob hb q => (sb.2 b fun z => hb (by rw [z]; exact List.mem_cons_self)).trans (hk b ob (fun z => hb (by rw [z]; exact List.mem_cons_self)) (fun z => hb (by rw [z]; exact List.mem_cons_of_mem _ List.mem_cons_self)) q)
    have I1 : Inv X pins σ (upd H s.heap.objs.size (.tup [.int (i : Nat), xs[i]])) { s with heap := h3, toks := tk + 1 } := I.turnedNew (ch := [e, it]) kp hf (Nat.le_refl _) nw
    refine ⟨.ref s.heap.objs.size, _, I1, rfl, ⟨_, xs[i], rfl, I.hok.fresh (Nat.le_refl _), rfl, fun ys hy => by rw [I.tuple_inj hy hq]; exact List.getElem?_eq_getElem (by omega)⟩, ⟨⟨x, ?_⟩, hst2.1.at fun o q => (sb.2 it (Ne.symm hne)).trans q, hne, hin⟩, fun b hb => ?_⟩
    · rw [show ((i + 1 : Nat) : Int) = (i : Int) + 1 by omega]
      exact he3
    · have lt : b < s.heap.objs.size := by
        rcases List.mem_cons.mp hb with z | z
        · rw [z]; exact hel
        · rw [List.mem_singleton.mp z]; exact hil
      rw [upd_ne (Nat.ne_of_lt lt)]
      exact (hf b hb).1
  done := fun X hP hw hK hc i pins s σ H E I hf st hg => by
    subst hP hw hK
    obtain ⟨⟨old, he⟩, hit, hne, hle⟩ := st
    obtain ⟨hin, xs, hq, hl⟩ := hg
    obtain ⟨its, rv, p, _⟩ := I.tuple hq
    have pt : s.heap.IsTuple a its.toArray := p
    have hlen := rv.length
    obtain ⟨n1, n2⟩ := enum_tup_ne he hit pt
    obtain ⟨f0, f1, f2, f3, f4, f5⟩ := hf it (List.mem_cons_of_mem _ List.mem_cons_self)
    have ei : its.toArray.size = i := by simp; omega
    refine wpAny_pyNext_enum_endD (n := its.toArray.size) (Draws.tuple (A := X.A.in1) (I.ok.hd hc) it a n2 its.toArray) he ⟨by rw [ei]; exact hit, pt⟩ fun h2 eb => ⟨rfl, I.turned (t' := s.toks) (fun b ob hb q => eb b ob hb q) f0 f1 f3 f4 f5⟩
  self := fun A i s Q E st h => wpAny_pyIter_enum st.1.choose_spec h
def ItET (K : PySem.W.Frag) (vs : List V) (H : Hp) (R : It → Hp → Prop) : Prop := ∃ a xs, vs = [.ref a] ∧ SqT K H a xs ∧ R (IteT K a xs.length) H
def iEnumT (K : PySem.W.Frag) (ta : TA) : TI := fun σ H R => ta σ H fun vs H1 => ItET K vs H1 R
theorem pi_enumT {X : Cx} {e : Expr} {ta : TA} {p pos tpos : Pos} {elts : List Expr} {kk : Nat} (hg : Gl X "enumerate") (hm : X.mg "enumerate" = none) (ha : PA X [e] ta) (hs : starEach [e] X.env = [(false, eval e X.env)] := by rfl) :
    PI X (.Tuple elts kk tpos) (.Call (.Name "enumerate" p) [e] [] pos) (iEnumT X.K ta) := ⟨fun pins s σ H R I h => by
  refine Call_ (ld_blt I hg hm boot_enumerate (PyProof.Rows.callWith_type1 (thn (ha.run pos pins s σ H _ I h) fun us s1 z => ?_) hs rfl))
  obtain ⟨vs, H1, I1, r1, a, xs, rfl, hq, q⟩ := z
  cases r1 with
  | cons r rr =>
    cases rr
    cases r
    obtain ⟨its, rv, pt, _⟩ := I1.tuple hq
    refine callEnum1 (begins_tuple a its.toArray) (show s1.heap.IsTuple a its.toArray from pt) fun h2 he hit hk => wpAny_pyIter_enum he ?_
    have I2 : Inv X pins σ H1 { s1 with heap := h2 } := I1.kept (t' := s1.toks) hk
    refine ⟨s1.heap.objs.size + 1, [s1.heap.objs.size + 1, s1.heap.objs.size], _, _, H1, rfl, I2, turnEnumT a (s1.heap.objs.size + 1) s1.heap.objs.size xs.length, ⟨⟨.none, he⟩, ⟨_, hit, rfl, rfl⟩, Nat.succ_ne_self _, Nat.zero_le _⟩, fun b hb => ?_, q⟩
    have le : s1.heap.objs.size ≤ b := by
      rcases List.mem_cons.mp hb with z | z
      · rw [z]; exact Nat.le_add_right _ _
      · rw [List.mem_singleton.mp z]; exact Nat.le_refl _
    exact I1.fpOk le (I1.hok.fresh le)⟩
/-! ### loops over a list or a tuple -/
def SqQ (K : PySem.W.Frag) (H : Hp) (a : Addr) (xs : List V) : Prop := SqL K H a xs ∨ SqT K H a xs
/-- a list or a tuple stands on -/
def SqK (K : PySem.W.Frag) (H h : Hp) (a : Addr) (xs : List V) : Prop := (SqL K H a xs → SqL K h a xs) ∧ (SqT K H a xs → SqT K h a xs)
theorem sqT_fresh {K : PySem.W.Frag} {H0 H1 H2 : Hp} {s p : Addr} {xs : List V} (h0 : SqT K H0 s xs) (np : H0 p = none) (h : SqT K H1 s xs) (e : ExB p H1 H2) : SqT K H2 s xs := by
  rcases h with h | h
  · rcases h0 with h0 | h0
    · have n : s ≠ p := fun z => by rcases h0 with h0 | ⟨o, h0⟩ <;> rw [z, np] at h0 <;> cases h0
      rcases h with h | ⟨o, h⟩
      · exact .inl (.inl (e _ _ n h))
      · exact .inl (.inr ⟨o, e _ _ n h⟩)
    · exact .inr h0
  · exact .inr h
theorem SqK.refl {K : PySem.W.Frag} {H : Hp} {a : Addr} {xs : List V} : SqK K H H a xs := ⟨id, id⟩
theorem SqK.ex {K : PySem.W.Frag} {H h h2 : Hp} {a : Addr} {xs : List V} (k : SqK K H h a xs) (e : Ex h h2) : SqK K H h2 a xs := ⟨fun z => ex_l e (k.1 z), fun z => ext e (k.2 z)⟩
theorem SqK.fresh {K : PySem.W.Frag} {H h h2 : Hp} {a p : Addr} {xs : List V} (k : SqK K H h a xs) (n : H p = none) (e : ExB p h h2) : SqK K H h2 a xs := ⟨fun z => sq_fresh z n (k.1 z) e, fun z => sqT_fresh z n (k.2 z) e⟩
theorem exb_tI {K : PySem.W.Frag} {l C dx : Addr} {fs : List (Str × V)} {H H' : Hp} {a : Addr} {xs : List V} (e : ExB l H H') (hl : H l = some (.ins C dx fs)) (h : SqT K H a xs) : SqT K H' a xs := by
  rcases h with (h | ⟨o, h⟩) | h
  · exact .inl (.inl (e _ _ (fun z => by rw [z, hl] at h; cases h) h))
  · exact .inl (.inr ⟨o, e _ _ (fun z => by rw [z, hl] at h; cases h) h⟩)
  · exact .inr h
theorem SqK.ins {K : PySem.W.Frag} {H h h2 : Hp} {a x C dx : Addr} {fs : List (Str × V)} {xs : List V} (k : SqK K H h a xs) (hx : h x = some (.ins C dx fs)) (e : ExB x h h2) : SqK K H h2 a xs := ⟨fun z => exb_lI e hx (k.1 z), fun z => exb_tI e hx (k.2 z)⟩
theorem SqK.q {K : PySem.W.Frag} {H h : Hp} {a : Addr} {xs : List V} (k : SqK K H h a xs) (z : SqQ K H a xs) : SqQ K h a xs := z.elim (fun z => .inl (k.1 z)) fun z => .inr (k.2 z)
section
variable {K : PySem.W.Frag} {σ : L2.St} {H : Hp} {D : Ends} {g : TG} {tb : TS} {Q : VK} {a : Addr} {xs : List V} {ns : List Int} {n m m1 m2 : Nat} {v : V} {R : It → Hp → Prop}
theorem r_lenQ (h : SqQ K H a xs) (q : Q (.int xs.length) H) : rLen K [.ref a] H Q := ⟨a, xs, rfl, h, q⟩
theorem r_iOrV (e : σ[n]? = some (some v)) (h : ItL K v H R ∨ ItT K v H R) : iOr (iList K (tVar n)) (iTup K (tVar n)) σ H R := h.elim (fun h => .inl ⟨_, e, h⟩) fun h => .inr ⟨_, e, h⟩
theorem r_iOrE (e : σ[n]? = some (some v)) (h : ItE K [v] H R ∨ ItET K [v] H R) : iOr (iEnum K (tCons (tVar n) tNil)) (iEnumT K (tCons (tVar n) tNil)) σ H R := h.elim (fun h => .inl ⟨_, e, h⟩) fun h => .inr ⟨_, e, h⟩
theorem forQ (hx : SqQ K H a xs) (Pv : Nat → L2.St → Hp → Prop) (h0 : Pv 0 σ H) (hl : ∀ i s h, i ≤ xs.length → Pv i s h → SqK K H h a xs)
    (hs : ∀ i x s h, xs[i]? = some x → Pv i s h → g x s h fun s2 h2 => tb ⟨Pv (i + 1), D.rt, D.nx, Pv (i + 1)⟩ s2 h2) (hd : ∀ s h, Pv xs.length s h → D.nx s h) : ItL K (.ref a) H (ForW g tb D σ) ∨ ItT K (.ref a) H (ForW g tb D σ) :=
  hx.elim (fun z => .inl (forL z Pv h0 (fun i s h hi p => (hl i s h hi p).1 z) hs hd)) fun z => .inr (forT z Pv h0 (fun i s h hi p => (hl i s h hi p).2 z) hs hd)
theorem forET (hx : SqT K H a xs) (Pv : Nat → L2.St → Hp → Prop) (h0 : Pv 0 σ H) (hl : ∀ i s h, i ≤ xs.length → Pv i s h → SqT K h a xs)
    (hs : ∀ (i : Nat) x s h h2, xs[i]? = some x → Pv i s h → Ex h h2 → tb ⟨Pv (i + 1), D.rt, D.nx, Pv (i + 1)⟩ ((s.set m1 (some (.int i))).set m2 (some x)) h2) (hd : ∀ s h, Pv xs.length s h → D.nx s h) :
    ItET K [.ref a] H (ForW (gTup K 2 (gCons (gName m1) (gCons (gName m2) gNil))) tb D σ) := by
  refine ⟨a, xs, rfl, hx, fun i m s h => m = xs.length - i ∧ i ≤ xs.length ∧ Pv i s h, ⟨xs.length, by simp, Nat.zero_le _, h0⟩, ?_⟩
  rintro i m s h ⟨rfl, hi, p⟩
  have q := hl i s h hi p
  by_cases hlt : i < xs.length
  · refine .inr ⟨⟨hlt, xs, q, rfl⟩, Pv (i + 1), fun s' h' p' => ⟨xs.length - (i + 1), by omega, rfl, hlt, p'⟩, fun x h' y => ?_⟩
    obtain ⟨T, z, rfl, hT, rfl, hz⟩ := y
    exact ⟨T, _, rfl, .inl (.inl upd_same), rfl, _, _, rfl, _, _, rfl, rfl, hs i z s h _ (hz xs q) p (Ex.new hT)⟩
  · have e : i = xs.length := by omega
    subst e
    exact .inl ⟨⟨Nat.le_refl _, xs, q, rfl⟩, hd s h p⟩
theorem forEQ {H0 : Hp} (hx : SqQ K H0 a xs) (k0 : SqK K H0 H a xs) (Pv : Nat → L2.St → Hp → Prop) (h0 : Pv 0 σ H) (hl : ∀ i s h, i ≤ xs.length → Pv i s h → SqK K H0 h a xs)
    (hs : ∀ (i : Nat) x s h h2, xs[i]? = some x → Pv i s h → Ex h h2 → tb ⟨Pv (i + 1), D.rt, D.nx, Pv (i + 1)⟩ ((s.set m1 (some (.int i))).set m2 (some x)) h2) (hd : ∀ s h, Pv xs.length s h → D.nx s h) :
    ItE K [.ref a] H (ForW (gTup K 2 (gCons (gName m1) (gCons (gName m2) gNil))) tb D σ) ∨ ItET K [.ref a] H (ForW (gTup K 2 (gCons (gName m1) (gCons (gName m2) gNil))) tb D σ) :=
  hx.elim (fun z => .inl (forE (k0.1 z) Pv h0 (fun i s h hi p => (hl i s h hi p).1 z) hs hd)) fun z => .inr (forET (k0.2 z) Pv h0 (fun i s h hi p => (hl i s h hi p).2 z) hs hd)
end
/-! ### C(..) in a try's body -/
theorem pe_mkT {X : Cx} {W : WX} (n : Nat) {k : Nat} {ps : List Str} {sp : Sp} {x : Str} {C : Addr} {p pos : Pos} {e : Expr} {es : List Expr} {t : TA} (d : DI X.prog X.w X.K X.mg X.base x C k ps sp) (hr : Room (k + 1) X.A) (tk : Takes X W) (ha : PA X (e :: es) t) (hg : Gl X x := by rfl)
    (hdb : (x == ("__debug__" : Str)) = false := by decide) (he : starEach (e :: es) X.env = (false, eval e X.env) :: starEach es X.env := by rfl) (hpl : (backTo pos (starEach es X.env)).any (·.1) = false := by rfl) (hn : X.N.length = n := by rfl) :
    PE X (.Call (.Name x p) (e :: es) [] pos) (tMake C sp [] (fun cls d H => ∀ σ' : L2.St, σ'.length = n → W cls d σ' H) t) :=
  pe_mkD d hr (passes_call (takes_len tk) (fun cls d σ H h l => h σ (l.trans hn))) ha hg hdb he hpl
/-! ### i in ns -/
theorem eqV_int (n i : Int) : L2.eqV (.int n) (.int i) = decide (n = i) := by
  unfold L2.eqV
  first | rfl | (simp [BEq.beq]) 
theorem inV_int (i : Int) : ∀ ns : List Int, L2.inV (.int i) (ns.map V.int) = decide (i ∈ ns) := by
  intro ns
  unfold L2.inV
  induction ns with
  | nil => rfl
  | cons n ns ih =>
    rw [List.map_cons, List.any_cons, ih, eqV_int, decide_eq_decide.mpr List.mem_cons, Bool.decide_or]
    congr 1
    exact decide_eq_decide.mpr ⟨Eq.symm, Eq.symm⟩
theorem flat_int (ns : List Int) : (ns.map V.int).all L2.flatV = true := by
  rw [List.all_eq_true]
  intro x hx
  obtain ⟨n, _, rfl⟩ := List.mem_map.mp hx
  rfl
theorem r_inI {K : PySem.W.Frag} {H : Hp} {Q : VK} {p : Addr} {ns : List Int} {i : Int} (h : SqL K H p (ns.map V.int)) (q : Q (.bl (decide (i ∈ ns))) H) : rIn K false (.int i) (.ref p) H Q := ⟨p, _, rfl, .inl h, rfl, flat_int ns, by rw [inV_int]; exact q⟩
end Lay
/-! C() without an __init__; pairs that are lists or tuples -/
namespace Lay
open PySem PySem.Spec PyProof.Rows L2 Evl
/-! ### C() of a class without __init__ -/
def tMk00 (C : Addr) : TE := fun _ H Q => ∀ x dx, H x = none → H dx = none → dx ≠ x → Q (.ref x) (upd (upd H dx (.own x)) x (.ins C dx []))
structure Mk00 (K : PySem.W.Frag) (mg : Str → Option Value) (x : Str) (C : Addr) : Prop where
  makes : PySem.W.makesIn K C = true
  init : PySem.W.findIn K (.ref C) "__init__" = some (some (.builtin "object.__init__"))
  kp : PySem.W.keepIn K (.ref C) = true
  g : mg x = some (.ref C)
theorem run_mk00 {X : Cx} {pins : List (Addr × Obj)} {σ : L2.St} {H : Hp} {s : Shared} {Q : VK} {x : Str} {C : Addr} (M : Mk00 X.K X.mg x C) (I : Inv X pins σ H s)
    (h : ∀ x dx, H x = none → H dx = none → dx ≠ x → Q (.ref x) (upd (upd H dx (.own x)) x (.ins C dx []))) : wpAny (model X.prog X.w) X.A (call (.ref C) []) (EP X pins σ Q) X.xe s := by
  have q := h (s.heap.objs.size + 1) s.heap.objs.size (I.hok.fresh (Nat.le_succ _)) (I.hok.fresh (Nat.le_refl _)) (Nat.ne_of_lt (Nat.lt_succ_self _))
  have J := Inv.made (C := C) I
  have top := (PySem.W.makes_of (M := model X.prog X.w) I.kIn M.makes).top
  refine wpAny_call (make_map0 I.kIn M.makes M.init (fun self => PySem.W.Looks.of_pure (PySem.W.oi_bind self)) ?_)
  have e2 : ((s.heap.push PySem.W.emptyDict).push (PySem.W.instObj C s.heap.objs.size)).get? (s.heap.objs.size + 1) = some (PySem.W.instObj C s.heap.objs.size) := by
    have z := Heap.get?_push_size (s.heap.push PySem.W.emptyDict) (o := PySem.W.instObj C s.heap.objs.size) rfl
    rw [Heap.size_push] at z
    exact z
  have l1 : PySem.W.Looks (model X.prog X.w) ((s.heap.push PySem.W.emptyDict).push (PySem.W.instObj C s.heap.objs.size)) (typeOf (.ref (s.heap.objs.size + 1))) (.ref C) := (PySem.W.Looks.ld e2).andThen .now
  have l2 : PySem.W.Looks (model X.prog X.w) ((s.heap.push PySem.W.emptyDict).push (PySem.W.instObj C s.heap.objs.size)) (isInstance (.ref (s.heap.objs.size + 1)) (.type "object")) true :=
    l1.andThen (top.keeps fun b o e => Heap.get?_push_of_some _ (Heap.get?_push_of_some _ e))
  refine PySem.codeAny_call_builtin PySem.W.oi_plain PySem.W.entry_oi (PySem.W.check_slot PySem.W.oi_kind PySem.W.oi_split l2 (PySem.W.oi_args _) ?_)
  rw [PySem.W.oi_run]
  exact wpAny_pure ⟨rfl, ⟨V.ref (s.heap.objs.size + 1), _, J, rfl, q⟩⟩
theorem pe_mk00 {X : Cx} {x : Str} {C : Addr} {p pos : Pos} (M : Mk00 X.K X.mg x C) (hg : Gl X x := by rfl) (hdb : (x == ("__debug__" : Str)) = false := by decide) : PE X (.Call (.Name x p) [] [] pos) (tMk00 C) := ⟨fun pins s σ H Q I h => by
  refine wpAny_Call_Name_kw (ld_glob I hg M.g ?_ hdb)
  exact PySem.W.callWith_K0 I.kIn M.kp (run_mk00 M I h)⟩
theorem r_mk00 {C : Addr} {σ : L2.St} {H : Hp} {Q : VK} (h : ∀ x dx H2, H x = none → Ex H H2 → H2 x = some (.ins C dx []) → Q (.ref x) H2) : tMk00 C σ H Q := fun x dx nx nd ne => h x dx _ nx (fun b o hb => by
  rw [upd_ne (ne_of_none hb nx), upd_ne (ne_of_none hb nd)]
  exact hb) upd_same
end Lay
/-! repr: its text is known where no list is being shown; defs that know this of their callers -/
namespace Lay
open PySem PySem.Spec PyProof.Rows L2 Evl
/-! ### repr of data -/
def rRepr (K : PySem.W.Frag) : List V → Hp → VK → Prop := fun vs H Q => ∃ (a : Addr) (d : PyData), vs = [.ref a] ∧ Dp K H (.ref a) d ∧ d.showable = true ∧ d.hasDict = false ∧ d.shown.length ≤ sizeLine ∧ d.depth ≤ 60 ∧ Q (.str d.shown) H
section
variable {X : Cx}
theorem cr_repr (hg : X.A.guards = some []) (hu : X.A.units + 64 < cLine) : CallR X (.builtin "repr") (rRepr X.K) := by
  intro pins s σ H vs us Q I r h
  obtain ⟨a, d, rfl, hd, hs, hn, hl, hp, q⟩ := h
  rw [Vals.ref1 r]
  obtain ⟨as, R⟩ := Dp.reads I d _ _ hd (show RelV (.ref a) (.ref a) from rfl)
  refine PySem.repr_of_reads' R hs (PyData.noDict_hsm hn) hg (by omega) (fun _ _ e => e) (fun h' u tk hk => ?_) hl
  exact ⟨.str d.shown, H, I.kept hk, ⟨_, rfl⟩, q⟩
theorem guards_deeper {A : Around} {qual : Str} {sc : Scope} {n : Nat} {f : Addr} {cdv : Value} (h : A.guards = some []) : (A.deeper (envOfC qual sc n f cdv)).guards = some [] := by
  first | exact h | (simp [Around.deeper, Around.under, pushGuards, Code.guards, Code.isGuard, h])
end
/-! ### x is True -/
def rIsB (neg : Bool) : R2 := fun x y H Q => ∃ a b : Bool, x = .bl a ∧ y = .bl b ∧ Q (.bl (if neg = true then !decide (a = b) else decide (a = b))) H
section
variable {X : Cx}
theorem op_isB : OpR X (compareOp .Is) (rIsB false) := by
  intro pins s σ H x y v u Q I rx ry h
  obtain ⟨a, b, rfl, rfl, q⟩ := h
  cases rx
  cases ry
  exact PySem.wpAny_is_plain rfl ⟨.bl _, H, I, by show Value.bool _ = Value.bool _; congr 1; cases a <;> cases b <;> rfl, q⟩
theorem op_notB : OpR X (compareOp .IsNot) (rIsB true) := by
  intro pins s σ H x y v u Q I rx ry h
  obtain ⟨a, b, rfl, rfl, q⟩ := h
  cases rx
  cases ry
  exact PySem.wpAny_isNot_plain rfl ⟨.bl _, H, I, by show Value.bool _ = Value.bool _; congr 1; cases a <;> cases b <;> rfl, q⟩
end
/-! ### max and min of a tuple of ints -/
section
variable {prog : Program} {w : World} {A : Around} {E : Value → Shared → Prop} {s : Shared} {l : Addr} {its : List Value} {ns : List Int} {Q : Value → Shared → Prop}
theorem max_tup (hh : A.handled = none) (hl : s.heap.IsTuple l its.toArray) (hi : IntsAre its ns) (hne : 0 < ns.length)
    (h : ∀ h' tk M t', (∀ b o, s.heap.get? b = some o → h'.get? b = some o) → M ∈ ns → (∀ a, a ∈ ns → a ≤ M) → Q (.int M t') { s with heap := h', toks := tk }) : wpAny (model prog w) A (call (.builtin "max") [.ref l]) Q E s := by
  obtain ⟨xs, e⟩ := hi.allInts.items
  have hn : numsOf (intItems xs).toList = ns := by rw [← e]; exact hi.numsOf
  rw [nums_intItems] at hn
  subst hn
  rw [e] at hl
  have hsz : 0 < xs.size := by simpa using hne
  have hlt : l < s.heap.objs.size := by obtain ⟨_, e, _⟩ := hl; exact Heap.lt_size e
  refine PySem.call_max_walk (wpAny_pyIter_tuple hl ?_)
  refine ⟨_, [_, l], [_], _, _, _, _, rfl, Walks.tuple (A := A.in1) hh _ l (Nat.ne_of_lt hlt) (intItems xs), ⟨⟨_, Heap.get?_push_size _ rfl, rfl, rfl⟩, hl.push _⟩, fun b hb => ?_, by simpa [intItems] using hsz, CmpOf.ints_gt (numAt xs) (fun _ _ => intItems_at), fun v h' tk hP hk => ?_⟩
  · show b < (s.heap.push _).objs.size
    rw [Heap.size_push]
    rcases List.mem_cons.mp hb with rfl | hb
    · exact Nat.lt_succ_self _
    · rw [List.mem_singleton.mp hb]; exact Nat.lt_succ_of_lt hlt
  · have hv : (intItems xs)[argBest (fun i j => decide (numAt xs i > numAt xs j)) (xs.size - 1)]? = some v := by simpa [intItems] using hP
    obtain ⟨t, rfl⟩ := intItems_at hv
    obtain ⟨h1, h2⟩ := argBest_gt (numAt xs) (xs.size - 1)
    refine h h' tk _ t (fun b o e => hk b o (fun hm => absurd ((List.mem_singleton.mp hm) ▸ Heap.lt_size e) (Nat.lt_irrefl _)) (Heap.get?_push_of_some _ e)) ?_ fun a ha => ?_
    · rw [numAt_eq]; exact PySem.getD_mem (by rw [List.length_map, Array.length_toList]; omega)
    · obtain ⟨j, hj, rfl⟩ := mem_getD ha
      rw [List.length_map, Array.length_toList] at hj
      have := h2 j (by omega)
      rw [numAt_eq] at this
      exact this
theorem min_tup (hh : A.handled = none) (hl : s.heap.IsTuple l its.toArray) (hi : IntsAre its ns) (hne : 0 < ns.length)
    (h : ∀ h' tk M t', (∀ b o, s.heap.get? b = some o → h'.get? b = some o) → M ∈ ns → (∀ a, a ∈ ns → M ≤ a) → Q (.int M t') { s with heap := h', toks := tk }) : wpAny (model prog w) A (call (.builtin "min") [.ref l]) Q E s := by
  obtain ⟨xs, e⟩ := hi.allInts.items
  have hn : numsOf (intItems xs).toList = ns := by rw [← e]; exact hi.numsOf
  rw [nums_intItems] at hn
  subst hn
  rw [e] at hl
  have hsz : 0 < xs.size := by simpa using hne
  have hlt : l < s.heap.objs.size := by obtain ⟨_, e, _⟩ := hl; exact Heap.lt_size e
  refine PySem.call_min_walk (wpAny_pyIter_tuple hl ?_)
  refine ⟨_, [_, l], [_], _, _, _, _, rfl, Walks.tuple (A := A.in1) hh _ l (Nat.ne_of_lt hlt) (intItems xs), ⟨⟨_, Heap.get?_push_size _ rfl, rfl, rfl⟩, hl.push _⟩, fun b hb => ?_, by simpa [intItems] using hsz, CmpOf.ints_lt (numAt xs) (fun _ _ => intItems_at), fun v h' tk hP hk => ?_⟩
  · show b < (s.heap.push _).objs.size
    rw [Heap.size_push]
    rcases List.mem_cons.mp hb with rfl | hb
    · exact Nat.lt_succ_self _
    · rw [List.mem_singleton.mp hb]; exact Nat.lt_succ_of_lt hlt
  · have hv : (intItems xs)[argBest (fun i j => decide (numAt xs i < numAt xs j)) (xs.size - 1)]? = some v := by simpa [intItems] using hP
    obtain ⟨t, rfl⟩ := intItems_at hv
    obtain ⟨h1, h2⟩ := argBest_lt (numAt xs) (xs.size - 1)
    refine h h' tk _ t (fun b o e => hk b o (fun hm => absurd ((List.mem_singleton.mp hm) ▸ Heap.lt_size e) (Nat.lt_irrefl _)) (Heap.get?_push_of_some _ e)) ?_ fun a ha => ?_
    · rw [numAt_eq]; exact PySem.getD_mem (by rw [List.length_map, Array.length_toList]; omega)
    · obtain ⟨j, hj, rfl⟩ := mem_getD ha
      rw [List.length_map, Array.length_toList] at hj
      rw [← numAt_eq]; exact h2 j (by omega)
end
def rMaxT (K : PySem.W.Frag) : List V → Hp → VK → Prop := fun vs H Q => ∃ (a : Addr) (ns : List Int), vs = [V.ref a] ∧ SqT K H a (ns.map V.int) ∧ 0 < ns.length ∧ ∀ m, m ∈ ns → (∀ y, y ∈ ns → y ≤ m) → Q (.int m) H
def rMinT (K : PySem.W.Frag) : List V → Hp → VK → Prop := fun vs H Q => ∃ (a : Addr) (ns : List Int), vs = [V.ref a] ∧ SqT K H a (ns.map V.int) ∧ 0 < ns.length ∧ ∀ m, m ∈ ns → (∀ y, y ∈ ns → m ≤ y) → Q (.int m) H
section
variable {X : Cx}
theorem cr_maxT (hc : X.calm = true) : CallR X (.builtin "max") (rMaxT X.K) := by
  intro pins s σ H vs us Q I r h
  obtain ⟨a, ns, rfl, hs, hne, q⟩ := h
  obtain ⟨its, rv, hl, _⟩ := I.tuple hs
  rw [Vals.ref1 r]
  exact max_tup (I.ok.hd hc) hl rv.ints hne fun h' tk m t' hk h1 h2 => ⟨.int _, H, I.kept hk, ⟨_, rfl⟩, q m h1 h2⟩
theorem cr_minT (hc : X.calm = true) : CallR X (.builtin "min") (rMinT X.K) := by
  intro pins s σ H vs us Q I r h
  obtain ⟨a, ns, rfl, hs, hne, q⟩ := h
  obtain ⟨its, rv, hl, _⟩ := I.tuple hs
  rw [Vals.ref1 r]
  exact min_tup (I.ok.hd hc) hl rv.ints hne fun h' tk m t' hk h1 h2 => ⟨.int _, H, I.kept hk, ⟨_, rfl⟩, q m h1 h2⟩
end
/-! ### defs whose callers show nothing -/
structure FnOkG (P : Program) (w : World) (K : PySem.W.Frag) (mg : Str → Option Value) (base : Heap) (k : Nat) (f : Addr) (fd : FuncData) (ps : List Str) (sp : Sp) : Prop where
  len : ∀ vs H Q E, sp vs H Q E → vs.length = ps.length
  run : ∀ (A : Around) (outer : List Env) (s : Shared) (H : Hp) (args : Args) (us : List Value) (vs : List V) (Q : VK) (E : XK), A.guards = some [] → Room k A → Env0 P w K mg base A outer s H → BindsTo s fd args (ps.zip us) → Vals vs us → sp vs H Q E →
    codeAny (model P w) A (.call (.ref f) args) (CR (L2.CX P w) outer P w H s Q E) s
structure DefG (P : Program) (w : World) (K : PySem.W.Frag) (mg : Str → Option Value) (base : Heap) (x : Str) (k : Nat) (ps : List Str) (sp : Sp) : Prop where
  ex : ∃ (f : Addr) (fd : FuncData), FnOkG P w K mg base k f fd ps sp ∧ mg x = some (.ref f) ∧ PySem.W.keepIn K (.ref f) = true ∧ Binds K fd ps []
section
variable {P : Program} {w : World} {K : PySem.W.Frag} {mg : Str → Option Value} {base : Heap}
theorem fn_okG {x : Str} {st : Stmt} {f : Addr} {fd : FuncData} {N ps : List Str} {k : Nat} {sp : Sp} (F : Fun K x x st f fd) (S : FnScope N ps (defScope st)) (len : ∀ vs H Q E, sp vs H Q E → vs.length = ps.length)
    (hbody : ∀ (cdv : Value) (A : Around) (outer : List Env) (s : Shared) (H : Hp) (vs : List V) (Q : VK) (E : XK), (A.deeper (envOfC x (defScope st) s.heap.objs.size f cdv)).guards = some [] → Room k (A.deeper (envOfC x (defScope st) s.heap.objs.size f cdv)) → sp vs H Q E →
      ∃ t, PSs (cxOf (L2.CX P w) P w K mg base N x (defScope st) f cdv A outer s H E) (defBody st) t ∧ t { nx := fun _ H' => Q .non H', rt := Q } (start N vs) H) : FnOkG P w K mg base (k + 1) f fd ps sp := by
  obtain ⟨oc, od, kV, doc, pm, an, cdv, ct, osl, rfl, lk, hcd⟩ := F.ex
  refine ⟨len, fun A outer s H args us vs Q E hG hr e0 hb r hsp => ?_⟩
  have hl := len _ _ _ _ hsp
  have KX : K.In s.heap := e0.mod.kin.keeps fun b o e => (e0.bs b o e).1
  refine codeAny_call_function hr.depth (KX _ _ lk) rfl S.co S.gen rfl (PySem.W.codeRec_of KX hcd) (hb _ _ _ _ ?_)
  refine wpAny_newFunctionEnv_cells S.kind (fun y hy => ?_) fun env he s1 x1 => ?_
  · obtain ⟨n, v⟩ := y
    exact (S.par n (List.of_mem_zip hy).1).imp id fun q => ⟨q, PySem.W.cellsFrom_some _ _ _ (.inl q)⟩
  · subst he
    refine ⟨(e0.mod.nolimit.keeps fun b o e => (e0.bs b o e).1).keeps x1.toInCall.keep, codeAny_func ?_⟩
    obtain ⟨t, ht, hq⟩ := hbody cdv A outer s H vs Q E (guards_deeper hG) (hr.deeper _) hsp
    have I := inv_start (CX := L2.CX P w) (E := E) S hr.hd e0 hl r x1
    refine wpAny_mono (ht.run [] s1 (start N vs) H _ I hq) (fun fl s' hs => ?_) fun e s' hs => hs
    cases fl with
    | ret u =>
      obtain ⟨v, σ', H', J, rv, q⟩ := hs
      exact ⟨v, H', J.os, J.bare, J.base, J.hok, rv, q⟩
    | next =>
      obtain ⟨σ', H', J, q⟩ := hs
      exact ⟨V.non, H', J.os, J.bare, J.base, J.hok, rfl, q⟩
    | brk =>
      obtain ⟨_, _, _, q⟩ := hs
      exact False.elim q
    | cont =>
      obtain ⟨_, _, _, q⟩ := hs
      exact False.elim q
theorem DefG.mk' {x : Str} {st : Stmt} {N ps : List Str} {k : Nat} {sp : Sp} (F : At K mg x st ps) (S : FnScope N ps (defScope st)) (len : ∀ vs H Q E, sp vs H Q E → vs.length = ps.length)
    (hbody : ∀ (f : Addr) (cdv : Value) (A : Around) (outer : List Env) (s : Shared) (H : Hp) (vs : List V) (Q : VK) (E : XK), (A.deeper (envOfC x (defScope st) s.heap.objs.size f cdv)).guards = some [] → Room k (A.deeper (envOfC x (defScope st) s.heap.objs.size f cdv)) → sp vs H Q E →
      ∃ t, PSs (cxOf (L2.CX P w) P w K mg base N x (defScope st) f cdv A outer s H E) (defBody st) t ∧ t { nx := fun _ H' => Q .non H', rt := Q } (start N vs) H) : DefG P w K mg base x (k + 1) ps sp := by
  obtain ⟨f, fd, Ff, g, b⟩ := F.ex
  exact ⟨f, fd, fn_okG Ff S len (hbody f), g, Ff.kp, b⟩
end
section
variable {X : Cx} {k : Nat} {ps : List Str} {sp : Sp} {E : XK} {x : Str} {p pos : Pos} {e : Expr} {es : List Expr} {t : TA}
theorem pe_dG (d : DefG X.prog X.w X.K X.mg X.base x k ps sp) (hG : X.A.guards = some []) (hr : Room k X.A) (hx : Passes (L2.CX X.prog X.w) X E) (ha : PA X (e :: es) t) (hg : Gl X x := by rfl)
    (hdb : (x == ("__debug__" : Str)) = false := by decide) (he : starEach (e :: es) X.env = (false, eval e X.env) :: starEach es X.env := by rfl) (hpl : (backTo pos (starEach es X.env)).any (·.1) = false := by rfl) :
    PE X (.Call (.Name x p) (e :: es) [] pos) (tCallS sp (fun _ => E) t) := by
  obtain ⟨f, fd, F, hm, kp, b⟩ := d.ex
  refine ⟨fun pins s σ H Q I h => ?_⟩
  refine wpAny_Call_Name_kw (ld_glob I hg hm ?_ hdb)
  refine PySem.W.callWith_K (h₀ := X.base) I.ok.mod.kin kp (thn (ha.run pos pins s σ H _ I h) fun us s1 ⟨vs, H1, I1, r, q⟩ => ⟨I1.kIn, ?_⟩) he hpl
  have hl : us.length = ps.length := by rw [← r.length]; exact F.len _ _ _ _ q
  have b1 := b s1 us I1.kIn (by rw [List.append_nil]; exact hl)
  rw [List.append_nil] at b1
  refine wpAny_call (codeAny_mono (F.run X.A X.stack s1 H1 ⟨us, []⟩ us vs Q E hG hr I1.env0 b1 r q) fun r s' hq => ?_)
  cases r with
  | error e => exact hx pins σ H1 s1 e s' I1 hq
  | ok fl =>
    cases fl with
    | ret u => exact I1.after hq
    | next => exact False.elim hq
    | brk => exact False.elim hq
    | cont => exact False.elim hq
end
/-! ### the law, called by the harness: no list is being shown -/
theorem law_run {P : Program} {w : World} {K : PySem.W.Frag} {mg mb : Str → Option Value} {fa a : Addr} {cs : List (Addr × Addr)} {s₁ : Shared} {vs : List Value} {ns : List Int}
    (KX : K.In s₁.heap) (hns : s₁.heap.Ns mainGlobals mg) (hb : s₁.heap.Ns builtinsNs mb) (hbb : ∀ x : Str, x ≠ "__name__" → mb x = bootBuiltins x) (hlim : s₁.heap.NoLimit) (hg : s₁.gens = #[])
    (hT : ∀ p ∈ cs, s₁.heap.get? p.2 = some { cls := .none, data := .fields #[] }) (nT : ∀ p ∈ cs, K.lookup p.2 = none) (C : ∀ p ∈ cs, PySem.W.CodeHd s₁.heap p.1 p.2)
    (hbm : ∃ (bm : Addr) (ob : Obj), mg "__builtins__" = some (.ref bm) ∧ bm ≠ builtinsNs ∧ s₁.heap.get? bm = some ob ∧ ob.cls = .type "module" ∧ ob.dict = some builtinsNs ∧ ob.data = .plain)
    (ha : s₁.heap.get? a = some { cls := .type "list", data := .seq vs.toArray }) (hi : IntsAre vs ns) (hl : ns.length ≤ sizeLine)
    (run : ∀ (base : Heap) (H : Hp), K.In base → base.Ns mainGlobals mg → (∀ p ∈ cs, LamX.TabB base mg p.1 p.2) → Env0 P w K mg base callerA [] s₁ H → (∀ p ∈ cs, H p.2 = some (.tbl #[])) → SqL K H a (ns.map V.int) →
      codeAny (model P w) callerA (.call (.ref fa) ⟨[.ref a], []⟩) (CR (L2.CX P w) [] P w H s₁ (fun v _ => v = .bl true) fun _ _ _ => False) s₁) :
    codeAny (model P w) callerA (.call (.ref fa) ⟨[.ref a], []⟩) (fun r s' => r = .ok (.ret (.bool true)) ∧ OldK s₁.heap s'.heap ∧ s'.os = s₁.os ∧ AllBare s'.gens) s₁ := by
  open Classical in
  -- what is tracked: the tables; the script, if the module does not hold it
  let T : Addr → Prop := fun b => ∃ p ∈ cs, p.2 = b
  let H : Hp := fun b => if T b then some (.tbl #[]) else if b = a ∧ K.lookup a = none then some (.frz { cls := .type "list", data := .seq vs.toArray } (.lst (ns.map V.int))) else none
  have tab : ∀ b, T b → s₁.heap.get? b = some { cls := .none, data := .fields #[] } := fun b ⟨p, hp, e⟩ => e ▸ hT p hp
  have two : ∀ {b u}, H b = some u → (T b ∧ u = .tbl #[]) ∨ (b = a ∧ K.lookup a = none ∧ u = .frz { cls := .type "list", data := .seq vs.toArray } (.lst (ns.map V.int))) := fun {b u} h => by
    by_cases t : T b
    · exact .inl ⟨t, (Option.some.inj ((if_pos t).symm.trans h)).symm⟩
    · have h := (if_neg t).symm.trans h
      by_cases c : b = a ∧ K.lookup a = none
      · exact .inr ⟨c.1, c.2, (Option.some.inj ((if_pos c).symm.trans h)).symm⟩
      · cases (if_neg c).symm.trans h
  have hH : ∀ p ∈ cs, H p.2 = some (.tbl #[]) := fun p hp => if_pos ⟨p, hp, rfl⟩
  have aT : ¬ T a := fun t => by
    have q := tab a t
    rw [ha] at q
    cases congrArg Obj.data (Option.some.inj q)
  have lenV := hi.length
  have free : ∀ {b : Addr} {o : Obj}, s₁.heap.get? b = some o → (∀ xs n, o.data ≠ .seq xs n) → o.data ≠ .fields #[] → H b = none := fun {b o} e h1 h2 => by
    cases q : H b with
    | none => rfl
    | some u =>
      rcases two q with ⟨t, _⟩ | ⟨rfl, _, _⟩
      · rw [tab b t] at e
        cases e
        exact (h2 rfl).elim
      · rw [ha] at e
        cases e
        exact (h1 _ _ rfl).elim
  have keepN : ∀ {b : Addr} {m : Str → Option Value}, s₁.heap.Ns b m → (hidT s₁.heap H).Ns b m := fun {b m} ⟨o, es, ep, e, d, r⟩ =>
    ⟨o, es, ep, hidT_get e (free e (fun xs n z => by rw [d] at z; cases z) fun z => by rw [d] at z; cases z), d, r⟩
  have hKb : K.In (hidT s₁.heap H) := fun b o e => hidT_get (KX b o e) (by
    cases q : H b with
    | none => rfl
    | some u =>
      rcases two q with ⟨⟨p, hp, rfl⟩, _⟩ | ⟨rfl, k, _⟩
      · rw [nT p hp] at e; cases e
      · rw [k] at e; cases e)
  have hM : L2.Mod K mg (hidT s₁.heap H) := ⟨hKb, keepN hns, ⟨mb, keepN hb, hbb⟩, let ⟨mc, h1, h2⟩ := hlim; ⟨mc, keepN h1, h2⟩⟩
  have TB : ∀ p ∈ cs, LamX.TabB (hidT s₁.heap H) mg p.1 p.2 := fun p hp => by
    have hTp := hT p hp
    refine ⟨?_, ?_, fun z => ?_⟩
    · obtain ⟨o, us, file, tf, flags, tg, inF, text, tt, e1, r1, r2, r3, rest⟩ := C p hp
      refine ⟨o, us, file, tf, flags, tg, inF, text, tt, hidT_get e1 (free e1 (fun xs n z => by rw [r2] at z; cases z) fun z => ?_), r1, r2, r3, rest⟩
      rw [r2] at z
      cases z
      simp at r3
    · obtain ⟨bm, ob, b1, b2, b3, b4, b5, b6⟩ := hbm
      refine ⟨bm, ob, b1, b2, fun q => ?_, fun q => ?_, hidT_get b3 (free b3 (fun xs n z => by rw [b6] at z; cases z) fun z => by rw [b6] at z; cases z), b4, b5, b6⟩
      · obtain ⟨o, es, ep, e, hd, _⟩ := hns
        rw [q, e] at b3
        cases b3
        rw [hd] at b6
        cases b6
      · rw [q, hTp] at b3
        cases b3
        cases b6
    · obtain ⟨o, es, ep, e, hd, _⟩ := hns
      rw [z, hTp] at e
      cases e
      cases hd
  have hok : HOk P w H s₁.heap := fun b u z => by
    rcases two z with ⟨t, rfl⟩ | ⟨rfl, _, rfl⟩
    · exact tab b t
    · exact ⟨ha, by rw [List.length_map]; exact hl, vs, _, vals_ints hi, ha⟩
  have hS : SqL K H a (ns.map V.int) := by
    cases k : K.lookup a with
    | none => exact .inl (.inr ⟨_, (if_neg aT).trans (if_pos ⟨rfl, k⟩)⟩)
    | some o =>
      have e := KX a o k
      rw [ha] at e
      cases e
      exact .inr ⟨_, vs.toArray, _, k, rfl, rfl, rfl, by rw [List.size_toArray, lenV]; exact hl, by simpa using vals_ints hi⟩
  have none_in : ∀ {b : Addr} {p : Prop}, b ∈ ([] : List Addr) → p := fun z => (List.not_mem_nil z).elim
  have e0 : Env0 P w K mg (hidT s₁.heap H) callerA [] s₁ H := ⟨rfl, hM, fun b o e => of_hidT e, Nat.le_of_eq (hidT_size _ _), trivial, fun b hb => none_in (show b ∈ ([] : List Addr) from hb), hok, .of_eq hg⟩
  refine codeAny_mono (run _ H hKb (keepN hns) TB e0 hH hS) fun r s' h => ?_
  cases r with
  | error e =>
    obtain ⟨_, _, _, _, _, _, _, _, _, _, _, _, z⟩ := h
    exact z.elim
  | ok fl =>
    cases fl with
    | next => exact False.elim h
    | brk => exact False.elim h
    | cont => exact False.elim h
    | ret u =>
      obtain ⟨v, H', os, bare, un, hok', r', q⟩ := h
      have q : v = .bl true := q
      subst q
      obtain rfl : u = Value.bool true := r'
      have key : ∀ b o, ¬ T b → s₁.heap.get? b = some o → s'.heap.get? b = some o := fun b o t e => by
        cases q : H b with
        | none => exact un.keep b o e q (fun z => none_in (show b ∈ ([] : List Addr) from z)) (by simp)
        | some u =>
          rcases two q with ⟨t', _⟩ | ⟨rfl, _, rfl⟩
          · exact (t t').elim
          · obtain ⟨e2, _⟩ := hok' b _ (un.frzs b _ _ q)
            rw [ha] at e
            cases e
            exact e2
      have grown : ∀ p ∈ cs, ∃ more : Array Value, s'.heap.get? p.2 = some { cls := .none, data := .fields more } := fun p hp => by
        obtain ⟨more, z⟩ := un.tbls p.2 #[] (hH p hp)
        exact ⟨_, hok' p.2 _ z⟩
      refine ⟨rfl, ⟨fun b o e => ?_, fun b o e => ?_⟩, os, bare⟩
      · by_cases t : T b
        · obtain ⟨p, hp, rfl⟩ := t
          obtain ⟨more, hm⟩ := grown p hp
          rw [hT p hp] at e
          cases e
          exact .inr (.inl ⟨((C p hp).tab (hT p hp)).isCodeTable, rfl, #[], more, rfl, by rw [Array.empty_append]; exact hm⟩)
        · exact .inl (key b o t e)
      · by_cases t : T b
        · obtain ⟨p, hp, rfl⟩ := t
          obtain ⟨more, hm⟩ := grown p hp
          exact ⟨_, hm⟩
        · exact ⟨o, key b o t e⟩
theorem end_ofTsG {l : PySem.W.OpenLaw} {k : Nat} {q : Program} {loose : List Str} {XP : (Str → Option Value) → Heap → Prop} {YP : World → Heap → Prop} {d : DefRec} {K : Params → PySem.W.Frag} {sp : PySem.W.Frag → List (Addr × Addr) → Sp}
    (hn : l.most = some 63) (hdf : d.params.defaults = []) (hr : Room k callerA) (hY : ∀ (w : World) (h : Heap), YP w h → (K w.params).In h)
    (hsp : ∀ (K : PySem.W.Frag) (cs : List (Addr × Addr)) (H : Hp) (a : Addr) (ns : List Int), ns.length ≤ 63 → (∀ p ∈ cs, H p.2 = some (.tbl #[])) → SqL K H a (ns.map V.int) → sp K cs [.ref a] H (fun v _ => v = .bl true) fun _ _ _ => False)
    (F : ∀ (w : World) (mg : Str → Option Value) (fa : Addr) (h : Heap), (K w.params).In h → h.Ns mainGlobals mg → mg d.name = some (.ref fa) →
      ∃ (fd : FuncData) (cs : List (Addr × Addr)), (∀ p ∈ cs, (∃ x, ((recsOf q).find? fun e => e.name == x).isSome = true ∧ PySem.W.tabIn (K w.params) x = some p) ∧ (K w.params).lookup p.2 = none) ∧
        (∀ (s : Shared) (u : Value), BindsTo s fd ⟨[u], []⟩ [("script", u)]) ∧ ∀ base : Heap, (K w.params).In base → base.Ns mainGlobals mg → (∀ p ∈ cs, LamX.TabB base mg p.1 p.2) → FnOkG l.prog w (K w.params) mg base k fa fd ["script"] (sp (K w.params) cs)) :
    PySem.W.WalkO q loose XP YP l.row.toRowW d [] (fun f vs => PySem.call f vs) := by
  refine Att.attach_callB hn hdf fun w s₀ s₁ mg mb fa o pm cd doc a vs ns G Y ho hd hcd hmg hobj hints hlen hbits hg => ?_
  have KX := hY w _ Y
  obtain ⟨fd, cs, hcs, hb, hF⟩ := F w mg fa _ KX G.T.g hmg
  have tb : ∀ p ∈ cs, PySem.W.CodeHd s₁.heap p.1 p.2 ∧ s₁.heap.get? p.2 = some (PySem.W.tabObj #[]) := fun p hp => by
    obtain ⟨⟨x, hx, ht⟩, _⟩ := hcs p hp
    obtain ⟨dr, hdr⟩ := Option.isSome_iff_exists.mp hx
    exact PySem.W.tab_of G.T KX hdr ht
  exact law_run KX G.T.g G.T.b G.T.builtins G.T.nolimit hg (fun p hp => (tb p hp).2) (fun p hp => (hcs p hp).2) (fun p hp => (tb p hp).1) G.T.bmain hobj hints (Nat.le_trans hlen (by decide)) fun base H h1 h2 h3 e0 hH hS =>
    (hF base h1 h2 h3).run callerA [] s₁ H ⟨[.ref a], []⟩ [.ref a] [.ref a] _ _ rfl hr e0 (hb s₁ (.ref a)) (.cons rfl .nil) (hsp _ cs H a ns hlen hH hS)
end Lay
/-! the pure layer: what a def computes, said of data alone -/
namespace Pu
open PySem PySem.Spec PyProof.Rows L2 Evl Lay
/-! ### data -/
inductive D where
  | non | bl (b : Bool) | int (i : Int) | str (s : Str) | lst (xs : List D) | tup (xs : List D) | obj (C : Addr) (fs : List (Str × D)) | pur | scr (ns : List Int) | raw (v : V)
instance : Inhabited D := ⟨.non⟩
def NT (o : HO) : Prop := ∀ ps, o ≠ .tbl ps
def wo (W : Addr → Bool) (H : Hp) : Hp := fun a => if W a = true then none else H a
theorem wo_some {W : Addr → Bool} {H : Hp} {a : Addr} {o : HO} : wo W H a = some o ↔ W a = false ∧ H a = some o := by
  unfold wo
  cases h : W a <;> simp
section
variable (K : PySem.W.Frag) (W G : Addr → Bool) (H : Hp)
mutual
/-- v is the data d: in the heap without W; the purses are at G -/
inductive Dv : V → D → Prop
  | non : Dv .non .non
  | bl (b : Bool) : Dv (.bl b) (.bl b)
  | int (i : Int) : Dv (.int i) (.int i)
  | str (s : Str) : Dv (.str s) (.str s)
  | lst {p : Addr} {vs : List V} {ds : List D} : wo W H p = some (.lst vs) → DvA vs ds → Dv (.ref p) (.lst ds)
  | tup {p : Addr} {vs : List V} {ds : List D} : wo W H p = some (.tup vs) → DvA vs ds → Dv (.ref p) (.tup ds)
  | obj {a C dx : Addr} {vs : List (Str × V)} {fs : List (Str × D)} : wo W H a = some (.ins C dx vs) → DvF vs fs → Dv (.ref a) (.obj C fs)
  | pur {p : Addr} : G p = true → Pur H p → Dv (.ref p) .pur
  | scr {p : Addr} {ns : List Int} : SqL K (wo W H) p (ns.map V.int) → Dv (.ref p) (.scr ns)
  | raw (v : V) : Dv v (.raw v)
inductive DvA : List V → List D → Prop
  | nil : DvA [] []
  | cons {v : V} {vs : List V} {d : D} {ds : List D} : Dv v d → DvA vs ds → DvA (v :: vs) (d :: ds)
inductive DvF : List (Str × V) → List (Str × D) → Prop
  | nil : DvF [] []
  | cons {f : Str} {v : V} {vs : List (Str × V)} {d : D} {ds : List (Str × D)} : Dv v d → DvF vs ds → DvF ((f, v) :: vs) ((f, d) :: ds)
end
end
theorem sq_tr {K : PySem.W.Frag} {H H' : Hp} {p : Addr} {xs : List V} (h : ∀ a o, H a = some o → NT o → H' a = some o) (s : SqL K H p xs) : SqL K H' p xs := by
  rcases s with (s | ⟨o, s⟩) | s
  · exact .inl (.inl (h _ _ s fun ps z => by cases z))
  · exact .inl (.inr ⟨o, h _ _ s fun ps z => by cases z⟩)
  · exact .inr s
section
variable {K : PySem.W.Frag} {W G W' G' : Addr → Bool} {H H' : Hp}
mutual
theorem Dv.tr (h : ∀ a o, wo W H a = some o → NT o → wo W' H' a = some o) (g : ∀ p, G p = true → Pur H p → G' p = true ∧ Pur H' p) : ∀ {v : V} {d : D}, Dv K W G H v d → Dv K W' G' H' v d
  | _, _, .non => .non
  | _, _, .bl b => .bl b
  | _, _, .int i => .int i
  | _, _, .str s => .str s
  | _, _, .lst e a => .lst (h _ _ e fun ps z => by cases z) (DvA.tr h g a)
  | _, _, .tup e a => .tup (h _ _ e fun ps z => by cases z) (DvA.tr h g a)
  | _, _, .obj e a => .obj (h _ _ e fun ps z => by cases z) (DvF.tr h g a)
  | _, _, .pur a b => .pur (g _ a b).1 (g _ a b).2
  | _, _, .scr s => .scr (sq_tr h s)
  | _, _, .raw v => .raw v
theorem DvA.tr (h : ∀ a o, wo W H a = some o → NT o → wo W' H' a = some o) (g : ∀ p, G p = true → Pur H p → G' p = true ∧ Pur H' p) : ∀ {v : List V} {d : List D}, DvA K W G H v d → DvA K W' G' H' v d
  | _, _, .nil => .nil
  | _, _, .cons a b => .cons (Dv.tr h g a) (DvA.tr h g b)
theorem DvF.tr (h : ∀ a o, wo W H a = some o → NT o → wo W' H' a = some o) (g : ∀ p, G p = true → Pur H p → G' p = true ∧ Pur H' p) : ∀ {v : List (Str × V)} {d : List (Str × D)}, DvF K W G H v d → DvF K W' G' H' v d
  | _, _, .nil => .nil
  | _, _, .cons a b => .cons (Dv.tr h g a) (DvF.tr h g b)
end
theorem DvA.len : ∀ {vs : List V} {ds : List D}, DvA K W G H vs ds → vs.length = ds.length
  | _, _, .nil => rfl
  | _, _, .cons a r => congrArg (· + 1) (DvA.len r)
theorem DvA.at : ∀ {vs : List V} {ds : List D}, DvA K W G H vs ds → ∀ {i : Nat} {d : D}, ds[i]? = some d → ∃ v, vs[i]? = some v ∧ Dv K W G H v d
  | _, _, .nil, i, d, h => by cases h
  | _, _, .cons a r, 0, d, h => by cases h; exact ⟨_, rfl, a⟩
  | _, _, .cons a r, i + 1, d, h => DvA.at r (i := i) h
theorem DvA.atV : ∀ {vs : List V} {ds : List D}, DvA K W G H vs ds → ∀ {i : Nat} {v : V}, vs[i]? = some v → ∃ d, ds[i]? = some d ∧ Dv K W G H v d
  | _, _, .nil, i, d, h => by cases h
  | _, _, .cons a r, 0, d, h => by cases h; exact ⟨_, rfl, a⟩
  | _, _, .cons a r, i + 1, d, h => DvA.atV r (i := i) h
theorem DvA.app : ∀ {vs : List V} {ds : List D}, DvA K W G H vs ds → ∀ {ws : List V} {es : List D}, DvA K W G H ws es → DvA K W G H (vs ++ ws) (ds ++ es)
  | _, _, .nil, _, _, h => h
  | _, _, .cons a r, _, _, h => .cons a (DvA.app r h)
theorem DvA.take : ∀ {vs : List V} {ds : List D} (n : Nat), DvA K W G H vs ds → DvA K W G H (vs.take n) (ds.take n)
  | _, _, 0, _ => .nil
  | _, _, _ + 1, .nil => .nil
  | _, _, n + 1, .cons a r => .cons a (DvA.take n r)
theorem DvA.drop : ∀ {vs : List V} {ds : List D} (n : Nat), DvA K W G H vs ds → DvA K W G H (vs.drop n) (ds.drop n)
  | _, _, 0, r => r
  | _, _, _ + 1, .nil => .nil
  | _, _, n + 1, .cons a r => DvA.drop n r
theorem DvA.set {v : V} {d : D} (h : Dv K W G H v d) : ∀ {vs : List V} {ds : List D} (n : Nat), DvA K W G H vs ds → DvA K W G H (vs.set n v) (ds.set n d)
  | _, _, _, .nil => .nil
  | _, _, 0, .cons a r => .cons h r
  | _, _, n + 1, .cons a r => .cons a (DvA.set h n r)
theorem DvA.rev {vs : List V} {ds : List D} (h : DvA K W G H vs ds) : DvA K W G H vs.reverse ds.reverse := by
  induction vs generalizing ds with
  | nil => cases h; exact .nil
  | cons v vs ih =>
    cases h with
    | cons a r =>
      rw [List.reverse_cons, List.reverse_cons]
      exact (ih r).app (.cons a .nil)
theorem DvA.rep {vs : List V} {ds : List D} (h : DvA K W G H vs ds) : ∀ n : Nat, DvA K W G H (List.replicate n vs).flatten (List.replicate n ds).flatten
  | 0 => .nil
  | n + 1 => by
    rw [List.replicate_succ, List.replicate_succ, List.flatten_cons, List.flatten_cons]
    exact h.app (DvA.rep h n)
theorem DvA.ints : ∀ {ns : List Int} {vs : List V}, DvA K W G H vs (ns.map D.int) → vs = ns.map V.int
  | [], vs, h => by cases h; rfl
  | n :: ns, vs, h => by
    cases h with
    | cons a r =>
      cases a
      rw [DvA.ints r]
      rfl
theorem DvA.ofInts : ∀ ns : List Int, DvA K W G H (ns.map V.int) (ns.map D.int)
  | [] => .nil
  | n :: ns => .cons (.int n) (DvA.ofInts ns)
theorem DvF.lookup {f : Str} : ∀ {vs : List (Str × V)} {ds : List (Str × D)}, DvF K W G H vs ds → ∀ {d : D}, ds.lookup f = some d → ∃ v, vs.lookup f = some v ∧ Dv K W G H v d
  | _, _, .nil, d, h => by cases h
  | _, _, .cons (f := g) (v := v) (vs := vs) (d := e) (ds := ds) a r, d, h => by
    rw [List.lookup_cons] at h
    rw [List.lookup_cons]
    cases q : f == g with
    | true =>
      rw [q] at h
      cases h
      exact ⟨v, rfl, a⟩
    | false =>
      rw [q] at h
      exact DvF.lookup r h
theorem DvF.none {f : Str} : ∀ {vs : List (Str × V)} {ds : List (Str × D)}, DvF K W G H vs ds → ds.lookup f = none → vs.lookup f = none
  | _, _, .nil, h => rfl
  | _, _, .cons (f := g) (v := v) (vs := vs) (d := e) (ds := ds) a r, h => by
    rw [List.lookup_cons] at h
    rw [List.lookup_cons]
    cases q : f == g with
    | true =>
      rw [q] at h
      cases h
    | false =>
      rw [q] at h
      exact DvF.none r h
def putD (f : Str) (d : D) : List (Str × D) → List (Str × D)
  | [] => [(f, d)]
  | (g, e) :: r => if g = f then (g, d) :: r else (g, e) :: putD f d r
theorem DvF.len : ∀ {vs : List (Str × V)} {ds : List (Str × D)}, DvF K W G H vs ds → vs.length = ds.length
  | _, _, .nil => rfl
  | _, _, .cons a r => congrArg (· + 1) (DvF.len r)
end
/-! ### heaps as they grow -/
/-- nothing stands there, or a table -/
def nn (H : Hp) (a : Addr) : Prop := ∀ o, H a = some o → ¬ NT o
theorem nn_of {H : Hp} {a : Addr} (h : H a = none) : nn H a := fun o e => by rw [h] at e; cases e
structure WG (W G : Addr → Bool) (H : Hp) : Prop where
  gw : ∀ a, G a = true → W a = true
  wd : ∀ a, W a = true → ¬ nn H a
  gp : ∀ a, G a = true → Pur H a
structure XG (T : List (Addr × Str)) (G : Addr → Bool) (H H' : Hp) : Prop where
  ex : ∀ a o, G a = false → H a = some o → NT o → H' a = some o
  pu : ∀ a, G a = true → Pur H a → Pur H' a
  tb : LamX.Tabs T H → LamX.Tabs T H'
structure ES (T : List (Addr × Str)) (W G : Addr → Bool) (H : Hp) (W' G' : Addr → Bool) (H' : Hp) : Prop where
  s : WG W G H
  xg : XG T G H H'
  w : ∀ a, W a = true → W' a = true
  g : ∀ a, G a = true → G' a = true
  wn : ∀ a, W' a = true → W a = true ∨ nn H a
  gn : ∀ a, G' a = true → G a = true ∨ nn H a
  t : WG W' G' H'
section
variable {K : PySem.W.Frag} {T : List (Addr × Str)} {W G W' G' W1 G1 : Addr → Bool} {H H1 H' : Hp}
theorem tf {α : Prop} {b : Bool} (h : b = true) (g : b = false) : α := by rw [h] at g; cases g
theorem sn {α : Prop} {H : Hp} {a : Addr} {o : HO} (h : nn H a) (g : H a = some o) (n : NT o) : α := (h o g n).elim
theorem nt_l {xs : List V} : NT (.lst xs) := fun _ z => by cases z
theorem nt_t {xs : List V} : NT (.tup xs) := fun _ z => by cases z
theorem nt_i {C dx : Addr} {fs : List (Str × V)} : NT (.ins C dx fs) := fun _ z => by cases z
theorem bf {b : Bool} (h : b = true → False) : b = false := by cases b; rfl; exact (h rfl).elim
theorem XG.ofEx (e : Ex H H') : XG T G H H' := ⟨fun a o _ h _ => e a o h, fun a _ h => h.ex e, fun h => h.ext e⟩
theorem pur_nn {a : Addr} (h : Pur H a) (n : Pu.nn H a) : False := by
  obtain ⟨x, y, z, h⟩ := h
  exact sn n h nt_l
theorem XG.fr (x : XG T G H H') (gp : ∀ a, G a = true → Pur H a) : ∀ a, nn H' a → nn H a := fun a h o e n => by
  cases g : G a with
  | false => exact h o (x.ex a o g e n) n
  | true => exact pur_nn (x.pu a g (gp a g)) h
theorem ES.fr (e : ES T W G H W' G' H') : ∀ a, nn H' a → nn H a := e.xg.fr e.s.gp
theorem nn_back (e : Ex H H') {a : Addr} (h : nn H' a) : nn H a := fun o q n => h o (e a o q) n
theorem WG.ex (w : WG W G H) (e : Ex H H') : WG W G H' := ⟨w.gw, fun a h z => w.wd a h (nn_back e z), fun a h => (w.gp a h).ex e⟩
theorem ES.ofEx (w : WG W G H) (e : Ex H H') : ES T W G H W G H' := ⟨w, XG.ofEx e, fun _ h => h, fun _ h => h, fun _ h => .inl h, fun _ h => .inl h, w.ex e⟩
theorem ES.refl (w : WG W G H) : ES T W G H W G H := ES.ofEx w (Ex.refl H)
theorem ES.trans (a : ES T W G H W1 G1 H1) (b : ES T W1 G1 H1 W' G' H') : ES T W G H W' G' H' where
  s := a.s
  xg := ⟨fun x o g h n => b.xg.ex x o (bf fun z => (a.gn x z).elim (fun q => tf q g) fun q => sn q h n) (a.xg.ex x o g h n) n,
    fun x g h => b.xg.pu x (a.g x g) (a.xg.pu x g h), fun h => b.xg.tb (a.xg.tb h)⟩
  w := fun x h => b.w x (a.w x h)
  g := fun x h => b.g x (a.g x h)
  wn := fun x h => (b.wn x h).elim (fun q => a.wn x q) fun q => .inr (a.fr x q)
  gn := fun x h => (b.gn x h).elim (fun q => a.gn x q) fun q => .inr (a.fr x q)
  t := b.t
theorem ES.fz (w : WG W G H) (e : ES T W G H W' G' H') : ∀ a o, wo W H a = some o → NT o → wo W' H' a = some o := fun a o h n => by
  obtain ⟨h1, h2⟩ := wo_some.mp h
  exact wo_some.mpr ⟨bf fun z => (e.wn a z).elim (fun q => tf q h1) fun q => sn q h2 n, e.xg.ex a o (bf fun z => tf (w.gw a z) h1) h2 n⟩
theorem Dv.es (w : WG W G H) (e : ES T W G H W' G' H') {v : V} {d : D} (h : Dv K W G H v d) : Dv K W' G' H' v d := h.tr (e.fz w) fun p a b => ⟨e.g p a, e.xg.pu p a b⟩
theorem DvA.es (w : WG W G H) (e : ES T W G H W' G' H') {v : List V} {d : List D} (h : DvA K W G H v d) : DvA K W' G' H' v d := h.tr (e.fz w) fun p a b => ⟨e.g p a, e.xg.pu p a b⟩
theorem DvF.es (w : WG W G H) (e : ES T W G H W' G' H') {v : List (Str × V)} {d : List (Str × D)} (h : DvF K W G H v d) : DvF K W' G' H' v d := h.tr (e.fz w) fun p a b => ⟨e.g p a, e.xg.pu p a b⟩
/-- less is hidden -/
theorem less_fz (h : ∀ a, W' a = true → W a = true) : ∀ a o, wo W H a = some o → NT o → wo W' H a = some o := fun a o e _ => by
  obtain ⟨h1, h2⟩ := wo_some.mp e
  exact wo_some.mpr ⟨bf fun z => tf (h a z) h1, h2⟩
theorem Dv.less (h : ∀ a, W' a = true → W a = true) {v : V} {d : D} (x : Dv K W G H v d) : Dv K W' G H v d := x.tr (less_fz h) fun p a b => ⟨a, b⟩
theorem DvA.less (h : ∀ a, W' a = true → W a = true) {v : List V} {d : List D} (x : DvA K W G H v d) : DvA K W' G H v d := x.tr (less_fz h) fun p a b => ⟨a, b⟩
theorem DvF.less (h : ∀ a, W' a = true → W a = true) {v : List (Str × V)} {d : List (Str × D)} (x : DvF K W G H v d) : DvF K W' G H v d := x.tr (less_fz h) fun p a b => ⟨a, b⟩
end
def wg (W G : Addr → Bool) (a : Addr) : Bool := W a || G a
def hd (p : Addr) (W : Addr → Bool) (a : Addr) : Bool := W a || decide (a = p)
theorem wg_t {W G : Addr → Bool} {a : Addr} : wg W G a = true ↔ W a = true ∨ G a = true := by unfold wg; simp
theorem hd_t {W : Addr → Bool} {p a : Addr} : hd p W a = true ↔ W a = true ∨ a = p := by unfold hd; simp
/-! ### contexts, slots, states -/
structure Er where
  c : Addr
  fs : List (Str × V)
structure Cp where
  K : PySem.W.Frag
  T : List (Addr × Str)
  B : Hp
  W0 : Addr → Bool
  G0 : Addr → Bool
  E : L2.St → XK
/-- what an owned object holds -/
inductive Oc where
  | l (ds : List D) | o (C : Addr) (fs : List (Str × D))
inductive Sl where
  | no | d (x : D) | own (p : Addr) (o : Oc)
def OcAt (K : PySem.W.Frag) (W G : Addr → Bool) (H : Hp) (p : Addr) : Oc → Prop
  | .l ds => ∃ vs, H p = some (.lst vs) ∧ DvA K W G H vs ds
  | .o C fs => ∃ dx vs, H p = some (.ins C dx vs) ∧ DvF K W G H vs fs
structure OwOk (c : Cp) (W G : Addr → Bool) (H : Hp) (p : Addr) (o : Oc) : Prop where
  w : W p = true
  g : G p = false
  b : nn c.B p
  at_ : OcAt c.K W G H p o
def SlOk (K : PySem.W.Frag) (W G : Addr → Bool) (H : Hp) (x : Option (Option V)) : Sl → Prop
  | .no => True
  | .d d => ∃ v, x = some (some v) ∧ Dv K W G H v d
  | .own p _ => x = some (some (.ref p))
structure StW (c : Cp) (gd : List (V × D)) (W G : Addr → Bool) (env : List Sl) (σ : L2.St) (H : Hp) : Prop where
  t : WG W G H
  b0 : WG c.W0 c.G0 c.B
  es : ES c.T c.W0 c.G0 c.B (wg c.W0 G) G H
  w0 : ∀ a, c.W0 a = true → W a = true
  wb : ∀ a, W a = true → c.W0 a = true ∨ nn c.B a
  tb : LamX.Tabs c.T H
  len : σ.length = env.length
  sl : ∀ (i : Nat) s, env[i]? = some s → SlOk c.K W G H (σ[i]?) s
  ow : ∀ (i : Nat) p o, env[i]? = some (.own p o) → OwOk c W G H p o
  nd : ∀ (i j : Nat) p o o', env[i]? = some (.own p o) → env[j]? = some (.own p o') → i = j
  gh : ∀ q ∈ gd, Dv c.K W G H q.1 q.2
section
variable {c : Cp} {gd : List (V × D)} {W G W' G' : Addr → Bool} {env : List Sl} {σ : L2.St} {H H' : Hp} {p : Addr} {o : Oc}
theorem OcAt.es (w : WG W G H) (e : ES c.T W G H W' G' H') (g : G p = false) (h : OcAt c.K W G H p o) : OcAt c.K W' G' H' p o := by
  cases o with
  | l ds =>
    obtain ⟨vs, h1, h2⟩ := h
    exact ⟨vs, e.xg.ex _ _ g h1 nt_l, h2.es w e⟩
  | o C fs =>
    obtain ⟨dx, vs, h1, h2⟩ := h
    exact ⟨dx, vs, e.xg.ex _ _ g h1 nt_i, h2.es w e⟩
theorem OcAt.some (h : OcAt c.K W G H p o) : ∃ u, H p = some u ∧ NT u := by
  cases o with
  | l ds =>
    obtain ⟨vs, h1, h2⟩ := h
    exact ⟨_, h1, fun _ z => by cases z⟩
  | o C fs =>
    obtain ⟨dx, vs, h1, h2⟩ := h
    exact ⟨_, h1, fun _ z => by cases z⟩
theorem OwOk.es (w : WG W G H) (e : ES c.T W G H W' G' H') (h : OwOk c W G H p o) : OwOk c W' G' H' p o := by
  obtain ⟨u, hu, nu⟩ := h.at_.some
  exact ⟨e.w p h.w, bf fun z => (e.gn p z).elim (fun q => tf q h.g) fun q => sn q hu nu, h.b, h.at_.es w e h.g⟩
theorem SlOk.es {x : Option (Option V)} {s : Sl} (w : WG W G H) (e : ES c.T W G H W' G' H') (h : SlOk c.K W G H x s) : SlOk c.K W' G' H' x s := by
  cases s with
  | no => trivial
  | d d =>
    obtain ⟨v, h1, h2⟩ := h
    exact ⟨v, h1, h2.es w e⟩
  | own p o => exact h
theorem StW.step (S : StW c gd W G env σ H) (e : ES c.T W G H W' G' H') : StW c gd W' G' env σ H' where
  t := e.t
  b0 := S.b0
  es := by
    have xg : XG c.T c.G0 c.B H' := ⟨fun a o g h n => e.xg.ex a o (bf fun z => (S.es.gn a z).elim (fun q => tf q g) fun q => sn q h n) (S.es.xg.ex a o g h n) n,
      fun a g h => e.xg.pu a (S.es.g a g) (S.es.xg.pu a g h), fun h => e.xg.tb (S.es.xg.tb h)⟩
    have gn : ∀ a, G' a = true → c.G0 a = true ∨ nn c.B a := fun a h => (e.gn a h).elim (fun q => S.es.gn a q) fun q => .inr (S.es.fr a q)
    refine ⟨S.b0, xg, fun a h => wg_t.mpr (.inl h), fun a h => e.g a (S.es.g a h), fun a h => ?_, gn, ⟨fun a h => wg_t.mpr (.inr h), fun a h => ?_, e.t.gp⟩⟩
    · rcases wg_t.mp h with q | q
      · exact .inl q
      · exact (gn a q).imp_left (S.b0.gw a)
    · rcases wg_t.mp h with q | q
      · exact e.t.wd a (e.w a (S.w0 a q))
      · exact e.t.wd a (e.t.gw a q)
  w0 := fun a h => e.w a (S.w0 a h)
  wb := fun a h => (e.wn a h).elim (fun q => S.wb a q) fun q => .inr (S.es.fr a q)
  tb := e.xg.tb S.tb
  len := S.len
  sl := fun i s h => (S.sl i s h).es S.t e
  ow := fun i p o h => (S.ow i p o h).es S.t e
  nd := S.nd
  gh := fun q h => (S.gh q h).es S.t e
/-- less is hidden: what was owned may be data -/
def frz : Sl → Sl
  | .own _ (.l ds) => .d (.lst ds)
  | .own _ (.o C fs) => .d (.obj C fs)
  | s => s
theorem frz_own {s : Sl} {p : Addr} {o : Oc} (h : frz s = .own p o) : False := by
  cases s with
  | no => cases h
  | d x => cases h
  | own q u => cases u <;> cases h
theorem StW.frz_at (S : StW c gd W G env σ H) (f : Nat → Bool) : ∃ W', (∀ a, W' a = true → W a = true) ∧ StW c gd W' G (env.mapIdx fun i s => if f i = true then frz s else s) σ H := by
  open Classical in
  let W' : Addr → Bool := fun a => W a && !decide (∃ i o, env[i]? = some (.own a o) ∧ f i = true)
  have w1 : ∀ a, W' a = true ↔ W a = true ∧ ¬ ∃ i o, env[i]? = some (.own a o) ∧ f i = true := fun a => by
    show (W a && !decide _) = true ↔ _
    simp only [Bool.and_eq_true, Bool.not_eq_true', decide_eq_false_iff_not]
  have le : ∀ a, W' a = true → W a = true := fun a h => ((w1 a).mp h).1
  have nb : ∀ a, ¬ nn c.B a → W a = true → W' a = true := fun a h1 h2 => (w1 a).mpr ⟨h2, fun ⟨i, o, h3, _⟩ => h1 (S.ow i a o h3).b⟩
  have ng : ∀ a, G a = true → W' a = true := fun a h => (w1 a).mpr ⟨S.t.gw a h, fun ⟨i, o, h3, _⟩ => by rw [(S.ow i a o h3).g] at h; cases h⟩
  have look : ∀ i s, (env.mapIdx fun i s => if f i = true then frz s else s)[i]? = some s → ∃ s0, env[i]? = some s0 ∧ s = if f i = true then frz s0 else s0 := fun i s h => by
    rw [List.getElem?_mapIdx] at h
    cases q : env[i]? with
    | none => rw [q] at h; cases h
    | some s0 => rw [q] at h; cases h; exact ⟨s0, rfl, rfl⟩
  have own_of : ∀ i p o, (env.mapIdx fun i s => if f i = true then frz s else s)[i]? = some (.own p o) → env[i]? = some (.own p o) ∧ f i = false := fun i p o h => by
    obtain ⟨s0, h1, h2⟩ := look i _ h
    cases hf : f i with
    | true => rw [hf, if_pos rfl] at h2; exact (frz_own h2.symm).elim
    | false => rw [hf, if_neg (by decide)] at h2; rw [h1, h2]; exact ⟨rfl, rfl⟩
  refine ⟨W', le, ⟨ng, fun a h => S.t.wd a (le a h), S.t.gp⟩, S.b0, S.es, fun a h => nb a (S.b0.wd a h) (S.w0 a h), fun a h => S.wb a (le a h), S.tb, by rw [List.length_mapIdx]; exact S.len, fun i s h => ?_, fun i p o h => ?_, fun i j p o o' h h' => S.nd i j p o o' (own_of i p o h).1 (own_of j p o' h').1, fun q h => (S.gh q h).less le⟩
  · obtain ⟨s0, h1, h2⟩ := look i s h
    have k := S.sl i s0 h1
    have plain : SlOk c.K W' G H (σ[i]?) s0 := by
      cases s0 with
      | no => trivial
      | d d =>
        obtain ⟨v, e1, e2⟩ := k
        exact ⟨v, e1, e2.less le⟩
      | own p o => exact k
    cases hf : f i with
    | false => rw [hf, if_neg (by decide)] at h2; rw [h2]; exact plain
    | true =>
      rw [hf, if_pos rfl] at h2
      cases s0 with
      | no => rw [h2]; trivial
      | d d => rw [h2]; exact plain
      | own p o =>
        have ow := S.ow i p o h1
        have nw : W' p = false := bf fun z => ((w1 p).mp z).2 ⟨i, o, h1, hf⟩
        cases o with
        | l ds =>
          obtain ⟨vs, e1, e2⟩ := ow.at_
          rw [h2]
          exact ⟨_, k, .lst (wo_some.mpr ⟨nw, e1⟩) (e2.less le)⟩
        | o C fs =>
          obtain ⟨dx, vs, e1, e2⟩ := ow.at_
          rw [h2]
          exact ⟨_, k, .obj (wo_some.mpr ⟨nw, e1⟩) (e2.less le)⟩
  · obtain ⟨h1, h2⟩ := own_of i p o h
    have ow := S.ow i p o h1
    refine ⟨(w1 p).mpr ⟨ow.w, fun ⟨j, o', h3, h4⟩ => ?_⟩, ow.g, ow.b, ?_⟩
    · rw [S.nd i j p o o' h1 h3, h4] at h2
      cases h2
    · cases o with
      | l ds =>
        obtain ⟨vs, e1, e2⟩ := ow.at_
        exact ⟨vs, e1, e2.less le⟩
      | o C fs =>
        obtain ⟨dx, vs, e1, e2⟩ := ow.at_
        exact ⟨dx, vs, e1, e2.less le⟩
theorem StW.frz (S : StW c gd W G env σ H) : ∃ W', (∀ a, W' a = true → W a = true) ∧ StW c gd W' G (env.map Pu.frz) σ H := by
  obtain ⟨W', h1, h2⟩ := S.frz_at fun _ => true
  refine ⟨W', h1, ?_⟩
  have e : (env.mapIdx fun i s => if (fun _ => true : Nat → Bool) i = true then Pu.frz s else s) = env.map Pu.frz := by
    apply List.ext_getElem?
    intro i
    rw [List.getElem?_mapIdx, List.getElem?_map]
    cases env[i]? <;> rfl
  rw [e] at h2
  exact h2
/-- what was made while less was hidden -/
theorem ES.re {T : List (Addr × Str)} {W1 W2 G2 : Addr → Bool} {H2 : Hp} (w : WG W G H) (e : ES T W1 G H W2 G2 H2) : ES T W G H (wg W G2) G2 H2 where
  s := w
  xg := e.xg
  w := fun a h => wg_t.mpr (.inl h)
  g := e.g
  wn := fun a h => (wg_t.mp h).elim .inl fun q => (e.gn a q).imp_left (w.gw a)
  gn := e.gn
  t := ⟨fun a h => wg_t.mpr (.inr h), fun a h => (wg_t.mp h).elim (fun q z => w.wd a q (e.fr a z)) fun q => e.t.wd a (e.t.gw a q), e.t.gp⟩
end
theorem ifT {A B : Prop} (h : if true = true then A else B) : A := by rw [if_pos rfl] at h; exact h
theorem ifF {A B : Prop} (h : if false = true then A else B) : B := by rw [if_neg (by decide)] at h; exact h
/-! ### what evaluates -/
/-- v is a new list of the data d: nothing else knows it -/
def Fr (K : PySem.W.Frag) (W G : Addr → Bool) (B H : Hp) (v : V) (d : D) : Prop := ∃ p vs ds, v = .ref p ∧ d = .lst ds ∧ nn B p ∧ W p = false ∧ H p = some (.lst vs) ∧ DvA K (hd p W) G H vs ds
theorem hd_le {p : Addr} {W : Addr → Bool} : ∀ a, W a = true → hd p W a = true := fun a h => hd_t.mpr (.inl h)
theorem Fr.dv {K : PySem.W.Frag} {W G : Addr → Bool} {B H : Hp} {v : V} {d : D} (h : Fr K W G B H v d) : Dv K W G H v d := by
  obtain ⟨p, vs, ds, rfl, rfl, hb, hw, hp, ha⟩ := h
  exact .lst (wo_some.mpr ⟨hw, hp⟩) (ha.less hd_le)
/-- the errors: what is to be shown of one -/
def ErrOk (c : Cp) (er : List Sl → Er → Prop) (gd : List (V × D)) : Prop := ∀ env e W G σ H d, er env e → StW c gd W G env σ H → H d = some (.xd e.fs) → c.E σ (.ref e.c) (some d) H
structure Cx where
  c : Cp
  er : List Sl → Er → Prop
section
variable (X : Cx) (env : List Sl)
def EV (te : TE) (P : D → Prop) : Prop := ∀ gd W G σ H (Q : VK), StW X.c gd W G env σ H → ErrOk X.c X.er gd → (∀ W' G' v H' d, P d → ES X.c.T W G H W' G' H' → Dv X.c.K W' G' H' v d → Q v H') → te σ H Q
def EF (te : TE) (P : List D → Prop) : Prop := ∀ gd W G σ H (Q : VK), StW X.c gd W G env σ H → ErrOk X.c X.er gd → (∀ W' G' v H' ds, P ds → ES X.c.T W G H W' G' H' → Fr X.c.K W' G' H H' v (.lst ds) → Q v H') → te σ H Q
def EA (ta : TA) (P : List D → Prop) : Prop := ∀ gd W G σ H (Q : List V → Hp → Prop), StW X.c gd W G env σ H → ErrOk X.c X.er gd → (∀ W' G' vs H' ds, P ds → ES X.c.T W G H W' G' H' → DvA X.c.K W' G' H' vs ds → Q vs H') → ta σ H Q
def TV (tt : TT) (P : Bool → Prop) : Prop := ∀ gd W G σ H (Q : Bool → Hp → Prop), StW X.c gd W G env σ H → ErrOk X.c X.er gd → (∀ W' G' b H', P b → ES X.c.T W G H W' G' H' → Q b H') → tt σ H Q
def OV (to : TO) (P : Option Int → Prop) : Prop := ∀ gd W G σ H (Q : Option Int → Hp → Prop), StW X.c gd W G env σ H → ErrOk X.c X.er gd → (∀ W' G' b H', P b → ES X.c.T W G H W' G' H' → Q b H') → to σ H Q
def GX (g : TG) (x : D) (N : List Sl → Prop) : Prop := ∀ gd W G σ H v (Q : L2.St → Hp → Prop), StW X.c gd W G env σ H → ErrOk X.c X.er gd → Dv X.c.K W G H v x → (∀ env' W' G' σ' H', N env' → StW X.c gd W' G' env' σ' H' → Q σ' H') → g v σ H Q
def GXs (g : TGs) (xs : List D) (N : List Sl → Prop) : Prop := ∀ gd W G σ H vs (Q : L2.St → Hp → Prop), StW X.c gd W G env σ H → ErrOk X.c X.er gd → DvA X.c.K W G H vs xs → (∀ env' W' G' σ' H', N env' → StW X.c gd W' G' env' σ' H' → Q σ' H') → g vs σ H Q
structure LiftE (gd : List (V × D)) (N : List Sl → Prop) (R : Bool → D → Prop) (Bk Ct : List Sl → Prop) (Z : Ends) : Prop where
  nx : ∀ env W G σ H, N env → StW X.c gd W G env σ H → Z.nx σ H
  rt : ∀ b d W' G' v H, R b d → ES X.c.T X.c.W0 X.c.G0 X.c.B W' G' H → Dv X.c.K W' G' H v d → (b = true → Fr X.c.K W' G' X.c.B H v d) → Z.rt v H
  bk : ∀ env W G σ H, Bk env → StW X.c gd W G env σ H → Z.bk σ H
  ct : ∀ env W G σ H, Ct env → StW X.c gd W G env σ H → Z.ct σ H
  er : ErrOk X.c X.er gd
def SX (ts : TS) (N : List Sl → Prop) (R : Bool → D → Prop) (Bk Ct : List Sl → Prop) : Prop := ∀ gd W G σ H (Z : Ends), StW X.c gd W G env σ H → LiftE X gd N R Bk Ct Z → ts Z σ H
end
section
variable (c : Cp)
def OP (r : R2) (x y : D) (P : D → Prop) : Prop := ∀ W G H v w (Q : VK), WG W G H → LamX.Tabs c.T H → Dv c.K W G H v x → Dv c.K W G H w y → (∀ W' G' z H' d, P d → ES c.T W G H W' G' H' → Dv c.K W' G' H' z d → Q z H') → r v w H Q
def OF (r : R2) (x y : D) (P : List D → Prop) : Prop := ∀ W G H v w (Q : VK), WG W G H → LamX.Tabs c.T H → Dv c.K W G H v x → Dv c.K W G H w y → (∀ W' G' z H' ds, P ds → ES c.T W G H W' G' H' → Fr c.K W' G' H H' z (.lst ds) → Q z H') → r v w H Q
def UP (r : V → Hp → VK → Prop) (x : D) (P : D → Prop) : Prop := ∀ W G H v (Q : VK), WG W G H → LamX.Tabs c.T H → Dv c.K W G H v x → (∀ W' G' z H' d, P d → ES c.T W G H W' G' H' → Dv c.K W' G' H' z d → Q z H') → r v H Q
def BI (r : List V → Hp → VK → Prop) (xs : List D) (P : D → Prop) : Prop := ∀ W G H vs (Q : VK), WG W G H → LamX.Tabs c.T H → DvA c.K W G H vs xs → (∀ W' G' z H' d, P d → ES c.T W G H W' G' H' → Dv c.K W' G' H' z d → Q z H') → r vs H Q
def CF (r : List V → Hp → VK → Prop) (xs : List D) (P : List D → Prop) : Prop := ∀ W G H vs (Q : VK), WG W G H → LamX.Tabs c.T H → DvA c.K W G H vs xs → (∀ W' G' z H' ds, P ds → ES c.T W G H W' G' H' → Fr c.K W' G' H H' z (.lst ds) → Q z H') → r vs H Q
def SLF (r : V → Option Int → Option Int → Hp → VK → Prop) (x : D) (l u : Option Int) (P : List D → Prop) : Prop := ∀ W G H v (Q : VK), WG W G H → LamX.Tabs c.T H → Dv c.K W G H v x → (∀ W' G' z H' ds, P ds → ES c.T W G H W' G' H' → Fr c.K W' G' H H' z (.lst ds) → Q z H') → r v l u H Q
end
abbrev PF := List D → (D → Prop) → (Er → Prop) → Prop
/-- what a def promises: f, of the data handed to it, by what is wished of the data returned, of the errors raised -/
def spP (K : PySem.W.Frag) (T : List (Addr × Str)) (f : PF) : Sp := fun vs H Q E => ∃ W G ds R er, WG W G H ∧ LamX.Tabs T H ∧ DvA K W G H vs ds ∧ f ds R er ∧ (∀ d W' G' v H', R d → ES T W G H W' G' H' → Dv K W' G' H' v d → Q v H') ∧
  (∀ e W' G' d H', er e → ES T W G H W' G' H' → H' d = some (.xd e.fs) → E (.ref e.c) (some d) H')
/-- the same, a new list returned -/
def spN (K : PySem.W.Frag) (T : List (Addr × Str)) (f : List D → (List D → Prop) → (Er → Prop) → Prop) : Sp := fun vs H Q E => ∃ W G ds R er, WG W G H ∧ LamX.Tabs T H ∧ DvA K W G H vs ds ∧ f ds R er ∧ (∀ d W' G' v H', R d → ES T W G H W' G' H' → Fr K W' G' H H' v (.lst d) → Q v H') ∧
  (∀ e W' G' d H', er e → ES T W G H W' G' H' → H' d = some (.xd e.fs) → E (.ref e.c) (some d) H')
section
variable {X : Cx} {env : List Sl} {P : D → Prop} {Pl : List D → Prop} {Pb : Bool → Prop} {te ta tb tc : TE} {tt tu : TT} {tr : TA} {n : Nat} {d : D}
theorem Fr.es {K : PySem.W.Frag} {T : List (Addr × Str)} {W G W' G' : Addr → Bool} {B B' H H' : Hp} {v : V} {d : D} (w : WG W G H) (e : ES T W G H W' G' H') (gf : ∀ p, v = .ref p → G p = false) (h : Fr K W G B H v d) (hb : ∀ p, nn B p → nn B' p) : Fr K W' G' B' H' v d := by
  obtain ⟨p, vs, ds, rfl, rfl, h1, h2, h3, h4⟩ := h
  have g := gf p rfl
  refine ⟨p, vs, ds, rfl, rfl, hb p h1, bf fun z => (e.wn p z).elim (fun q => tf q h2) fun q => sn q h3 nt_l, e.xg.ex p _ g h3 nt_l, h4.tr (fun a o q n => ?_) fun a x y => ⟨e.g a x, e.xg.pu a x y⟩⟩
  obtain ⟨q1, q2⟩ := wo_some.mp q
  have na : a ≠ p := fun z => tf (hd_t.mpr (.inr z)) q1
  have q1' : W a = false := bf fun z => tf (hd_le a z) q1
  obtain ⟨r1, r2⟩ := wo_some.mp (e.fz w a o (wo_some.mpr ⟨q1', q2⟩) n)
  exact wo_some.mpr ⟨bf fun z => (hd_t.mp z).elim (fun y => tf y r1) na, r2⟩
theorem Fr.ng {K : PySem.W.Frag} {W G : Addr → Bool} {B H : Hp} {v : V} {d : D} (w : WG W G H) (h : Fr K W G B H v d) : ∀ p, v = .ref p → G p = false := fun p e => by
  obtain ⟨q, vs, ds, rfl, rfl, h1, h2, _⟩ := h
  cases e
  exact bf fun z => tf (w.gw p z) h2
theorem ev_ofF (h : EF X env te fun ds => P (.lst ds)) : EV X env te P := fun gd W G σ H Q S er q => h gd W G σ H Q S er fun W' G' v H' ds p e f => q W' G' v H' _ p e f.dv
theorem StW.at (S : StW X.c gd W G env σ H) (e : env[n]? = some (.d d)) : ∃ v, σ[n]? = some (some v) ∧ Dv X.c.K W G H v d := S.sl n _ e
theorem ev_var (e : env[n]? = some (.d d)) (h : P d) : EV X env (tVar n) P := fun gd W G σ H Q S er q => by
  obtain ⟨v, h1, h2⟩ := S.at e
  exact ⟨v, h1, q W G v H d h (.refl S.t) h2⟩
theorem ev_int {i : Int} (h : P (.int i)) : EV X env (tC (.int i)) P := fun gd W G σ H Q S er q => q W G _ H _ h (.refl S.t) (.int i)
theorem ev_bl {b : Bool} (h : P (.bl b)) : EV X env (tC (.bl b)) P := fun gd W G σ H Q S er q => q W G _ H _ h (.refl S.t) (.bl b)
theorem ev_str {s : Str} (h : P (.str s)) : EV X env (tC (.str s)) P := fun gd W G σ H Q S er q => q W G _ H _ h (.refl S.t) (.str s)
theorem ev_non (h : P .non) : EV X env (tC .non) P := fun gd W G σ H Q S er q => q W G _ H _ h (.refl S.t) .non
theorem ev_raw {v : V} (h : P (.raw v)) : EV X env (tC v) P := fun gd W G σ H Q S er q => q W G _ H _ h (.refl S.t) (.raw v)
theorem ev_op {r : R2} (h : EV X env ta fun x => EV X env tb fun y => OP X.c r x y P) : EV X env (tOp r ta tb) P := fun gd W G σ H Q S er q =>
  h gd W G σ H _ S er fun W1 G1 v H1 x hx e1 d1 => hx gd W1 G1 σ H1 _ (S.step e1) er fun W2 G2 w H2 y hy e2 d2 =>
    hy W2 G2 H2 v w Q e2.t ((S.step e1).step e2).tb (d1.es e1.t e2) d2 fun W3 G3 z H3 d hd e3 d3 => q W3 G3 z H3 d hd ((e1.trans e2).trans e3) d3
theorem ef_op {r : R2} (h : EV X env ta fun x => EV X env tb fun y => OF X.c r x y Pl) : EF X env (tOp r ta tb) Pl := fun gd W G σ H Q S er q =>
  h gd W G σ H _ S er fun W1 G1 v H1 x hx e1 d1 => hx gd W1 G1 σ H1 _ (S.step e1) er fun W2 G2 w H2 y hy e2 d2 =>
    hy W2 G2 H2 v w Q e2.t ((S.step e1).step e2).tb (d1.es e1.t e2) d2 fun W3 G3 z H3 ds hd e3 f => q W3 G3 z H3 ds hd ((e1.trans e2).trans e3) (by
      obtain ⟨p, vs, ds, e, e', h1, r⟩ := f
      exact ⟨p, vs, ds, e, e', e1.fr p (e2.fr p h1), r⟩)
theorem ev_un {r : V → Hp → VK → Prop} (h : EV X env ta fun x => UP X.c r x P) : EV X env (tUn r ta) P := fun gd W G σ H Q S er q =>
  h gd W G σ H _ S er fun W1 G1 v H1 x hx e1 d1 => hx W1 G1 H1 v Q e1.t (S.step e1).tb d1 fun W3 G3 z H3 d hd e3 d3 => q W3 G3 z H3 d hd (e1.trans e3) d3
theorem ev_cb {r : List V → Hp → VK → Prop} (h : EA X env tr fun xs => BI X.c r xs P) : EV X env (tCB r tr) P := fun gd W G σ H Q S er q =>
  h gd W G σ H _ S er fun W1 G1 v H1 x hx e1 d1 => hx W1 G1 H1 v Q e1.t (S.step e1).tb d1 fun W3 G3 z H3 d hd e3 d3 => q W3 G3 z H3 d hd (e1.trans e3) d3
theorem ef_cb {r : List V → Hp → VK → Prop} (h : EA X env tr fun xs => CF X.c r xs Pl) : EF X env (tCB r tr) Pl := fun gd W G σ H Q S er q =>
  h gd W G σ H _ S er fun W1 G1 v H1 x hx e1 d1 => hx W1 G1 H1 v Q e1.t (S.step e1).tb d1 fun W3 G3 z H3 ds hd e3 f => q W3 G3 z H3 ds hd (e1.trans e3) (by
      obtain ⟨p, vs, ds, e, e', h1, r⟩ := f
      exact ⟨p, vs, ds, e, e', e1.fr p h1, r⟩)
theorem ea_nil (h : Pl []) : EA X env tNil Pl := fun gd W G σ H Q S er q => q W G [] H [] h (.refl S.t) .nil
theorem ea_cons (h : EV X env te fun x => EA X env tr fun xs => Pl (x :: xs)) : EA X env (tCons te tr) Pl := fun gd W G σ H Q S er q =>
  h gd W G σ H _ S er fun W1 G1 v H1 x hx e1 d1 => hx gd W1 G1 σ H1 _ (S.step e1) er fun W2 G2 vs H2 xs hxs e2 d2 => q W2 G2 (v :: vs) H2 (x :: xs) hxs (e1.trans e2) (.cons (d1.es e1.t e2) d2)
theorem ev_call {f : PF} (h : EA X env tr fun ds => f ds P (X.er env)) : EV X env (tCallS (spP X.c.K X.c.T f) X.c.E tr) P := fun gd W G σ H Q S er q =>
  h gd W G σ H _ S er fun W1 G1 v H1 x hx e1 d1 => ⟨W1, G1, x, P, X.er env, e1.t, (S.step e1).tb, d1, hx, fun d W' G' v H' hd e2 dv => q W' G' v H' d hd (e1.trans e2) dv, fun e W' G' d H' he e2 hd => er env e W' G' σ H' d he ((S.step e1).step e2) hd⟩
theorem ef_call {f : List D → (List D → Prop) → (Er → Prop) → Prop} (h : EA X env tr fun ds => f ds Pl (X.er env)) : EF X env (tCallS (spN X.c.K X.c.T f) X.c.E tr) Pl := fun gd W G σ H Q S er q =>
  h gd W G σ H _ S er fun W1 G1 v H1 x hx e1 d1 => ⟨W1, G1, x, Pl, X.er env, e1.t, (S.step e1).tb, d1, hx, fun d W' G' v H' hd e2 fr => q W' G' v H' d hd (e1.trans e2) (by
      obtain ⟨p, vs, ds, e, e', h1, r⟩ := fr
      exact ⟨p, vs, ds, e, e', e1.fr p h1, r⟩), fun e W' G' d H' he e2 hd => er env e W' G' σ H' d he ((S.step e1).step e2) hd⟩
theorem ev_tup (h : EA X env tr fun ds => ds.length.ble 1000 = true ∧ P (.tup ds)) : EV X env (tTup tr) P := fun gd W G σ H Q S er q =>
  h gd W G σ H _ S er fun W1 G1 vs H1 ds ⟨hl, hp⟩ e1 d1 => ⟨sz_of (by have := Nat.le_of_ble_eq_true hl; rw [d1.len]; omega), fun p hp0 => q W1 G1 _ _ _ hp (e1.trans (.ofEx e1.t (Ex.new hp0))) (.tup (wo_some.mpr ⟨bf fun z => e1.t.wd p z (nn_of hp0), upd_same⟩) (d1.es e1.t (ES.ofEx (T := X.c.T) e1.t (Ex.new hp0))))⟩
/-- a new list in the heap -/
theorem fr_new {K : PySem.W.Frag} {W G : Addr → Bool} {H : Hp} {p : Addr} {vs : List V} {ds : List D} (w : WG W G H) (hp : H p = none) (h : DvA K W G H vs ds) : Fr K W G H (upd H p (.lst vs)) (.ref p) (.lst ds) := by
  refine ⟨p, vs, ds, rfl, rfl, nn_of hp, bf fun z => w.wd p z (nn_of hp), upd_same, h.tr (fun a o q n => ?_) fun a x y => ⟨x, y.ex (Ex.new hp)⟩⟩
  obtain ⟨q1, q2⟩ := wo_some.mp q
  exact wo_some.mpr ⟨bf fun z => (hd_t.mp z).elim (fun y => tf y q1) fun y => sn (nn_of hp) (y ▸ q2) n, Ex.new hp a o q2⟩
theorem ef_lst (h : EA X env tr fun ds => ds.length.ble 1000 = true ∧ Pl ds) : EF X env (tLst tr) Pl := fun gd W G σ H Q S er q =>
  h gd W G σ H _ S er fun W1 G1 vs H1 ds ⟨hl, hp⟩ e1 d1 => ⟨sz_of (by have := Nat.le_of_ble_eq_true hl; rw [d1.len]; omega), fun p hp0 => q W1 G1 _ _ _ hp (e1.trans (.ofEx e1.t (Ex.new hp0))) (by
    obtain ⟨p', vs, ds, e, e', h1, r⟩ := fr_new e1.t hp0 d1
    exact ⟨p', vs, ds, e, e', e1.fr p' h1, r⟩)⟩
theorem tv_test (h : EV X env te fun d => ∃ b, d = .bl b ∧ Pb b) : TV X env (tTest te) Pb := fun gd W G σ H Q S er q =>
  h gd W G σ H _ S er fun W1 G1 v H1 d ⟨b, e, hb⟩ e1 d1 => by
    subst e
    cases d1
    exact ⟨b, rfl, q W1 G1 b H1 hb e1⟩
theorem tv_B (h : EV X env te fun d => ∃ b, d = .bl b ∧ Pb b) : TV X env (tB te) Pb := tv_test h
theorem tv_and (h : TV X env tt fun b => if b = true then TV X env tu Pb else Pb false) : TV X env (tAnd tt tu) Pb := fun gd W G σ H Q S er q =>
  h gd W G σ H _ S er fun W1 G1 b H1 hb e1 => by
    cases b with
    | true => exact (ifT hb : TV X env tu Pb) gd W1 G1 σ H1 Q (S.step e1) er fun W2 G2 b H2 hb e2 => q W2 G2 b H2 hb (e1.trans e2)
    | false => exact q W1 G1 false H1 (ifF hb) e1
theorem tv_or (h : TV X env tt fun b => if b = true then Pb true else TV X env tu Pb) : TV X env (tOr tt tu) Pb := fun gd W G σ H Q S er q =>
  h gd W G σ H _ S er fun W1 G1 b H1 hb e1 => by
    cases b with
    | true => exact q W1 G1 true H1 (ifT hb) e1
    | false => exact (ifF hb : TV X env tu Pb) gd W1 G1 σ H1 Q (S.step e1) er fun W2 G2 b H2 hb e2 => q W2 G2 b H2 hb (e1.trans e2)
theorem tv_not (h : TV X env tt fun b => Pb (!b)) : TV X env (tNot tt) Pb := fun gd W G σ H Q S er q => h gd W G σ H _ S er fun W1 G1 b H1 hb e1 => q W1 G1 (!b) H1 hb e1
theorem ev_andV (h : EV X env ta fun x => ∃ b, x = .bl b ∧ if b = true then EV X env tb P else P (.bl false)) : EV X env (tAndV ta tb) P := fun gd W G σ H Q S er q =>
  h gd W G σ H _ S er fun W1 G1 v H1 d ⟨b, e, hb⟩ e1 d1 => by
    subst e
    cases d1
    refine ⟨b, rfl, ?_⟩
    cases b with
    | true => exact (ifT hb : EV X env tb P) gd W1 G1 σ H1 Q (S.step e1) er fun W2 G2 v H2 d hd e2 d2 => q W2 G2 v H2 d hd (e1.trans e2) d2
    | false => exact q W1 G1 _ H1 _ (ifF hb) e1 (.bl false)
theorem ev_orV (h : EV X env ta fun x => ∃ b, x = .bl b ∧ if b = true then P (.bl true) else EV X env tb P) : EV X env (tOrV ta tb) P := fun gd W G σ H Q S er q =>
  h gd W G σ H _ S er fun W1 G1 v H1 d ⟨b, e, hb⟩ e1 d1 => by
    subst e
    cases d1
    refine ⟨b, rfl, ?_⟩
    cases b with
    | true => exact q W1 G1 _ H1 _ (ifT hb) e1 (.bl true)
    | false => exact (ifF hb : EV X env tb P) gd W1 G1 σ H1 Q (S.step e1) er fun W2 G2 v H2 d hd e2 d2 => q W2 G2 v H2 d hd (e1.trans e2) d2
theorem ev_notV (h : EV X env ta fun x => ∃ b, x = .bl b ∧ P (.bl (!b))) : EV X env (tNotV ta) P := fun gd W G σ H Q S er q =>
  h gd W G σ H _ S er fun W1 G1 v H1 d ⟨b, e, hb⟩ e1 d1 => by
    subst e
    cases d1
    exact ⟨b, rfl, q W1 G1 _ H1 _ hb e1 (.bl _)⟩
theorem ev_if (h : TV X env tt fun b => if b = true then EV X env ta P else EV X env tb P) : EV X env (tIf tt ta tb) P := fun gd W G σ H Q S er q =>
  h gd W G σ H _ S er fun W1 G1 b H1 hb e1 => by
    cases b with
    | true => exact (ifT hb : EV X env ta P) gd W1 G1 σ H1 Q (S.step e1) er fun W2 G2 v H2 d hd e2 d2 => q W2 G2 v H2 d hd (e1.trans e2) d2
    | false => exact (ifF hb : EV X env tb P) gd W1 G1 σ H1 Q (S.step e1) er fun W2 G2 v H2 d hd e2 d2 => q W2 G2 v H2 d hd (e1.trans e2) d2
theorem ev_chain {r r' : R2} (h : EV X env ta fun x => EV X env tb fun y => OP X.c r x y fun z => ∃ b, z = .bl b ∧ if b = true then EV X env tc fun w => OP X.c r' y w P else P (.bl false)) : EV X env (tChain r r' ta tb tc) P := fun gd W G σ H Q S er q =>
  h gd W G σ H _ S er fun W1 G1 v H1 x hx e1 d1 => hx gd W1 G1 σ H1 _ (S.step e1) er fun W2 G2 w H2 y hy e2 d2 =>
    hy W2 G2 H2 v w _ e2.t ((S.step e1).step e2).tb (d1.es e1.t e2) d2 fun W3 G3 z H3 d ⟨b, e, hb⟩ e3 d3 => by
      subst e
      cases d3
      refine ⟨b, rfl, ?_⟩
      have S3 := ((S.step e1).step e2).step e3
      cases b with
      | true =>
        have hb2 : EV X env tc fun w => OP X.c r' y w P := ifT hb
        refine hb2 gd W3 G3 σ H3 _ S3 er fun W4 G4 u H4 d hd e4 d4 => ?_
        exact hd W4 G4 H4 w u Q e4.t (S3.step e4).tb ((d2.es e2.t e3).es e3.t e4) d4 fun W5 G5 z H5 d hd e5 d5 => q W5 G5 z H5 d hd (((e1.trans e2).trans e3).trans (e4.trans e5)) d5
      | false => exact q W3 G3 _ H3 _ (ifF hb) ((e1.trans e2).trans e3) (.bl false)
/-- what is owned is read as data, the answer is no part of it -/
def D.imm : D → Prop
  | .lst _ => False | .tup _ => False | .obj _ _ => False | .scr _ => False | .pur => False | _ => True
theorem Dv.ofImm {K : PySem.W.Frag} {W G W' G' : Addr → Bool} {H H' : Hp} {v : V} {d : D} (h : Dv K W G H v d) (i : d.imm) : Dv K W' G' H' v d := by
  cases h with
  | non => exact .non
  | bl b => exact .bl b
  | int b => exact .int b
  | str b => exact .str b
  | raw => exact .raw _
  | lst => exact i.elim
  | tup => exact i.elim
  | obj => exact i.elim
  | scr => exact i.elim
  | pur => exact i.elim
def EvF (er : List Sl → Er → Prop) (env : List Sl) : List Sl → Er → Prop := fun e x => e = env.map frz → er env x
theorem ev_frz (h : EV X (env.map frz) te fun d => d.imm ∧ P d) (he : ∀ e, X.er (env.map frz) e → X.er (env.map frz) e := fun _ h => h) : EV X env te P := fun gd W G σ H Q S er q => by
  obtain ⟨W', le, S'⟩ := S.frz
  exact h gd W' G σ H Q S' er fun W1 G1 v H1 d ⟨hi, hd⟩ e1 d1 => q (wg W G1) G1 v H1 d hd (e1.re S.t) (d1.ofImm hi)
theorem tv_frz (h : TV X (env.map frz) tt Pb) : TV X env tt Pb := fun gd W G σ H Q S er q => by
  obtain ⟨W', le, S'⟩ := S.frz
  exact h gd W' G σ H Q S' er fun W1 G1 v H1 hb e1 => q (wg W G1) G1 v H1 hb (e1.re S.t)
end
/-! ### operations on data -/
section
variable {c : Cp} {P : D → Prop} {Pl : List D → Prop} {i j : Int} {a b : Bool} {s t : Str} {ds es : List D} {d e x y : D}
theorem op_I0 {f : Int → Int → Int} (h : P (.int (f i j))) : OP c (rI0 fun i j => .int (f i j)) (.int i) (.int j) P := fun W G H v w Q w0 tb d1 d2 q => by
  cases d1; cases d2
  exact ⟨i, j, rfl, rfl, q W G _ H _ h (.refl w0) (.int _)⟩
theorem op_B0 {f : Int → Int → Bool} (h : P (.bl (f i j))) : OP c (rI0 fun i j => .bl (f i j)) (.int i) (.int j) P := fun W G H v w Q w0 tb d1 d2 q => by
  cases d1; cases d2
  exact ⟨i, j, rfl, rfl, q W G _ H _ h (.refl w0) (.bl _)⟩
theorem op_I {C : Int → Int → Prop} {f : Int → Int → Int} (k : C i j) (h : P (.int (f i j))) : OP c (rI C fun i j => .int (f i j)) (.int i) (.int j) P := fun W G H v w Q w0 tb d1 d2 q => by
  cases d1; cases d2
  exact ⟨i, j, rfl, rfl, k, q W G _ H _ h (.refl w0) (.int _)⟩
theorem up_I {f : Int → Int} (h : P (.int (f i))) : UP c (rU fun i => .int (f i)) (.int i) P := fun W G H v Q w0 tb d1 q => by
  cases d1
  exact ⟨i, rfl, q W G _ H _ h (.refl w0) (.int _)⟩
theorem op_eqI (h : P (.bl (decide (i = j)))) : OP c rEq (.int i) (.int j) P := fun W G H v w Q w0 tb d1 d2 q => by
  cases d1; cases d2
  exact r_eqI (q W G _ H _ h (.refl w0) (.bl _))
theorem op_neI (h : P (.bl (!decide (i = j)))) : OP c rNe (.int i) (.int j) P := fun W G H v w Q w0 tb d1 d2 q => by
  cases d1; cases d2
  exact r_neI (q W G _ H _ h (.refl w0) (.bl _))
theorem op_eqB (h : P (.bl (decide (a = b)))) : OP c rEq (.bl a) (.bl b) P := fun W G H v w Q w0 tb d1 d2 q => by
  cases d1; cases d2
  exact r_eqB (q W G _ H _ h (.refl w0) (.bl _))
theorem op_neB (h : P (.bl (!decide (a = b)))) : OP c rNe (.bl a) (.bl b) P := fun W G H v w Q w0 tb d1 d2 q => by
  cases d1; cases d2
  exact r_neB (q W G _ H _ h (.refl w0) (.bl _))
theorem op_eqS (h : P (.bl (decide (s = t)))) : OP c rEq (.str s) (.str t) P := fun W G H v w Q w0 tb d1 d2 q => by
  cases d1; cases d2
  exact r_eqS (q W G _ H _ h (.refl w0) (.bl _))
theorem op_neS (h : P (.bl (!decide (s = t)))) : OP c rNe (.str s) (.str t) P := fun W G H v w Q w0 tb d1 d2 q => by
  cases d1; cases d2
  exact r_neS (q W G _ H _ h (.refl w0) (.bl _))
/-- is None -/
@[reducible] def isN : D → Bool
  | .non => true | .raw .non => true | _ => false
theorem Dv.isN {K : PySem.W.Frag} {W G : Addr → Bool} {H : Hp} {v : V} (h : Dv K W G H v d) : decide (v = .non) = Pu.isN d := by
  cases h <;> first | rfl | (cases v <;> rfl)
theorem op_isN (h : P (.bl (Pu.isN x))) : OP c rIsN x .non P := fun W G H v w Q w0 tb d1 d2 q => by
  cases d2
  exact ⟨rfl, by rw [d1.isN]; exact q W G _ H _ h (.refl w0) (.bl _)⟩
theorem op_notN (h : P (.bl (!Pu.isN x))) : OP c rNotN x .non P := fun W G H v w Q w0 tb d1 d2 q => by
  cases d2
  exact ⟨rfl, by rw [d1.isN]; exact q W G _ H _ h (.refl w0) (.bl _)⟩
/-! data compared -/
mutual
def toPy : D → PyData
  | .non => .none | .bl b => .bool b | .int i => .int i | .str s => .str s | .lst xs => .list (toPys xs) | .tup xs => .tuple (toPys xs) | .obj _ _ => .none | .pur => .none | .scr _ => .none | .raw _ => .none
def toPys : List D → List PyData
  | [] => [] | x :: xs => toPy x :: toPys xs
end
mutual
/-- plain data: no object in it -/
def pl : D → Bool
  | .obj _ _ => false | .pur => false | .raw _ => false | .scr _ => false | .lst xs => pls xs | .tup xs => pls xs | .str s => PyData.canLay0 (.str s) | .non => true | .bl _ => true | .int _ => true
def pls : List D → Bool
  | [] => true | x :: xs => pl x && pls xs
end
mutual
def dpt : D → Nat
  | .lst xs => dpts xs + 1 | .tup xs => dpts xs + 1 | .obj _ _ => 0 | .pur => 0 | .raw _ => 0 | .scr _ => 0 | .str _ => 0 | .non => 0 | .bl _ => 0 | .int _ => 0
def dpts : List D → Nat
  | [] => 0 | x :: xs => max (dpt x) (dpts xs)
end
mutual
/-- no bool in it -/
def nb : D → Bool
  | .bl _ => false | .lst xs => nbs xs | .tup xs => nbs xs | .obj _ _ => true | .pur => true | .raw _ => true | .scr _ => true | .str _ => true | .non => true | .int _ => true
def nbs : List D → Bool
  | [] => true | x :: xs => nb x && nbs xs
end
section
variable {K : PySem.W.Frag} {W G : Addr → Bool} {H : Hp}
mutual
theorem Dv.py : ∀ {v : V} {d : D}, Dv K W G H v d → pl d = true → Dp K H v (toPy d)
  | _, _, .non, _ => by rw [toPy]; exact .non
  | _, _, .bl b, _ => by rw [toPy]; exact .bl b
  | _, _, .int i, _ => by rw [toPy]; exact .int i
  | _, _, .str s, _ => by rw [toPy]; exact .str s
  | _, _, .lst e a, h => by rw [pl] at h; rw [toPy]; exact .lst (L2.SqL.of (wo_some.mp e).2) (DvA.py a h)
  | _, _, .tup e a, h => by rw [pl] at h; rw [toPy]; exact .tup (L2.SqT.of (wo_some.mp e).2) (DvA.py a h)
  | _, _, .obj e a, h => by rw [pl] at h; cases h
  | _, _, .pur a b, h => by rw [pl] at h; cases h
  | _, _, .scr s, h => by rw [pl] at h; cases h
  | _, _, .raw v, h => by rw [pl] at h; cases h
theorem DvA.py : ∀ {v : List V} {d : List D}, DvA K W G H v d → pls d = true → DpAll K H v (toPys d)
  | _, _, .nil, _ => by rw [toPys]; exact .nil
  | _, _, .cons a b, h => by
    rw [pls, Bool.and_eq_true] at h
    rw [toPys]
    exact .cons (Dv.py a h.1) (DvA.py b h.2)
end
end
mutual
theorem lay_of : ∀ d : D, pl d = true → (toPy d).canLay0 = true
  | .non, _ => by rw [toPy]; rfl
  | .bl b, _ => by rw [toPy]; rfl
  | .int i, _ => by rw [toPy]; rfl
  | .str s, h => by rw [pl] at h; rw [toPy]; exact h
  | .lst xs, h => by rw [pl] at h; rw [toPy, PyData.canLay0]; exact lays_of xs h
  | .tup xs, h => by rw [pl] at h; rw [toPy, PyData.canLay0]; exact lays_of xs h
  | .obj _ _, h => by rw [toPy]; rfl
  | .pur, h => by rw [toPy]; rfl
  | .scr ns, h => by rw [toPy]; rfl
  | .raw v, h => by rw [toPy]; rfl
theorem lays_of : ∀ d : List D, pls d = true → PyData.canLayAll0 (toPys d) = true
  | [], _ => by rw [toPys]; rfl
  | x :: xs, h => by
    rw [pls, Bool.and_eq_true] at h
    rw [toPys, PyData.canLayAll0, lay_of x h.1, lays_of xs h.2]; rfl
end
mutual
theorem dep_of : ∀ d : D, (toPy d).depth ≤ dpt d
  | .non => by simp [toPy, dpt, PyData.depth]
  | .bl b => by simp [toPy, dpt, PyData.depth]
  | .int i => by simp [toPy, dpt, PyData.depth]
  | .str s => by simp [toPy, dpt, PyData.depth]
  | .lst xs => by have := deps_of xs; simp only [toPy, dpt, PyData.depth]; omega
  | .tup xs => by have := deps_of xs; simp only [toPy, dpt, PyData.depth]; omega
  | .obj _ _ => by simp [toPy, dpt, PyData.depth]
  | .pur => by simp [toPy, dpt, PyData.depth]
  | .scr ns => by simp [toPy, dpt, PyData.depth]
  | .raw v => by simp [toPy, dpt, PyData.depth]
theorem deps_of : ∀ d : List D, PyData.depthAll (toPys d) ≤ dpts d
  | [] => by simp [toPys, dpts, PyData.depthAll]
  | x :: xs => by
    have h1 := dep_of x
    have h2 := deps_of xs
    simp only [toPys, dpts, PyData.depthAll]
    omega
end
/-- may be compared -/
def Cm (d : D) : Prop := pl d = true ∧ dpt d ≤ 60
theorem Cm.sh (h : Cm d) : SeqAt.shaped (toPy d) = true := shape_of (lay_of d h.1) (Nat.le_trans (dep_of d) (by have := h.2; omega))
def eqv (x y : D) : Bool := PyData.eqv (toPy x) (toPy y)
theorem op_eqD (hx : Cm x) (hy : Cm y) (h : P (.bl (eqv x y))) : OP c (rEqD c.K) x y P := fun W G H v w Q w0 tb d1 d2 q => ⟨_, _, d1.py hx.1, d2.py hy.1, hx.sh, hy.sh, q W G _ H _ h (.refl w0) (.bl _)⟩
theorem op_neD (hx : Cm x) (hy : Cm y) (h : P (.bl (!eqv x y))) : OP c (rNeD c.K) x y P := fun W G H v w Q w0 tb d1 d2 q => ⟨_, _, d1.py hx.1, d2.py hy.1, hx.sh, hy.sh, q W G _ H _ h (.refl w0) (.bl _)⟩
mutual
theorem eqv_nb : ∀ x y : D, pl x = true → pl y = true → nb x = true → nb y = true → (PyData.eqv (toPy x) (toPy y) = true ↔ x = y)
  | .non, y, h1, h2, h3, h4 => by cases y <;> simp [toPy, PyData.eqv, pl, nb] at *
  | .bl b, y, h1, h2, h3, h4 => by simp [nb] at h3
  | .int i, y, h1, h2, h3, h4 => by cases y <;> simp [toPy, PyData.eqv, pl, nb] at *
  | .str i, y, h1, h2, h3, h4 => by cases y <;> simp [toPy, PyData.eqv, pl, nb] at *
  | .lst xs, y, h1, h2, h3, h4 => by
    cases y with
    | lst ys =>
      simp only [pl, nb] at h1 h2 h3 h4
      simp only [toPy, PyData.eqv, eqvs_nb xs ys h1 h2 h3 h4, D.lst.injEq]
    | _ => simp [toPy, PyData.eqv, pl, nb] at *
  | .tup xs, y, h1, h2, h3, h4 => by
    cases y with
    | tup ys =>
      simp only [pl, nb] at h1 h2 h3 h4
      simp only [toPy, PyData.eqv, eqvs_nb xs ys h1 h2 h3 h4, D.tup.injEq]
    | _ => simp [toPy, PyData.eqv, pl, nb] at *
  | .obj _ _, y, h1, h2, h3, h4 => by simp [pl] at h1
  | .pur, y, h1, h2, h3, h4 => by simp [pl] at h1
  | .scr ns, y, h1, h2, h3, h4 => by simp [pl] at h1
  | .raw v, y, h1, h2, h3, h4 => by simp [pl] at h1
theorem eqvs_nb : ∀ x y : List D, pls x = true → pls y = true → nbs x = true → nbs y = true → (PyData.eqvAll (toPys x) (toPys y) = true ↔ x = y)
  | [], y, h1, h2, h3, h4 => by cases y <;> simp [toPys, PyData.eqvAll]
  | x :: xs, y, h1, h2, h3, h4 => by
    cases y with
    | nil => simp [toPys, PyData.eqvAll]
    | cons y ys =>
      simp only [pls, nbs, Bool.and_eq_true] at h1 h2 h3 h4
      simp only [toPys, PyData.eqvAll, Bool.and_eq_true, eqv_nb x y h1.1 h2.1 h3.1 h4.1, eqvs_nb xs ys h1.2 h2.2 h3.2 h4.2, List.cons.injEq]
end
/-- may be compared, no bool in it -/
structure Cn (d : D) : Prop where
  p : pl d = true
  t : dpt d ≤ 60
  n : nb d = true
theorem Cn.m (h : Cn d) : Cm d := ⟨h.p, h.t⟩
theorem eqv_t (hx : Cn x) (h : x = y) : eqv x y = true := by subst h; exact (eqv_nb x x hx.p hx.p hx.n hx.n).mpr rfl
theorem eqv_f (hx : Cn x) (hy : Cn y) (h : x ≠ y) : eqv x y = false := bf fun z => h ((eqv_nb x y hx.p hy.p hx.n hy.n).mp z)
/-- x == y -/
theorem op_eq (hx : Cn x) (hy : Cn y) (h1 : x = y → P (.bl true)) (h2 : x ≠ y → P (.bl false)) : OP c (rEqD c.K) x y P := op_eqD hx.m hy.m (by
  by_cases h : x = y
  · rw [eqv_t hx h]; exact h1 h
  · rw [eqv_f hx hy h]; exact h2 h)
theorem op_ne (hx : Cn x) (hy : Cn y) (h1 : x ≠ y → P (.bl true)) (h2 : x = y → P (.bl false)) : OP c (rNeD c.K) x y P := op_neD hx.m hy.m (by
  by_cases h : x = y
  · rw [eqv_t hx h]; exact h2 h
  · rw [eqv_f hx hy h]; exact h1 h)
theorem cn_int : Cn (.int i) := ⟨rfl, by simp [dpt], rfl⟩
theorem cn_non : Cn .non := ⟨rfl, by simp [dpt], rfl⟩
end
/-! ### lists and tuples read -/
def atD (ds : List D) (i : Int) : Option D := if 0 ≤ i then ds[i.toNat]? else if -(ds.length : Int) ≤ i then ds[(i + ds.length).toNat]? else none
theorem ixN_of {n : Nat} {i : Int} {j : Nat} (h : (0 ≤ i ∧ i = j ∧ j < n) ∨ (i < 0 ∧ i + n = j ∧ j < n)) : ixN n i = some j := by
  unfold ixN
  rcases h with ⟨h0, h1, h2⟩ | ⟨h0, h1, h2⟩
  · rw [if_pos h0, if_pos (by omega), h1, Int.toNat_natCast]
  · rw [if_neg (by omega), if_pos (by omega), h1, Int.toNat_natCast]
theorem atD_ix {ds : List D} {i : Int} {d : D} (h : atD ds i = some d) : ∃ j, ixN ds.length i = some j ∧ ds[j]? = some d := by
  unfold atD at h
  split at h
  · rename_i h0
    have hl := (List.getElem?_eq_some_iff.mp h).1
    exact ⟨i.toNat, ixN_of (.inl ⟨h0, by omega, hl⟩), h⟩
  · split at h
    · rename_i h0 h1
      have hl := (List.getElem?_eq_some_iff.mp h).1
      exact ⟨(i + ds.length).toNat, ixN_of (.inr ⟨by omega, by omega, hl⟩), h⟩
    · cases h
theorem dva_at {K : PySem.W.Frag} {W G : Addr → Bool} {H : Hp} {vs : List V} {ds : List D} {i : Int} {d : D} (a : DvA K W G H vs ds) (h : atD ds i = some d) : ∃ v, L2.atI vs i = some v ∧ Dv K W G H v d := by
  obtain ⟨j, h1, h2⟩ := atD_ix h
  obtain ⟨v, h3, h4⟩ := a.at h2
  exact ⟨v, by unfold L2.atI; rw [a.len, h1]; exact h3, h4⟩
/-- xs[i] -/
def gA {α : Type} [Inhabited α] (xs : List α) (i : Int) : α := xs.getD i.toNat default
theorem gA_get {α : Type} [Inhabited α] {xs : List α} {i : Nat} (h : i < xs.length) : gA xs (i : Int) = xs[i] := by
  unfold gA
  rw [Int.toNat_natCast, List.getD_eq_getElem?_getD, List.getElem?_eq_getElem h]
  rfl
theorem gA_at {α : Type} [Inhabited α] {xs : List α} {i : Int} (h : i.toNat < xs.length) : gA xs i = xs[i.toNat] := by
  unfold gA
  rw [List.getD_eq_getElem?_getD, List.getElem?_eq_getElem h]
  rfl
theorem atD_map {α : Type} [Inhabited α] {f : α → D} {xs : List α} {i : Int} (h0 : 0 ≤ i) (h1 : i < xs.length) : atD (xs.map f) i = some (f (gA xs i)) := by
  unfold atD
  have hl : i.toNat < xs.length := by omega
  rw [if_pos h0, List.getElem?_map, List.getElem?_eq_getElem hl, gA_at hl]
  rfl
section
variable {c : Cp} {P : D → Prop} {Pl : List D → Prop} {i j : Int} {ds es : List D} {d e x y : D} {α β : Type} [Inhabited α] {f : α → D} {xs ys : List α}
theorem op_ixL (h : atD ds i = some d) (p : P d) : OP c (rIxL c.K) (.lst ds) (.int i) P := fun W G H v w Q w0 tb d1 d2 q => by
  cases d2
  cases d1 with
  | lst e a =>
    obtain ⟨z, h1, h2⟩ := dva_at a h
    exact ⟨_, _, i, z, rfl, rfl, L2.SqL.of (wo_some.mp e).2, h1, q W G z H d p (.refl w0) h2⟩
theorem op_ixT (h : atD ds i = some d) (p : P d) : OP c (rIxT c.K) (.tup ds) (.int i) P := fun W G H v w Q w0 tb d1 d2 q => by
  cases d2
  cases d1 with
  | tup e a =>
    obtain ⟨z, h1, h2⟩ := dva_at a h
    exact ⟨_, _, i, z, rfl, rfl, L2.SqT.of (wo_some.mp e).2, h1, q W G z H d p (.refl w0) h2⟩
theorem op_ixLm (h0 : 0 ≤ i) (h1 : i < xs.length) (p : P (f (gA xs i))) : OP c (rIxL c.K) (.lst (xs.map f)) (.int i) P := op_ixL (atD_map h0 h1) p
theorem op_ixT0 (p : P d) : OP c (rIxT c.K) (.tup (d :: ds)) (.int 0) P := op_ixT (d := d) rfl p
theorem op_ixT1 (p : P d) : OP c (rIxT c.K) (.tup (x :: d :: ds)) (.int 1) P := op_ixT (d := d) rfl p
theorem op_ixT2 (p : P d) : OP c (rIxT c.K) (.tup (x :: y :: d :: ds)) (.int 2) P := op_ixT (d := d) rfl p
theorem op_ixL0 (p : P d) : OP c (rIxL c.K) (.lst (d :: ds)) (.int 0) P := op_ixL (d := d) rfl p
theorem op_ixL1 (p : P d) : OP c (rIxL c.K) (.lst (x :: d :: ds)) (.int 1) P := op_ixL (d := d) rfl p
theorem op_ixL2 (p : P d) : OP c (rIxL c.K) (.lst (x :: y :: d :: ds)) (.int 2) P := op_ixL (d := d) rfl p
theorem atD_last {ds : List D} {d : D} : atD (ds ++ [d]) (-1) = some d := by
  unfold atD
  rw [if_neg (by decide), List.length_append]
  rw [if_pos (by show -((ds.length + 1 : Nat) : Int) ≤ -1; omega)]
  have e : ((-1 : Int) + ((ds.length + [d].length : Nat) : Int)).toNat = ds.length := by
    show ((-1 : Int) + ((ds.length + 1 : Nat) : Int)).toNat = _
    omega
  rw [e, List.getElem?_append_right (Nat.le_refl _), Nat.sub_self]
  rfl
theorem op_ixLast (p : P d) : OP c (rIxL c.K) (.lst (ds ++ [d])) (.int (-1)) P := op_ixL atD_last p
/-! built-in functions -/
theorem dva1 {K : PySem.W.Frag} {W G : Addr → Bool} {H : Hp} {vs : List V} (a : DvA K W G H vs [d]) : ∃ v, vs = [v] ∧ Dv K W G H v d := by
  cases a with
  | cons a r => cases r; exact ⟨_, rfl, a⟩
theorem dva2 {K : PySem.W.Frag} {W G : Addr → Bool} {H : Hp} {vs : List V} (a : DvA K W G H vs [d, e]) : ∃ v w, vs = [v, w] ∧ Dv K W G H v d ∧ Dv K W G H w e := by
  cases a with
  | cons a r =>
    cases r with
    | cons b r => cases r; exact ⟨_, _, rfl, a, b⟩
theorem cb_lenL (p : P (.int ds.length)) : BI c (Lay.rLen c.K) [.lst ds] P := fun W G H vs Q w0 tb a0 q => by
  obtain ⟨v, rfl, a⟩ := dva1 a0
  cases a with
  | lst e a => exact r_len (L2.SqL.of (wo_some.mp e).2) (by rw [a.len]; exact q W G _ H _ p (.refl w0) (.int _))
theorem cb_lenT (p : P (.int ds.length)) : BI c (Lay.rLen c.K) [.tup ds] P := fun W G H vs Q w0 tb a0 q => by
  obtain ⟨v, rfl, a⟩ := dva1 a0
  cases a with
  | tup e a => exact ⟨_, _, rfl, .inr (L2.SqT.of (wo_some.mp e).2), by rw [a.len]; exact q W G _ H _ p (.refl w0) (.int _)⟩
theorem cb_lenLm (p : P (.int xs.length)) : BI c (Lay.rLen c.K) [.lst (xs.map f)] P := cb_lenL (by rw [List.length_map]; exact p)
theorem cb_int (p : P (.int i)) : BI c rInt1 [.int i] P := fun W G H vs Q w0 tb a0 q => by
  obtain ⟨v, rfl, a⟩ := dva1 a0
  cases a
  exact r_int (q W G _ H _ p (.refl w0) (.int _))
theorem cb_abs (p : P (.int (if i < 0 then -i else i))) : BI c rAbs [.int i] P := fun W G H vs Q w0 tb a0 q => by
  obtain ⟨v, rfl, a⟩ := dva1 a0
  cases a
  exact r_abs (q W G _ H _ p (.refl w0) (.int _))
theorem cb_mx2 (p : P (.int (if j > i then j else i))) : BI c rMx2 [.int i, .int j] P := fun W G H vs Q w0 tb a0 q => by
  obtain ⟨v, w, rfl, a, b⟩ := dva2 a0
  cases a; cases b
  exact r_mx2 (q W G _ H _ p (.refl w0) (.int _))
theorem cb_mn2 (p : P (.int (if j < i then j else i))) : BI c rMn2 [.int i, .int j] P := fun W G H vs Q w0 tb a0 q => by
  obtain ⟨v, w, rfl, a, b⟩ := dva2 a0
  cases a; cases b
  exact r_mn2 (q W G _ H _ p (.refl w0) (.int _))
variable {ns : List Int}
theorem cb_sum (p : P (.int ns.sum)) : BI c (rSum c.K) [.lst (ns.map .int)] P := fun W G H vs Q w0 tb a0 q => by
  obtain ⟨v, rfl, a⟩ := dva1 a0
  cases a with
  | lst e a => exact r_sum (L2.SqL.of (by rw [← a.ints]; exact (wo_some.mp e).2)) (q W G _ H _ p (.refl w0) (.int _))
theorem cb_max (l : 0 < ns.length) (p : P (.int (mxl ns))) : BI c (rMax c.K) [.lst (ns.map .int)] P := fun W G H vs Q w0 tb a0 q => by
  obtain ⟨v, rfl, a⟩ := dva1 a0
  cases a with
  | lst e a => exact r_maxI (L2.SqL.of (by rw [← a.ints]; exact (wo_some.mp e).2)) l (q W G _ H _ p (.refl w0) (.int _))
theorem cb_min (l : 0 < ns.length) (p : ∀ m, m ∈ ns → (∀ y ∈ ns, m ≤ y) → P (.int m)) : BI c (rMin c.K) [.lst (ns.map .int)] P := fun W G H vs Q w0 tb a0 q => by
  obtain ⟨v, rfl, a⟩ := dva1 a0
  cases a with
  | lst e a => exact ⟨_, ns, rfl, L2.SqL.of (by rw [← a.ints]; exact (wo_some.mp e).2), l, fun m h1 h2 => q W G _ H _ (p m h1 h2) (.refl w0) (.int _)⟩
theorem cf_listL (p : Pl ds) : CF c (Lay.rList c.K) [.lst ds] Pl := fun W G H vs Q w0 tb a0 q => by
  obtain ⟨v, rfl, a⟩ := dva1 a0
  cases a with
  | lst e a => exact ⟨_, _, rfl, .inl (L2.SqL.of (wo_some.mp e).2), fun l hl => q W G _ _ _ p (.ofEx w0 (Ex.new hl)) (fr_new w0 hl a)⟩
theorem cf_listT (p : Pl ds) : CF c (Lay.rList c.K) [.tup ds] Pl := fun W G H vs Q w0 tb a0 q => by
  obtain ⟨v, rfl, a⟩ := dva1 a0
  cases a with
  | tup e a => exact ⟨_, _, rfl, .inr (L2.SqT.of (wo_some.mp e).2), fun l hl => q W G _ _ _ p (.ofEx w0 (Ex.new hl)) (fr_new w0 hl a)⟩
theorem cb_tupleL (p : P (.tup ds)) : BI c (Lay.rTuple c.K) [.lst ds] P := fun W G H vs Q w0 tb a0 q => by
  obtain ⟨v, rfl, a⟩ := dva1 a0
  cases a with
  | lst e a => exact ⟨_, _, rfl, .inl ⟨L2.SqL.of (wo_some.mp e).2, fun l hl => q W G _ _ _ p (.ofEx w0 (Ex.new hl)) (.tup (wo_some.mpr ⟨bf fun z => w0.wd l z (nn_of hl), upd_same⟩) (a.es w0 (ES.ofEx (T := c.T) w0 (Ex.new hl))))⟩⟩
theorem cb_tupleT (p : P (.tup ds)) : BI c (Lay.rTuple c.K) [.tup ds] P := fun W G H vs Q w0 tb a0 q => by
  obtain ⟨v, rfl, a⟩ := dva1 a0
  cases a with
  | tup e a => exact ⟨_, _, rfl, .inr ⟨L2.SqT.of (wo_some.mp e).2, q W G _ _ _ p (.refl w0) (.tup e a)⟩⟩
theorem of_cat (l : ds.length + es.length ≤ 16000000) (p : Pl (ds ++ es)) : OF c rCat (.lst ds) (.lst es) Pl := fun W G H v w Q w0 tb d1 d2 q => by
  cases d1 with
  | lst e1 a1 =>
    cases d2 with
    | lst e2 a2 => exact ⟨_, _, _, _, rfl, rfl, (wo_some.mp e1).2, (wo_some.mp e2).2, by rw [a1.len, a2.len, PySem.sizeLine_eq]; omega, fun p2 hp => q W G _ _ _ p (.ofEx w0 (Ex.new hp)) (fr_new w0 hp (a1.app a2))⟩
theorem of_rep {k : Int} (h0 : -1000000000 ≤ k) (h1 : k ≤ 1000000000) (l : ds.length * k.toNat ≤ 16000000) (p : Pl (List.replicate k.toNat ds).flatten) : OF c rRep (.lst ds) (.int k) Pl := fun W G H v w Q w0 tb d1 d2 q => by
  cases d2
  cases d1 with
  | lst e1 a1 => exact ⟨_, k, _, rfl, rfl, (wo_some.mp e1).2, by omega, by omega, by rw [a1.len, PySem.sizeLine_eq]; omega, fun p2 hp => q W G _ _ _ p (.ofEx w0 (Ex.new hp)) (fr_new w0 hp (a1.rep _))⟩
def cutD (ds : List D) (lo hi : Option Int) : List D := (ds.drop (HT.sIx ds.length 0 lo)).take (HT.sIx ds.length ds.length hi - HT.sIx ds.length 0 lo)
theorem sl_F {lo hi : Option Int} (p : Pl (cutD ds lo hi)) : SLF c (rSlL c.K) (.lst ds) lo hi Pl := fun W G H v Q w0 tb d1 q => by
  cases d1 with
  | lst e1 a1 => exact ⟨_, _, rfl, L2.SqL.of (wo_some.mp e1).2, fun p2 hp => q W G _ _ _ p (.ofEx w0 (Ex.new hp)) (fr_new w0 hp (by
      unfold cutD cutV
      rw [a1.len]
      exact (a1.drop _).take _))⟩
end
section
variable {X : Cx} {env : List Sl} {P : D → Prop} {Pl : List D → Prop} {Po : Option Int → Prop} {te ta tb tc : TE} {tl tu : TO}
theorem ov_no (h : Po none) : OV X env tNoPart Po := fun gd W G σ H Q S er q => q W G none H h (.refl S.t)
theorem ov_some (h : EV X env te fun d => ∃ i, d = .int i ∧ Po (some i)) : OV X env (tPart te) Po := fun gd W G σ H Q S er q =>
  h gd W G σ H _ S er fun W1 G1 v H1 d ⟨i, e, hb⟩ e1 d1 => by
    subst e
    cases d1
    exact ⟨i, rfl, q W1 G1 (some i) H1 hb e1⟩
theorem ef_sl {r : V → Option Int → Option Int → Hp → VK → Prop} (h : EV X env te fun x => OV X env tl fun l => OV X env tu fun u => SLF X.c r x l u Pl) : EF X env (tSl r te tl tu) Pl := fun gd W G σ H Q S er q =>
  h gd W G σ H _ S er fun W1 G1 v H1 x hx e1 d1 => hx gd W1 G1 σ H1 _ (S.step e1) er fun W2 G2 l H2 hl e2 => hl gd W2 G2 σ H2 _ ((S.step e1).step e2) er fun W3 G3 u H3 hu e3 =>
    hu W3 G3 H3 v Q e3.t (((S.step e1).step e2).step e3).tb ((d1.es e1.t e2).es e2.t e3) fun W4 G4 z H4 ds hd e4 f => q W4 G4 z H4 ds hd (((e1.trans e2).trans e3).trans e4) (by
      obtain ⟨p, vs, ds, e, e', h1, r⟩ := f
      exact ⟨p, vs, ds, e, e', e1.fr p (e2.fr p (e3.fr p h1)), r⟩)
end
/-! ### isinstance -/
def tyD : D → Option String
  | .non => some "NoneType" | .bl _ => some "bool" | .int _ => some "int" | .str _ => some "str" | .lst _ => some "list" | .tup _ => some "tuple" | _ => none
theorem Dv.ty {K : PySem.W.Frag} {W G : Addr → Bool} {H : Hp} {v : V} {d : D} {n : String} (h : Dv K W G H v d) (e : tyD d = some n) : TyX K H v (.type n) := by
  cases h with
  | non => cases e; exact .base .non
  | bl b => cases e; exact .base (.bl b)
  | int b => cases e; exact .base (.int b)
  | str b => cases e; exact .base (.str b)
  | lst e1 a => cases e; exact .base (.lst (wo_some.mp e1).2)
  | tup e1 a => cases e; exact .base (.tup (wo_some.mp e1).2)
  | _ => cases e
section
variable {c : Cp} {P : D → Prop} {d : D} {n m m2 : String} {b b2 r : Bool}
theorem cb_isi (e : tyD d = some n) (k : L2.kitB n m = some b) (p : P (.bl b)) : BI c (rIsi c.K) [d, .raw (.ty m)] P := fun W G H vs Q w0 tb a0 q => by
  obtain ⟨v, w, rfl, a, a'⟩ := dva2 a0
  cases a'
  exact ⟨v, _, _, _, b, rfl, .ty m, a.ty e, kit_ty k, q W G _ H _ p (.refl w0) (.bl b)⟩
theorem cb_isiO {C C2 : Addr} {fs : List (Str × D)} {ff : List Str} {mg : Str → Option Value} {x : Str} (o : OC c.K mg x C ff) (i : OI c.K C) (k : PySem.W.kitOne c.K (.ref C) (.ref C2) = some b) (p : P (.bl b)) : BI c (rIsi c.K) [.obj C fs, .raw (.ref C2)] P := fun W G H vs Q w0 tb a0 q => by
  obtain ⟨v, w, rfl, a, a'⟩ := dva2 a0
  cases a'
  cases a with
  | obj e a => exact r_isO (wo_some.mp e).2 o i k (q W G _ H _ p (.refl w0) (.bl b))
/-- isinstance(x, C): C an own class, x of a built-in type -/
theorem cb_isiN {C2 : Addr} (e : tyD d = some n) (k : PySem.W.kitOne c.K (.type n) (.ref C2) = some b) (p : P (.bl b)) : BI c (rIsi c.K) [d, .raw (.ref C2)] P := fun W G H vs Q w0 tb a0 q => by
  obtain ⟨v, w, rfl, a, a'⟩ := dva2 a0
  cases a'
  exact ⟨v, _, _, _, b, rfl, .own C2, a.ty e, k, q W G _ H _ p (.refl w0) (.bl b)⟩
theorem cb_isiOT {C : Addr} {fs : List (Str × D)} {ff : List Str} {mg : Str → Option Value} {x : Str} (o : OC c.K mg x C ff) (i : OI c.K C) (k : PySem.W.kitOne c.K (.ref C) (.type m) = some b) (p : P (.bl b)) : BI c (rIsi c.K) [.obj C fs, .raw (.ty m)] P := fun W G H vs Q w0 tb a0 q => by
  obtain ⟨v, w, rfl, a, a'⟩ := dva2 a0
  cases a'
  cases a with
  | obj e a => exact ⟨_, _, _, _, b, rfl, .ty m, .base (.ins (wo_some.mp e).2 o.cl i.ha i.hn i.htk i.hm), k, q W G _ H _ p (.refl w0) (.bl b)⟩
/-- isinstance(x, (T1, T2)) -/
theorem cb_isi2 (e : tyD d = some n) (k : L2.kitB n m = some b) (k2 : L2.kitB n m2 = some b2) (p : P (.bl (b || b2))) : BI c (rIsiT c.K) [d, .tup [.raw (.ty m), .raw (.ty m2)]] P := fun W G H vs Q w0 tb a0 q => by
  obtain ⟨v, w, rfl, a, a'⟩ := dva2 a0
  cases a' with
  | tup e1 x =>
    obtain ⟨y, z, rfl, y1, z1⟩ := dva2 x
    cases y1; cases z1
    refine ⟨v, _, _, _, [.type m, .type m2], b || b2, rfl, (wo_some.mp e1).2, .cons (.ty m) (.cons (.ty m2) .nil), a.ty e, ?_, q W G _ H _ p (.refl w0) (.bl _)⟩
    exact kitAny_cons (kit_ty k) (fun hb => kitAny_cons (kit_ty k2) (fun hb2 => by rw [hb, hb2]; exact kitAny_nil) fun hb2 => by rw [hb2, Bool.or_true]) fun hb => by rw [hb, Bool.true_or]
end
/-! ### fields, methods -/
def FLD (c : Cp) (f : Str) (x : D) (P : D → Prop) : Prop := ∃ C fs d, x = .obj C fs ∧ Cls c.K C ∧ NoAttr c.K C f ∧ fs.lookup f = some d ∧ P d
def MTH (C : Addr) (m : Str) (x : D) (P : Prop) : Prop := ∃ fs, x = .obj C fs ∧ fs.lookup m = none ∧ P
section
variable {X : Cx} {env : List Sl} {P : D → Prop} {Pl : List D → Prop} {te ta tb : TE} {tr : TA} {f m x : Str} {C : Addr} {fs : List (Str × D)} {ff : List Str} {d : D} {mg : Str → Option Value} {E : XK}
theorem ev_fld (h : EV X env te fun x => FLD X.c f x P) : EV X env (tFld X.c.K te f) P := fun gd W G σ H Q S er q =>
  h gd W G σ H _ S er fun W1 G1 v H1 x hx e1 d1 => by
    obtain ⟨C, fs, d, rfl, h1, h2, h3, h4⟩ := hx
    cases d1 with
    | obj e a =>
      obtain ⟨v, l, dv⟩ := a.lookup h3
      exact ⟨_, C, _, _, v, rfl, (wo_some.mp e).2, h1, h2, l, q W1 G1 v H1 d h4 e1 dv⟩
theorem fld_mk {c : Cp} (o : OC c.K mg x C ff) (hf : f ∈ ff) (l : fs.lookup f = some d) (p : P d) : FLD c f (.obj C fs) P := ⟨C, fs, d, rfl, o.cl, o.na f hf, l, p⟩
theorem ev_meth {g : PF} (hE : ∀ σ, X.c.E σ = E) (h : EV X env te fun x => MTH C m x (EA X env tr fun ds => g (x :: ds) P (X.er env))) : EV X env (tMeth C m (spP X.c.K X.c.T g) [] E te tr) P := fun gd W G σ H Q S er q =>
  h gd W G σ H _ S er fun W1 G1 v H1 x hx e1 d1 => by
    obtain ⟨fs, rfl, h1, h2⟩ := hx
    cases id d1 with
    | obj e a =>
      refine ⟨_, _, _, rfl, (wo_some.mp e).2, a.none h1, ?_⟩
      refine h2 gd W1 G1 σ H1 _ (S.step e1) er fun W2 G2 vs H2 ds hg e2 d2 => ?_
      refine ⟨W2, G2, _, P, X.er env, e2.t, ((S.step e1).step e2).tb, .cons (d1.es e1.t e2) ?_, hg, fun d W' G' v H' hd e3 dv => q W' G' v H' d hd ((e1.trans e2).trans e3) dv, fun e' W' G' d H' he e3 hd => ?_⟩
      · rw [List.append_nil]; exact d2
      · rw [← hE σ]; exact er env e' W' G' σ H' d he (((S.step e1).step e2).step e3) hd
theorem ef_meth {g : List D → (List D → Prop) → (Er → Prop) → Prop} (hE : ∀ σ, X.c.E σ = E) (h : EV X env te fun x => MTH C m x (EA X env tr fun ds => g (x :: ds) Pl (X.er env))) : EF X env (tMeth C m (spN X.c.K X.c.T g) [] E te tr) Pl := fun gd W G σ H Q S er q =>
  h gd W G σ H _ S er fun W1 G1 v H1 x hx e1 d1 => by
    obtain ⟨fs, rfl, h1, h2⟩ := hx
    cases id d1 with
    | obj e a =>
      refine ⟨_, _, _, rfl, (wo_some.mp e).2, a.none h1, ?_⟩
      refine h2 gd W1 G1 σ H1 _ (S.step e1) er fun W2 G2 vs H2 ds hg e2 d2 => ?_
      refine ⟨W2, G2, _, Pl, X.er env, e2.t, ((S.step e1).step e2).tb, .cons (d1.es e1.t e2) ?_, hg, fun d W' G' v H' hd e3 fr => q W' G' v H' d hd ((e1.trans e2).trans e3) ?_, fun e' W' G' d H' he e3 hd => ?_⟩
      · rw [List.append_nil]; exact d2
      · obtain ⟨p, vs, ds, e, e', h1, r⟩ := fr
        exact ⟨p, vs, ds, e, e', e1.fr p (e2.fr p h1), r⟩
      · rw [← hE σ]; exact er env e' W' G' σ H' d he (((S.step e1).step e2).step e3) hd
theorem mth_mk (l : fs.lookup m = none) {p : Prop} (h : p) : MTH C m (.obj C fs) p := ⟨fs, rfl, l, h⟩
end
/-! ### making objects -/
/-- __init__'s promise: the fields that the new object has behind it -/
def spI (K : PySem.W.Frag) (T : List (Addr × Str)) (C : Addr) (f : List D → (List (Str × D) → Prop) → (Er → Prop) → Prop) : Sp := fun vs H Q E => ∃ x dx ws W G ds R er, vs = .ref x :: ws ∧ H x = some (.ins C dx []) ∧ WG W G (del H x) ∧ LamX.Tabs T (del H x) ∧ DvA K W G (del H x) ws ds ∧ f ds R er ∧
  (∀ fs W' G' H', R fs → ES T W G (del H x) W' G' H' → W' x = false → (∃ dx vs, H' x = some (.ins C dx vs) ∧ DvF K (hd x W') G' H' vs fs) → Q .non H') ∧
  (∀ e W' G' d H', er e → ES T W G (del H x) W' G' H' → H' d = some (.xd e.fs) → E (.ref e.c) (some d) H')
section
variable {X : Cx} {env : List Sl} {P : D → Prop} {tr : TA} {C : Addr} {E : XK} {dvs : List V} {dds : List D}
theorem ev_mkG {f : List D → (List (Str × D) → Prop) → (Er → Prop) → Prop} (hE : ∀ σ, X.c.E σ = E) (hd : ∀ W G H, DvA X.c.K W G H dvs dds) (h : EA X env tr fun ds => f (ds ++ dds) (fun fs => P (.obj C fs)) (X.er env)) : EV X env (tMake C (spI X.c.K X.c.T C f) dvs E tr) P := fun gd W G σ H Q S er q =>
  h gd W G σ H _ S er fun W1 G1 vs H1 ds hg e1 d1 => fun x dx nx nd ne => by
    have E1 : Ex H1 (del (upd (upd H1 dx (.own x)) x (.ins C dx [])) x) := fun b o hb => by
      rw [del_ne (ne_of_none hb nx), upd_ne (ne_of_none hb nx), upd_ne (ne_of_none hb nd)]
      exact hb
    have e2 : ES X.c.T W1 G1 H1 W1 G1 (del (upd (upd H1 dx (.own x)) x (.ins C dx [])) x) := .ofEx e1.t E1
    have S2 := (S.step e1).step e2
    refine ⟨x, dx, vs ++ dvs, W1, G1, ds ++ dds, _, X.er env, rfl, upd_same, e2.t, S2.tb, (d1.es e1.t e2).app (hd _ _ _), hg, fun fs W' G' H' hp e3 hw ho => ⟨rfl, ?_⟩, fun e' W' G' d H' he e3 hd => ?_⟩
    · obtain ⟨dx', vs', o1, o2⟩ := ho
      exact q W' G' _ H' _ hp ((e1.trans e2).trans e3) (.obj (wo_some.mpr ⟨hw, o1⟩) (o2.less hd_le))
    · rw [← hE σ]; exact er env e' W' G' σ H' d he (S2.step e3) hd
theorem ev_mk {f : List D → (List (Str × D) → Prop) → (Er → Prop) → Prop} (hE : ∀ σ, X.c.E σ = E) (h : EA X env tr fun ds => f ds (fun fs => P (.obj C fs)) (X.er env)) : EV X env (tMake C (spI X.c.K X.c.T C f) [] E tr) P :=
  ev_mkG (dds := []) hE (fun _ _ _ => .nil) fun gd W G σ H Q S er q => h gd W G σ H Q S er fun W' G' vs H' ds p e a => q W' G' vs H' ds (by show f (ds ++ []) _ _; rw [List.append_nil]; exact p) e a
end
/-! ### slots stored -/
section
variable {X : Cx} {gd : List (V × D)} {W G : Addr → Bool} {env : List Sl} {σ : L2.St} {H : Hp} {n : Nat} {v : V} {d : D}
theorem set_look {env : List Sl} {n i : Nat} {s t : Sl} (h : (env.set n s)[i]? = some t) : (i = n ∧ t = s) ∨ (i ≠ n ∧ env[i]? = some t) := by
  by_cases e : n = i
  · subst e
    by_cases hl : n < env.length
    · rw [List.getElem?_set_self hl] at h
      exact .inl ⟨rfl, (Option.some.inj h).symm⟩
    · rw [List.getElem?_eq_none (by simpa using hl)] at h
      cases h
  · rw [List.getElem?_set_ne e] at h
    exact .inr ⟨fun z => e z.symm, h⟩
theorem StW.setS (S : StW X.c gd W G env σ H) {s : Sl} (hs : n < env.length → SlOk X.c.K W G H (some (some v)) s) (ho : ∀ p o, s = Sl.own p o → OwOk X.c W G H p o ∧ ∀ (i : Nat) (o' : Oc), env[i]? ≠ some (Sl.own p o')) : StW X.c gd W G (env.set n s) (σ.set n (some v)) H :=
  { S with
    len := by rw [List.length_set, List.length_set]; exact S.len
    sl := fun i t h => by
      rcases set_look h with ⟨rfl, rfl⟩ | ⟨hn, h⟩
      · have hl : i < env.length := by
          have := (List.getElem?_eq_some_iff.mp h).1
          simpa using this
        rw [List.getElem?_set_self (by rw [S.len]; exact hl)]
        exact hs hl
      · rw [List.getElem?_set_ne (Ne.symm hn)]
        exact S.sl i t h
    ow := fun i p o h => by
      rcases set_look h with ⟨rfl, e⟩ | ⟨hn, h⟩
      · exact (ho p o e.symm).1
      · exact S.ow i p o h
    nd := fun i j p o o' h h' => by
      rcases set_look h with ⟨rfl, e⟩ | ⟨hn, k2⟩
      · rcases set_look h' with ⟨rfl, e'⟩ | ⟨hn', h'⟩
        · rfl
        · exact absurd h' ((ho p o e.symm).2 j o')
      · skip
        rcases set_look h' with ⟨rfl, e'⟩ | ⟨hn', h'⟩
        · exact absurd k2 ((ho p o' e'.symm).2 i o)
        · exact S.nd i j p o o' k2 h' }
theorem StW.setD (S : StW X.c gd W G env σ H) (h : Dv X.c.K W G H v d) : StW X.c gd W G (env.set n (.d d)) (σ.set n (some v)) H :=
  S.setS (fun _ => ⟨v, rfl, h⟩) fun p o e => by cases e
/-- a slot forgotten -/
theorem StW.setN (S : StW X.c gd W G env σ H) (x : Option V) : StW X.c gd W G (env.set n .no) (σ.set n x) H :=
  { S with
    len := by rw [List.length_set, List.length_set]; exact S.len
    sl := fun i t h => by
      rcases set_look h with ⟨rfl, rfl⟩ | ⟨hn, h⟩
      · trivial
      · rw [List.getElem?_set_ne (Ne.symm hn)]
        exact S.sl i t h
    ow := fun i p o h => by
      rcases set_look h with ⟨rfl, e⟩ | ⟨hn, h⟩
      · cases e
      · exact S.ow i p o h
    nd := fun i j p o o' h h' => by
      rcases set_look h with ⟨rfl, e⟩ | ⟨hn, h⟩
      · cases e
      · rcases set_look h' with ⟨rfl, e'⟩ | ⟨hn', h'⟩
        · cases e'
        · exact S.nd i j p o o' h h' }
/-- a new list is owned -/
theorem StW.ownF {W' G' : Addr → Bool} {H' : Hp} {ds : List D} (S : StW X.c gd W G env σ H) (e : ES X.c.T W G H W' G' H') (f : Fr X.c.K W' G' H H' v (.lst ds)) : ∃ p W2, v = .ref p ∧ StW X.c gd W2 G' (env.set n (.own p (.l ds))) (σ.set n (some v)) H' := by
  obtain ⟨p, vs, ds', rfl, e', h1, h2, h3, h4⟩ := f
  cases e'
  have hg : G' p = false := bf fun z => tf (e.t.gw p z) h2
  have e2 : ES X.c.T W G H (hd p W') G' H' := ⟨S.t, e.xg, fun a h => hd_le a (e.w a h), e.g, fun a h => (hd_t.mp h).elim (e.wn a) fun q => .inr (q ▸ h1), e.gn,
    ⟨fun a h => hd_le a (e.t.gw a h), fun a h => (hd_t.mp h).elim (e.t.wd a) fun q z => sn z (q ▸ h3) nt_l, e.t.gp⟩⟩
  refine ⟨p, hd p W', rfl, (S.step e2).setS (fun _ => rfl) fun q o z => ?_⟩
  cases z
  refine ⟨⟨hd_t.mpr (.inr rfl), hg, S.es.fr p h1, vs, h3, h4⟩, fun i o' z => ?_⟩
  obtain ⟨u, hu, nu⟩ := (S.ow i p o' z).at_.some
  exact sn h1 hu nu
/-- what is owned changes -/
theorem StW.mut {i : Nat} {p : Addr} {o o' : Oc} {H' : Hp} (S : StW X.c gd W G env σ H) (hi : env[i]? = some (.own p o)) (e : ExB p H H') (o2 : OcAt X.c.K W G H' p o') : StW X.c gd W G (env.set i (.own p o')) σ H' := by
  have ow := S.ow i p o hi
  obtain ⟨u, hu, nu⟩ := ow.at_.some
  obtain ⟨u', hu', nu'⟩ := o2.some
  have fr : ∀ a, nn H' a → nn H a := fun a h x q n => by
    by_cases hp : a = p
    · exact sn h (hp ▸ hu') nu'
    · exact sn h (e a x hp q) n
  have pur : ∀ a, G a = true → Pur H a → Pur H' a := fun a g h => h.upd e fun z => tf (z ▸ g) ow.g
  have fz : ∀ a x, wo W H a = some x → NT x → wo W H' a = some x := fun a x h _ => by
    obtain ⟨h1, h2⟩ := wo_some.mp h
    exact wo_some.mpr ⟨h1, e a x (fun z => tf ow.w (z ▸ h1)) h2⟩
  have tbs : ∀ {T : List (Addr × Str)}, LamX.Tabs T H → LamX.Tabs T H' := fun {T} t => by
    refine Tabs.exb t e ?_
    cases o with
    | l ds => obtain ⟨vs, h, _⟩ := ow.at_; exact .inl ⟨_, h⟩
    | o C fs => obtain ⟨dx, vs, h, _⟩ := ow.at_; exact .inr ⟨_, _, _, h⟩
  have hil := (List.getElem?_eq_some_iff.mp hi).1
  refine ⟨⟨S.t.gw, fun a h z => S.t.wd a h (fr a z), fun a h => pur a h (S.t.gp a h)⟩, S.b0, ⟨S.b0, ⟨fun a x g h n => e a x (fun z => sn ow.b (z ▸ h) n) (S.es.xg.ex a x g h n), fun a g h => pur a (S.es.g a g) (S.es.xg.pu a g h), fun t => tbs (S.es.xg.tb t)⟩,
    S.es.w, S.es.g, S.es.wn, S.es.gn, ⟨S.es.t.gw, fun a h z => S.es.t.wd a h (fr a z), fun a h => pur a h (S.t.gp a h)⟩⟩, S.w0, S.wb, tbs S.tb, by rw [List.length_set]; exact S.len, fun j t h => ?_, fun j q x h => ?_, fun j k q x x' h h' => ?_, fun q h => (S.gh q h).tr fz fun a b c => ⟨b, pur a b c⟩⟩
  · rcases set_look h with ⟨rfl, rfl⟩ | ⟨hn, h⟩
    · exact S.sl j _ hi
    · have k := S.sl j t h
      cases t with
      | no => trivial
      | d d =>
        obtain ⟨v, e1, e2⟩ := k
        exact ⟨v, e1, e2.tr fz fun a b c => ⟨b, pur a b c⟩⟩
      | own q x => exact k
  · rcases set_look h with ⟨rfl, z⟩ | ⟨hn, h⟩
    · cases z
      exact ⟨ow.w, ow.g, ow.b, o2⟩
    · have k := S.ow j q x h
      have nq : q ≠ p := fun z => hn (S.nd j i p x o (z ▸ h) hi)
      refine ⟨k.w, k.g, k.b, ?_⟩
      cases x with
      | l ds =>
        obtain ⟨vs, e1, e2⟩ := k.at_
        exact ⟨vs, e _ _ nq e1, e2.tr fz fun a b c => ⟨b, pur a b c⟩⟩
      | o C fs =>
        obtain ⟨dx, vs, e1, e2⟩ := k.at_
        exact ⟨dx, vs, e _ _ nq e1, e2.tr fz fun a b c => ⟨b, pur a b c⟩⟩
  · rcases set_look h with ⟨rfl, z⟩ | ⟨hn, k2⟩
    · cases z
      rcases set_look h' with ⟨rfl, z'⟩ | ⟨hn', h'⟩
      · rfl
      · exact S.nd j k p o x' hi h'
    · rcases set_look h' with ⟨rfl, z'⟩ | ⟨hn', h'⟩
      · cases z'
        exact S.nd j k p x o k2 hi
      · exact S.nd j k q x x' k2 h'
end
end Pu
/-! the pure layer: statements, loops, defs -/
namespace Pu
open PySem PySem.Spec PyProof.Rows L2 Evl Lay
theorem ne_w {W : Addr → Bool} {a p : Addr} (hp : W p = true) (ha : W a = false) : a ≠ p := fun z => tf hp (z ▸ ha)
theorem ne_g {W : Addr → Bool} {a p : Addr} (ha : W a = true) (hp : W p = false) : a ≠ p := fun z => tf ha (z ▸ hp)
theorem pur_upd {H : Hp} {a p : Addr} {o : HO} (h : Pur H a) (n : a ≠ p) : Pur (upd H p o) a := h.upd (fun b o n h => by rw [upd_ne n]; exact h) n
theorem zip_in {K : PySem.W.Frag} {W G : Addr → Bool} {H : Hp} : ∀ {ws : List V} {ys : List D}, DvA K W G H ws ys → ∀ q ∈ ws.zip ys, Dv K W G H q.1 q.2
  | _, _, .nil, q, h => (List.not_mem_nil h).elim
  | _, _, .cons a r, q, h => by
    rw [List.zip_cons_cons] at h
    rcases List.mem_cons.mp h with rfl | h
    · exact a
    · exact zip_in r q h
theorem zip_out {K K' : PySem.W.Frag} {W G W' G' : Addr → Bool} {H H' : Hp} : ∀ {ws : List V} {ys : List D}, DvA K W G H ws ys → (∀ q ∈ ws.zip ys, Dv K' W' G' H' q.1 q.2) → DvA K' W' G' H' ws ys
  | _, _, .nil, h => .nil
  | _, _, .cons (v := v) (d := d) a r, h => .cons (h (v, d) List.mem_cons_self) (zip_out r fun q hq => h q (List.mem_cons_of_mem _ hq))
theorem StW.ghost {c : Cp} {gd gd' : List (V × D)} {W G : Addr → Bool} {env : List Sl} {σ : L2.St} {H : Hp} (S : StW c gd W G env σ H) (h : ∀ q ∈ gd', Dv c.K W G H q.1 q.2) : StW c (gd' ++ gd) W G env σ H :=
  { S with gh := fun q hq => (List.mem_append.mp hq).elim (h q) (S.gh q) }
theorem StW.unghost {c : Cp} {gd gd' : List (V × D)} {W G : Addr → Bool} {env : List Sl} {σ : L2.St} {H : Hp} (S : StW c (gd' ++ gd) W G env σ H) : StW c gd W G env σ H ∧ ∀ q ∈ gd', Dv c.K W G H q.1 q.2 :=
  ⟨{ S with gh := fun q hq => S.gh q (List.mem_append_right _ hq) }, fun q hq => S.gh q (List.mem_append_left _ hq)⟩
theorem ErrOk.ghost {c : Cp} {er : List Sl → Er → Prop} {gd gd' : List (V × D)} (k : ErrOk c er gd) : ErrOk c er (gd' ++ gd) := fun env e W G σ H d he S hd => k env e W G σ H d he S.unghost.1 hd
section
variable {X : Cx} {gd : List (V × D)} {W G : Addr → Bool} {env : List Sl} {σ : L2.St} {H : Hp} {n m i j : Nat} {v : V} {d x : D} {ds xs : List D} {N Bk Ct : List Sl → Prop} {R : Bool → D → Prop} {Z : Ends} {g : TG} {gs : TGs} {te ta tb ti to : TE} {tr : TA} {tt : TT} {ts tu : TS} {p : Addr} {P : Prop}
/-! ### targets -/
theorem gx_name (h : N (env.set n (.d x))) : GX X env (gName n) x N := fun gd W G σ H v Q S er dv q => q _ W G _ H h (S.setD dv)
theorem gx_tup (l : ds.length = n) (h : GXs X env gs ds N) : GX X env (gTup X.c.K n gs) (.tup ds) N := fun gd W G σ H v Q S er dv q => by
  cases dv with
  | tup e a => exact ⟨_, _, rfl, L2.SqT.of (wo_some.mp e).2, by rw [a.len]; exact l, h gd W G σ H _ Q S er a q⟩
theorem gx_unl (l : ds.length = n) (h : GXs X env gs ds N) : GX X env (gUnl X.c.K n gs) (.lst ds) N := fun gd W G σ H v Q S er dv q => by
  cases dv with
  | lst e a => exact ⟨_, _, rfl, L2.SqL.of (wo_some.mp e).2, by rw [a.len]; exact l, h gd W G σ H _ Q S er a q⟩
theorem gx_nil (h : N env) : GXs X env gNil [] N := fun gd W G σ H v Q S er dv q => by
  cases dv
  exact ⟨rfl, q env W G σ H h S⟩
theorem gx_cons (h : GX X env g x fun e => GXs X e gs xs N) : GXs X env (gCons g gs) (x :: xs) N := fun gd W G σ H vs Q S er dv q => by
  cases dv with
  | cons a r =>
    refine ⟨_, _, rfl, ?_⟩
    rename_i ws
    refine h (ws.zip xs ++ gd) W G σ H _ _ (S.ghost (zip_in r)) er.ghost a fun e' W' G' σ' H' hn S' => ?_
    obtain ⟨S2, k2⟩ := S'.unghost
    exact hn gd W' G' σ' H' _ Q S2 er (zip_out r k2) q
theorem atD_set {K : PySem.W.Frag} {W G : Addr → Bool} {H : Hp} {vs : List V} {ds : List D} {i : Int} {k : Nat} (a : DvA K W G H vs ds) (h : (0 ≤ i ∧ i = k ∧ k < ds.length) ∨ (i < 0 ∧ i + ds.length = k ∧ k < ds.length)) : ixN vs.length i = some k := by rw [a.len]; exact ixN_of h
/-- o[i] = x, o owned -/
theorem gx_sub {k : Int → Nat} (e : env[n]? = some (.own p (.l ds))) (h : EV X env ti fun d => ∃ i : Int, d = .int i ∧ ((0 ≤ i ∧ i = k i ∧ k i < ds.length) ∨ (i < 0 ∧ i + ds.length = k i ∧ k i < ds.length)) ∧ N (env.set n (.own p (.l (ds.set (k i) x))))) : GX X env (gSub (tVar n) ti rSetL) x N := fun gd W G σ H v Q S er dv q => by
  refine ⟨_, S.sl n _ e, ?_⟩
  refine h gd W G σ H _ S er fun W1 G1 u H1 d hd e1 d1 => ?_
  obtain ⟨i, rfl, hk, hN⟩ := hd
  cases d1
  have S1 := S.step e1
  obtain ⟨vs, o1, o2⟩ := (S1.ow n p _ e).at_
  refine ⟨p, vs, i, k i, rfl, rfl, o1, atD_set o2 hk, q _ W1 G1 σ _ hN (S1.mut e (fun a o n h => by rw [upd_ne n]; exact h) ⟨_, upd_same, ?_⟩)⟩
  have e3 : ∀ a o, wo W1 H1 a = some o → NT o → wo W1 (upd H1 p (.lst (vs.set (k i) v))) a = some o := fun a o h _ => by
    obtain ⟨h1, h2⟩ := wo_some.mp h
    exact wo_some.mpr ⟨h1, by rw [upd_ne (ne_w (S1.ow n p _ e).w h1)]; exact h2⟩
  have pu : ∀ a, G1 a = true → Pur H1 a → G1 a = true ∧ Pur (upd H1 p (.lst (vs.set (k i) v))) a := fun a g h => ⟨g, pur_upd h (ne_g g ((S1.ow n p _ e).g))⟩
  exact (o2.tr e3 pu).set ((dv.es S.t e1).tr e3 pu) _
/-! ### statements -/
theorem LiftE.with {N' : List Sl → Prop} {nx : L2.St → Hp → Prop} (L : LiftE X gd N R Bk Ct Z) (h : ∀ env W G σ H, N' env → StW X.c gd W G env σ H → nx σ H) : LiftE X gd N' R Bk Ct ⟨nx, Z.rt, Z.bk, Z.ct⟩ := ⟨h, L.rt, L.bk, L.ct, L.er⟩
theorem sx_seq (h : SX X env ts (fun e => SX X e tu N R Bk Ct) R Bk Ct) : SX X env (tSeq ts tu) N R Bk Ct := fun gd W G σ H Z S L => h gd W G σ H _ S (L.with fun e W G σ H hu S => hu gd W G σ H Z S L)
theorem sx_next (h : N env) : SX X env tNext N R Bk Ct := fun gd W G σ H Z S L => L.nx env W G σ H h S
theorem sx_brk (h : Bk env) : SX X env tBreak N R Bk Ct := fun gd W G σ H Z S L => L.bk env W G σ H h S
theorem sx_cont (h : Ct env) : SX X env tCont N R Bk Ct := fun gd W G σ H Z S L => L.ct env W G σ H h S
theorem sx_drop (h : EV X env te fun _ => N env) : SX X env (tDrop te) N R Bk Ct := fun gd W G σ H Z S L => h gd W G σ H _ S L.er fun W1 G1 v H1 d hn e1 d1 => L.nx env W1 G1 σ H1 hn (S.step e1)
theorem sx_asg (h : EV X env te fun d => GX X env g d N) : SX X env (tAsg te g) N R Bk Ct := fun gd W G σ H Z S L =>
  h gd W G σ H _ S L.er fun W1 G1 v H1 d hg e1 d1 => hg gd W1 G1 σ H1 v _ (S.step e1) L.er d1 fun e' W' G' σ' H' hn S' => L.nx e' W' G' σ' H' hn S'
theorem sx_set (h : EV X env te fun d => N (env.set n (.d d))) : SX X env (tAsg te (gName n)) N R Bk Ct := fun gd W G σ H Z S L =>
  h gd W G σ H _ S L.er fun W1 G1 v H1 d hn e1 d1 => L.nx _ W1 G1 _ H1 hn ((S.step e1).setD d1)
/-- a new list, owned -/
theorem sx_own (h : EF X env te fun ds => ∀ p, N (env.set n (.own p (.l ds)))) : SX X env (tAsg te (gName n)) N R Bk Ct := fun gd W G σ H Z S L =>
  h gd W G σ H _ S L.er fun W1 G1 v H1 ds hn e1 f => by
    obtain ⟨p, W2, rfl, S2⟩ := S.ownF (n := n) e1 f
    exact L.nx _ W2 G1 _ H1 (hn p) S2
theorem ret_le (S : StW X.c gd W G env σ H) : ∀ a, wg X.c.W0 G a = true → W a = true := fun a h => (wg_t.mp h).elim (S.w0 a) (S.t.gw a)
theorem sx_ret (h : EV X env te (R false)) : SX X env (tRet te) N R Bk Ct := fun gd W G σ H Z S L => h gd W G σ H _ S L.er fun W1 G1 v H1 d hr e1 d1 =>
  L.rt false d _ G1 v H1 hr (S.step e1).es (d1.less (ret_le (S.step e1))) fun z => by cases z
theorem sx_retN (h : R false .non) : SX X env tRetN N R Bk Ct := fun gd W G σ H Z S L => L.rt false .non _ G .non H h S.es .non fun z => by cases z
theorem sx_retF (h : EF X env te fun ds => R true (.lst ds)) : SX X env (tRet te) N R Bk Ct := fun gd W G σ H Z S L => h gd W G σ H _ S L.er fun W1 G1 v H1 ds hr e1 f => by
  have S1 := S.step e1
  refine L.rt true _ _ G1 v H1 hr S1.es (f.dv.less (ret_le S1)) fun _ => ?_
  obtain ⟨p, vs, ds', rfl, e', h1, h2, h3, h4⟩ := f
  cases e'
  exact ⟨p, vs, ds, rfl, rfl, S.es.fr p h1, bf fun z => tf (ret_le S1 p z) h2, h3, h4.less fun a h => (hd_t.mp h).elim (fun q => hd_le a (ret_le S1 a q)) fun q => hd_t.mpr (.inr q)⟩
/-- what is owned is returned -/
theorem sx_retO (e : env[n]? = some (.own p (.l ds))) (h : R true (.lst ds)) : SX X env (tRet (tVar n)) N R Bk Ct := fun gd W G σ H Z S L => by
  have ow := S.ow n p _ e
  obtain ⟨vs, o1, o2⟩ := ow.at_
  have nw : wg X.c.W0 G p = false := bf fun z => (wg_t.mp z).elim (fun q => S.b0.wd p q ow.b) fun q => tf q ow.g
  have f : Fr X.c.K (wg X.c.W0 G) G X.c.B H (.ref p) (.lst ds) := ⟨p, vs, ds, rfl, rfl, ow.b, nw, o1, o2.less fun a h => (hd_t.mp h).elim (ret_le S a) fun q => q ▸ ow.w⟩
  exact ⟨_, S.sl n _ e, L.rt true _ _ G _ H h S.es f.dv fun _ => f⟩
theorem sx_if (h : TV X (env.map frz) tt fun b => if b = true then SX X env ts N R Bk Ct else SX X env tu N R Bk Ct) : SX X env (tIfS tt ts tu) N R Bk Ct := fun gd W G σ H Z S L =>
  tv_frz h gd W G σ H _ S L.er fun W1 G1 b H1 hb e1 => by
    cases b with
    | true => exact (ifT hb : SX X env ts N R Bk Ct) gd W1 G1 σ H1 Z (S.step e1) L
    | false => exact (ifF hb : SX X env tu N R Bk Ct) gd W1 G1 σ H1 Z (S.step e1) L
/-- what is owned becomes data: never changed again -/
theorem sx_frz (f : Nat → Bool) (h : SX X (env.mapIdx fun i s => if f i = true then frz s else s) ts N R Bk Ct) : SX X env ts N R Bk Ct := fun gd W G σ H Z S L => by
  obtain ⟨W', _, S'⟩ := S.frz_at f
  exact h gd W' G σ H Z S' L
theorem sx_forget (h : SX X (env.set n .no) ts N R Bk Ct) : SX X env ts N R Bk Ct := fun gd W G σ H Z S L => by
  have S' := S.setN (n := n) (σ[n]?.getD none)
  have e : σ.set n (σ[n]?.getD none) = σ := by
    apply List.ext_getElem?
    intro i
    by_cases hi : n = i
    · subst hi
      by_cases hl : n < σ.length
      · rw [List.getElem?_set_self hl, List.getElem?_eq_getElem hl]; rfl
      · rw [List.getElem?_eq_none (by simpa using hl), List.getElem?_eq_none (by omega)]
    · rw [List.getElem?_set_ne hi]
  rw [e] at S'
  exact h gd W G σ H Z S' L
theorem sx_imp {N' Bk' Ct' : List Sl → Prop} {R' : Bool → D → Prop} (h : SX X env ts N R Bk Ct) (hn : ∀ e, N e → N' e) (hr : ∀ b d, R b d → R' b d) (hb : ∀ e, Bk e → Bk' e) (hc : ∀ e, Ct e → Ct' e) : SX X env ts N' R' Bk' Ct' := fun gd W G σ H Z S L =>
  h gd W G σ H Z S ⟨fun e W G σ H k => L.nx e W G σ H (hn e k), fun b d W' G' v H k => L.rt b d W' G' v H (hr b d k), fun e W G σ H k => L.bk e W G σ H (hb e k), fun e W G σ H k => L.ct e W G σ H (hc e k), L.er⟩
/-- o.append(e), o owned -/
theorem sx_app (e : env[n]? = some (.own p (.l ds))) (h : EV X env te fun d => ds.length < 16000000 ∧ N (env.set n (.own p (.l (ds ++ [d]))))) : SX X env (tDrop (tBM X.c.K "list" rAppend (tVar n) (tCons te tNil))) N R Bk Ct := fun gd W G σ H Z S L => by
  obtain ⟨vs0, q1, _⟩ := (S.ow n p _ e).at_
  refine ⟨_, S.sl n _ e, .inl ⟨rfl, _, L2.SqL.of q1⟩, ?_⟩
  refine h gd W G σ H _ S L.er fun W1 G1 v H1 d ⟨hl, hn⟩ e1 d1 => ?_
  have S1 := S.step e1
  have ow := S1.ow n p _ e
  obtain ⟨vs, o1, o2⟩ := ow.at_
  refine ⟨p, vs, v, rfl, rfl, o1, by rw [o2.len, PySem.sizeLine_eq]; omega, L.nx _ W1 G1 σ _ hn (S1.mut e (fun a o n h => by rw [upd_ne n]; exact h) ⟨_, upd_same, ?_⟩)⟩
  have e3 : ∀ a o, wo W1 H1 a = some o → NT o → wo W1 (upd H1 p (.lst (vs ++ [v]))) a = some o := fun a o h _ => by
    obtain ⟨h1, h2⟩ := wo_some.mp h
    exact wo_some.mpr ⟨h1, by rw [upd_ne (ne_w ow.w h1)]; exact h2⟩
  have pu : ∀ a, G1 a = true → Pur H1 a → G1 a = true ∧ Pur (upd H1 p (.lst (vs ++ [v]))) a := fun a g h => ⟨g, pur_upd h (ne_g g (ow.g))⟩
  exact (o2.tr e3 pu).app (.cons (d1.tr e3 pu) .nil)
/-- self.f = e -/
theorem sx_fld {f : Str} {C : Addr} {fs : List (Str × D)} {ff : List Str} {mg : Str → Option Value} {x : Str} (e : env[n]? = some (.own p (.o C fs))) (o : OC X.c.K mg x C ff) (hf : f ∈ ff) (hl : fs.length < 900) (h : EV X env te fun d => N (env.set n (.own p (.o C (putD f d fs))))) : SX X env (sFld X.c.K (tVar n) te f) N R Bk Ct := fun gd W G σ H Z S L => by
  refine h gd W G σ H _ S L.er fun W1 G1 v H1 d hn e1 d1 => ?_
  have S1 := S.step e1
  have ow := S1.ow n p _ e
  obtain ⟨dx, vs, o1, o2⟩ := ow.at_
  refine ⟨_, S1.sl n _ e, p, C, dx, vs, rfl, o1, o.cl, o.na f hf, by rw [o2.len]; omega, L.nx _ W1 G1 σ _ hn (S1.mut e (fun a o n h => by rw [upd_ne n]; exact h) ⟨dx, _, upd_same, ?_⟩)⟩
  have e3 : ∀ a o, wo W1 H1 a = some o → NT o → wo W1 (upd H1 p (.ins C dx (putF f v vs))) a = some o := fun a o h _ => by
    obtain ⟨h1, h2⟩ := wo_some.mp h
    exact wo_some.mpr ⟨h1, by rw [upd_ne (ne_w ow.w h1)]; exact h2⟩
  have pu : ∀ a, G1 a = true → Pur H1 a → G1 a = true ∧ Pur (upd H1 p (.ins C dx (putF f v vs))) a := fun a g h => ⟨g, pur_upd h (ne_g g (ow.g))⟩
  have key : ∀ {vs : List (Str × V)} {fs : List (Str × D)}, DvF X.c.K W1 G1 (upd H1 p (.ins C dx (putF f v vs))) vs fs → True := fun _ => trivial
  have put : ∀ {H2 : Hp} {us : List (Str × V)} {es : List (Str × D)}, DvF X.c.K W1 G1 H2 us es → Dv X.c.K W1 G1 H2 v d → DvF X.c.K W1 G1 H2 (putF f v us) (putD f d es) := by
    intro H2 us es a b
    induction us generalizing es with
    | nil => cases a; exact .cons b .nil
    | cons u us ih =>
      cases a with
      | cons a r =>
        unfold putF putD
        split
        · exact .cons b r
        · exact .cons a (ih r)
  exact put (o2.tr e3 pu) (d1.tr e3 pu)
theorem sx_augI {f : Int → Int → Int} {k l : Int} (e : env[n]? = some (.d (.int k))) (h : EV X env te fun d => ∃ l, d = .int l ∧ N (env.set n (.d (.int (f k l))))) : SX X env (tAug n te (ipI f)) N R Bk Ct := fun gd W G σ H Z S L => by
  obtain ⟨v, h1, h2⟩ := S.at e
  cases h2
  refine ⟨_, h1, ?_⟩
  refine h gd W G σ H _ S L.er fun W1 G1 v H1 d ⟨l, hd, hn⟩ e1 d1 => ?_
  subst hd
  cases d1
  exact ⟨k, l, rfl, rfl, L.nx _ W1 G1 _ H1 hn ((S.step e1).setD (.int _))⟩
theorem sx_par (h : EA X env tr fun ds => ∃ a b, ds = [a, b] ∧ N ((env.set i (.d a)).set j (.d b))) : SX X env (tPar i j tr) N R Bk Ct := fun gd W G σ H Z S L =>
  h gd W G σ H _ S L.er fun W1 G1 vs H1 ds ⟨a, b, e, hn⟩ e1 d1 => by
    subst e
    obtain ⟨v, w, rfl, x, y⟩ := dva2 d1
    exact ⟨v, w, rfl, L.nx _ W1 G1 _ H1 hn (((S.step e1).setD x).setD y)⟩
/-- raise C(e) -/
def immV : D → Option V
  | .int i => some (.int i) | .str s => some (.str s) | _ => none
theorem Dv.immV {K : PySem.W.Frag} {v w : V} (h : Dv K W G H v d) (e : Pu.immV d = some w) : v = w := by
  cases h <;> cases e <;> rfl
theorem sx_raise {C : Addr} {f : Str} {E : XK} (hE : ∀ σ, X.c.E σ = E) (h : EV X env te fun d => ∃ v, immV d = some v ∧ tellV v ∧ X.er env ⟨C, [(f, v)]⟩) : SX X env (tRaiseE C f (fun cls d _ H => E cls d H) te) N R Bk Ct := fun gd W G σ H Z S L =>
  h gd W G σ H _ S L.er fun W1 G1 v H1 d ⟨w, hw, ht, he⟩ e1 d1 => by
    cases d1.immV hw
    refine ⟨ht, fun dd H2 e2 hd => ?_⟩
    show E (.ref C) (some dd) H2
    rw [← hE σ]
    exact L.er env ⟨C, [(f, v)]⟩ W1 G1 σ H2 dd he ((S.step e1).step (.ofEx e1.t e2)) hd
theorem sx_raise2 {C : Addr} {f1 f2 : Str} {E : XK} (hE : ∀ σ, X.c.E σ = E) (h : EV X env ta fun d1 => EV X env tb fun d2 => ∃ v1 v2, immV d1 = some v1 ∧ immV d2 = some v2 ∧ tellR v1 ∧ tellV v2 ∧ X.er env ⟨C, [(f2, v2), (f1, v1)]⟩) : SX X env (tRaiseE2 C f1 f2 (fun cls d _ H => E cls d H) ta tb) N R Bk Ct := fun gd W G σ H Z S L =>
  h gd W G σ H _ S L.er fun W1 G1 v H1 d k e1 d1 => k gd W1 G1 σ H1 _ (S.step e1) L.er fun W2 G2 u H2 d' ⟨w1, w2, hw1, hw2, ht, ht2, he⟩ e2 d2 => by
    cases d1.immV hw1
    cases d2.immV hw2
    refine ⟨ht, ht2, fun dd H3 e3 hd => ?_⟩
    show E (.ref C) (some dd) H3
    rw [← hE σ]
    exact L.er env ⟨C, [(f2, u), (f1, v)]⟩ W2 G2 σ H3 dd he (((S.step e1).step e2).step (.ofEx e2.t e3)) hd
end
/-! ### what is walked -/
/-- the iterator J gives the data xs, as long as gd' holds -/
def Walks (c : Cp) (J : It) (xs : List D) (gd' : List (V × D)) : Prop := ∀ W G H, WG W G H → LamX.Tabs c.T H → (∀ q ∈ gd', Dv c.K W G H q.1 q.2) →
  (∀ i x, xs[i]? = some x → J.go i H ∧ ∀ v H', J.yld i H v H' → ES c.T W G H W G H' ∧ Dv c.K W G H' v x) ∧ ∀ i, xs.length ≤ i → J.stop i H
def IT (X : Cx) (env : List Sl) (wi : TI) (P : List D → Prop) : Prop := ∀ gd W G σ H (R : It → Hp → Prop), StW X.c gd W G env σ H → ErrOk X.c X.er gd →
  (∀ W' G' H' J xs gd', P xs → ES X.c.T W G H W' G' H' → Walks X.c J xs gd' → (∀ q ∈ gd', Dv X.c.K W' G' H' q.1 q.2) → R J H') → wi σ H R
theorem sqL_inj {K : PySem.W.Frag} {H : Hp} {a : Addr} {xs ys : List V} (h : H a = some (.lst xs)) (k : ∀ zs, SqL K H a zs → ∀ (i : Nat), zs[i]? = ys[i]?) : ∀ i : Nat, xs[i]? = ys[i]? := k xs (L2.SqL.of h)
section
variable {X : Cx} {gd : List (V × D)} {W G : Addr → Bool} {env : List Sl} {σ : L2.St} {H : Hp} {n m i j : Nat} {v : V} {d x : D} {ds xs : List D} {N Bk Ct : List Sl → Prop} {R : Bool → D → Prop} {Z : Ends} {g : TG} {te ta tb : TE} {tr : TA} {tt : TT} {ts tu : TS} {p : Addr} {P : D → Prop} {Pl : List D → Prop} {wi : TI}
theorem it_list (h : EV X env te fun d => ∃ ds, d = .lst ds ∧ Pl ds) : IT X env (iList X.c.K te) Pl := fun gd W G σ H R S er q =>
  h gd W G σ H _ S er fun W1 G1 v H1 d ⟨ds, e, hp⟩ e1 d1 => by
    subst e
    cases id d1 with
    | lst e a =>
      refine ⟨_, rfl, ⟨_, L2.SqL.of (wo_some.mp e).2⟩, q W1 G1 H1 _ ds [(_, .lst ds)] hp e1 (fun W G H w tb hg => ?_) fun q hq => by rw [List.mem_singleton.mp hq]; exact d1⟩
      have k := hg _ List.mem_cons_self
      cases k with
      | lst e a =>
        have e' := (wo_some.mp e).2
        refine ⟨fun i x hx => ?_, fun i hi => ⟨_, L2.SqL.of e', by rw [a.len]; exact hi⟩⟩
        obtain ⟨v, h1, h2⟩ := a.at hx
        refine ⟨⟨_, v, L2.SqL.of e', h1⟩, fun u H' y => ?_⟩
        obtain ⟨rfl, y⟩ := y
        have y := y _ (L2.SqL.of e')
        rw [h1] at y
        cases y
        exact ⟨.refl w, h2⟩
theorem it_tup (h : EV X env te fun d => ∃ ds, d = .tup ds ∧ Pl ds) : IT X env (iTup X.c.K te) Pl := fun gd W G σ H R S er q =>
  h gd W G σ H _ S er fun W1 G1 v H1 d ⟨ds, e, hp⟩ e1 d1 => by
    subst e
    cases id d1 with
    | tup e a =>
      refine ⟨_, rfl, ⟨_, L2.SqT.of (wo_some.mp e).2⟩, q W1 G1 H1 _ ds [(_, .tup ds)] hp e1 (fun W G H w tb hg => ?_) fun q hq => by rw [List.mem_singleton.mp hq]; exact d1⟩
      have k := hg _ List.mem_cons_self
      cases k with
      | tup e a =>
        have e' := (wo_some.mp e).2
        refine ⟨fun i x hx => ?_, fun i hi => ⟨_, L2.SqT.of e', by rw [a.len]; exact hi⟩⟩
        obtain ⟨v, h1, h2⟩ := a.at hx
        refine ⟨⟨_, v, L2.SqT.of e', h1⟩, fun u H' y => ?_⟩
        obtain ⟨rfl, y⟩ := y
        have y := y _ (L2.SqT.of e')
        rw [h1] at y
        cases y
        exact ⟨.refl w, h2⟩
theorem it_or1 {w2 : TI} (h : IT X env wi Pl) : IT X env (iOr wi w2) Pl := fun gd W G σ H R S er q => .inl (h gd W G σ H R S er q)
theorem it_or2 {w2 : TI} (h : IT X env wi Pl) : IT X env (iOr w2 wi) Pl := fun gd W G σ H R S er q => .inr (h gd W G σ H R S er q)
/-- lo, .., hi - 1 -/
def rgD (lo hi : Int) : List D := (List.range (hi - lo).toNat).map fun i : Nat => .int (lo + i)
theorem walks_range {c : Cp} {lo : Int} {n : Nat} : Walks c (Itr lo n) ((List.range n).map fun i : Nat => .int (lo + i)) [] := fun W G H w tb hg => by
  refine ⟨fun i x hx => ?_, fun i hi => by rw [List.length_map, List.length_range] at hi; exact hi⟩
  rw [List.getElem?_map] at hx
  by_cases hi : i < n
  · rw [List.getElem?_range hi] at hx
    cases hx
    refine ⟨hi, fun v H' y => ?_⟩
    obtain ⟨rfl, rfl⟩ := y
    exact ⟨.refl w, .int _⟩
  · rw [List.getElem?_eq_none (by simpa using hi)] at hx
    cases hx
theorem it_rng1 (h : EA X env tr fun ds => ∃ j : Int, ds = [.int j] ∧ -1000000000 ≤ j ∧ j ≤ 1000000000 ∧ Pl (rgD 0 j)) : IT X env (iRng1 tr) Pl := fun gd W G σ H R S er q =>
  h gd W G σ H _ S er fun W1 G1 vs H1 ds ⟨j, e, h1, h2, hp⟩ e1 d0 => by
    subst e
    obtain ⟨v, rfl, d1⟩ := dva1 d0
    cases d1
    refine ⟨j, rfl, by omega, by omega, q W1 G1 H1 _ (rgD 0 j) [] hp e1 ?_ fun q hq => (List.not_mem_nil hq).elim⟩
    unfold rgD
    rw [Int.sub_zero]
    exact walks_range
theorem it_rng2 (h : EA X env tr fun ds => ∃ i j : Int, ds = [.int i, .int j] ∧ (-1000000000 ≤ i ∧ i ≤ 1000000000) ∧ (-1000000000 ≤ j ∧ j ≤ 1000000000) ∧ Pl (rgD i j)) : IT X env (iRng2 tr) Pl := fun gd W G σ H R S er q =>
  h gd W G σ H _ S er fun W1 G1 vs H1 ds ⟨i, j, e, h1, h2, hp⟩ e1 d0 => by
    subst e
    obtain ⟨v, w, rfl, d1, d2⟩ := dva2 d0
    cases d1; cases d2
    exact ⟨i, j, rfl, ⟨by omega, by omega, by omega, by omega⟩, q W1 G1 H1 _ (rgD i j) [] hp e1 walks_range fun q hq => (List.not_mem_nil hq).elim⟩
/-- (0, x0), (1, x1), .. -/
def enD (ds : List D) : List D := ds.mapIdx fun i x => .tup [.int (i : Nat), x]
theorem new_tup {K : PySem.W.Frag} {T : List (Addr × Str)} {T0 : Addr} {vs : List V} {ds : List D} (w : WG W G H) (hT : H T0 = none) (h : DvA K W G H vs ds) : ES T W G H W G (upd H T0 (.tup vs)) ∧ Dv K W G (upd H T0 (.tup vs)) (.ref T0) (.tup ds) :=
  ⟨.ofEx w (Ex.new hT), .tup (wo_some.mpr ⟨bf fun z => w.wd T0 z (nn_of hT), upd_same⟩) (h.es w (ES.ofEx (T := T) w (Ex.new hT)))⟩
theorem it_enum (h : EA X env tr fun ds => ∃ xs, ds = [.lst xs] ∧ Pl (enD xs)) : IT X env (iEnum X.c.K tr) Pl := fun gd W G σ H R S er q =>
  h gd W G σ H _ S er fun W1 G1 vs H1 ds ⟨xs, e, hp⟩ e1 d0 => by
    subst e
    obtain ⟨v, rfl, d1⟩ := dva1 d0
    cases id d1 with
    | lst e a =>
      refine ⟨_, _, rfl, L2.SqL.of (wo_some.mp e).2, q W1 G1 H1 _ (enD xs) [(_, .lst xs)] hp e1 (fun W G H w tb hg => ?_) fun q hq => by rw [List.mem_singleton.mp hq]; exact d1⟩
      have k := hg _ List.mem_cons_self
      cases k with
      | lst e a =>
        have e' := (wo_some.mp e).2
        refine ⟨fun i x hx => ?_, fun i hi => ⟨_, L2.SqL.of e', by rw [a.len]; unfold enD at hi; rw [List.length_mapIdx] at hi; exact hi⟩⟩
        unfold enD at hx
        rw [List.getElem?_mapIdx] at hx
        cases hz : xs[i]? with
        | none => rw [hz] at hx; cases hx
        | some z =>
          rw [hz] at hx
          cases hx
          obtain ⟨v, h1, h2⟩ := a.at hz
          refine ⟨⟨_, v, L2.SqL.of e', h1⟩, fun u H' y => ?_⟩
          obtain ⟨T0, u', rfl, hT, rfl, y⟩ := y
          have y := y _ (L2.SqL.of e')
          rw [h1] at y
          cases y
          exact new_tup w hT (.cons (.int _) (.cons h2 .nil))
theorem it_enumT (h : EA X env tr fun ds => ∃ xs, ds = [.tup xs] ∧ Pl (enD xs)) : IT X env (iEnumT X.c.K tr) Pl := fun gd W G σ H R S er q =>
  h gd W G σ H _ S er fun W1 G1 vs H1 ds ⟨xs, e, hp⟩ e1 d0 => by
    subst e
    obtain ⟨v, rfl, d1⟩ := dva1 d0
    cases id d1 with
    | tup e a =>
      refine ⟨_, _, rfl, L2.SqT.of (wo_some.mp e).2, q W1 G1 H1 _ (enD xs) [(_, .tup xs)] hp e1 (fun W G H w tb hg => ?_) fun q hq => by rw [List.mem_singleton.mp hq]; exact d1⟩
      have k := hg _ List.mem_cons_self
      cases k with
      | tup e2 a2 =>
        have e' := (wo_some.mp e2).2
        refine ⟨fun i x hx => ?_, fun i hi => ⟨by rw [a.len]; unfold enD at hi; rw [List.length_mapIdx] at hi; exact hi, _, L2.SqT.of e', by rw [a2.len, a.len]⟩⟩
        unfold enD at hx
        rw [List.getElem?_mapIdx] at hx
        cases hz : xs[i]? with
        | none => rw [hz] at hx; cases hx
        | some z =>
          rw [hz] at hx
          cases hx
          obtain ⟨v, h1, h2⟩ := a2.at hz
          refine ⟨⟨by rw [a.len]; exact (List.getElem?_eq_some_iff.mp hz).1, _, L2.SqT.of e', by rw [a2.len, a.len]⟩, fun u H' y => ?_⟩
          obtain ⟨T0, u', rfl, hT, rfl, y⟩ := y
          have y := y _ (L2.SqT.of e')
          rw [h1] at y
          cases y
          exact new_tup w hT (.cons (.int _) (.cons h2 .nil))
theorem it_rev (h : EA X env tr fun ds => ∃ xs, ds = [.lst xs] ∧ Pl xs.reverse) : IT X env (iRev X.c.K tr) Pl := fun gd W G σ H R S er q =>
  h gd W G σ H _ S er fun W1 G1 vs H1 ds ⟨xs, e, hp⟩ e1 d0 => by
    subst e
    obtain ⟨v, rfl, d1⟩ := dva1 d0
    cases id d1 with
    | lst e a =>
      refine ⟨_, _, rfl, L2.SqL.of (wo_some.mp e).2, q W1 G1 H1 _ xs.reverse [(_, .lst xs)] hp e1 (fun W G H w tb hg => ?_) fun q hq => by rw [List.mem_singleton.mp hq]; exact d1⟩
      have k := hg _ List.mem_cons_self
      cases k with
      | lst e2 a2 =>
        have e' := (wo_some.mp e2).2
        refine ⟨fun i x hx => ?_, fun i hi => by rw [List.length_reverse] at hi; rw [a.len]; exact hi⟩
        have hi : i < xs.length := by
          have := (List.getElem?_eq_some_iff.mp hx).1
          rw [List.length_reverse] at this
          exact this
        rw [List.getElem?_reverse hi] at hx
        obtain ⟨v, h1, h2⟩ := a2.at hx
        rw [← a.len] at h1 hi
        refine ⟨⟨hi, _, v, L2.SqL.of e', h1⟩, fun u H' y => ?_⟩
        obtain ⟨rfl, y⟩ := y
        have y := y _ (L2.SqL.of e')
        rw [h1] at y
        cases y
        exact ⟨.refl w, h2⟩
theorem it_zip (h : EA X env tr fun ds => ∃ xs ys, ds = [.lst xs, .lst ys] ∧ Pl (List.zipWith (fun x y => .tup [x, y]) xs ys)) : IT X env (iZip X.c.K tr) Pl := fun gd W G σ H R S er q =>
  h gd W G σ H _ S er fun W1 G1 vs H1 ds ⟨xs, ys, e, hp⟩ e1 d0 => by
    subst e
    obtain ⟨v, w, rfl, d1, d2⟩ := dva2 d0
    cases id d1 with
    | @lst pa va _ ea a =>
      cases id d2 with
      | @lst pb vb _ eb b =>
        refine ⟨_, _, _, _, rfl, L2.SqL.of (wo_some.mp ea).2, L2.SqL.of (wo_some.mp eb).2, q W1 G1 H1 _ (List.zipWith (fun x y => .tup [x, y]) xs ys) [(V.ref pa, D.lst xs), (V.ref pb, D.lst ys)] hp e1 (fun W G H w tb hg => ?_) fun q hq => ?_⟩
        · have k := hg _ List.mem_cons_self
          have k' := hg _ (List.mem_cons_of_mem _ List.mem_cons_self)
          cases k with
          | lst e2 a2 =>
            cases k' with
            | lst e3 a3 =>
              have e2' := (wo_some.mp e2).2
              have e3' := (wo_some.mp e3).2
              refine ⟨fun i x hx => ?_, fun i hi => ⟨_, _, L2.SqL.of e2', L2.SqL.of e3', by rw [List.length_zipWith] at hi; rw [a2.len, a3.len]; omega⟩⟩
              rw [List.getElem?_zipWith] at hx
              cases hz : xs[i]? with
              | none => rw [hz] at hx; cases hx
              | some z =>
                cases hy : ys[i]? with
                | none => rw [hz, hy] at hx; cases hx
                | some y =>
                  rw [hz, hy] at hx
                  cases hx
                  obtain ⟨v, h1, h2⟩ := a2.at hz
                  obtain ⟨w', g1, g2⟩ := a3.at hy
                  refine ⟨⟨_, _, v, w', L2.SqL.of e2', L2.SqL.of e3', h1, g1⟩, fun u H' y => ?_⟩
                  obtain ⟨T0, u1, u2, rfl, hT, rfl, y1, y2⟩ := y
                  have y1 := y1 _ (L2.SqL.of e2')
                  have y2 := y2 _ (L2.SqL.of e3')
                  rw [h1] at y1
                  rw [g1] at y2
                  cases y1; cases y2
                  exact new_tup w hT (.cons h2 (.cons g2 .nil))
        · rcases List.mem_cons.mp hq with rfl | hq
          · exact d1
          · rw [List.mem_singleton.mp hq]; exact d2
/-! ### loops -/
theorem sx_for (h : IT X env wi fun xs => ∃ I : Nat → List Sl → Prop, I 0 env ∧ (∀ i x e, xs[i]? = some x → I i e → GX X e g x fun e' => SX X e' ts (I (i + 1)) R N (I (i + 1))) ∧ ∀ e, I xs.length e → N e) : SX X env (tFor wi g ts) N R Bk Ct := fun gd W G σ H Z S L =>
  h gd W G σ H _ S L.er fun W1 G1 H1 J xs gd' ⟨I, h0, hs, hn⟩ e1 wk hg => by
    refine ⟨fun i m σ H => m = xs.length - i ∧ i ≤ xs.length ∧ ∃ e W G, I i e ∧ StW X.c (gd' ++ gd) W G e σ H, ⟨xs.length, by simp, Nat.zero_le _, env, W1, G1, h0, (S.step e1).ghost hg⟩, ?_⟩
    rintro i m σ H ⟨rfl, hi, e, W, G, hI, S1⟩
    obtain ⟨S2, k2⟩ := S1.unghost
    obtain ⟨w1, w2⟩ := wk W G H S2.t S2.tb k2
    by_cases hlt : i < xs.length
    · have hx : xs[i]? = some xs[i] := List.getElem?_eq_getElem hlt
      obtain ⟨go, yl⟩ := w1 i _ hx
      refine .inr ⟨go, fun σ' H' => ∃ e W G, I (i + 1) e ∧ StW X.c (gd' ++ gd) W G e σ' H', fun σ' H' ⟨e, W, G, hI, S⟩ => ⟨xs.length - (i + 1), by omega, rfl, hlt, e, W, G, hI, S⟩, fun v H' y => ?_⟩
      obtain ⟨e2, dv⟩ := yl v H' y
      refine hs i _ e hx hI (gd' ++ gd) W G σ H' v _ (S1.step e2) L.er.ghost dv fun e' W' G' σ' H'' hb S' => ?_
      refine hb (gd' ++ gd) W' G' σ' H'' _ S' ⟨fun e W G σ H hI S => ⟨e, W, G, hI, S⟩, L.rt, fun e W G σ H k S => L.nx e W G σ H k S.unghost.1, fun e W G σ H hI S => ⟨e, W, G, hI, S⟩, L.er.ghost⟩
    · have ei : i = xs.length := by omega
      subst ei
      exact .inl ⟨w2 _ (Nat.le_refl _), L.nx e W G σ H (hn e hI) S2⟩
theorem sx_while (I : Nat → List Sl → Prop) (m0 : Nat) (h0 : I m0 env) (hs : ∀ m e, I m e → TV X (e.map frz) tt fun b => if b = true then SX X e ts (fun e' => ∃ m', m' < m ∧ I m' e') R N (fun e' => ∃ m', m' < m ∧ I m' e') else N e) : SX X env (tWhile tt ts) N R Bk Ct := fun gd W G σ H Z S L => by
  refine ⟨fun m σ H => ∃ e W G, I m e ∧ StW X.c gd W G e σ H, ⟨m0, env, W, G, h0, S⟩, ?_⟩
  rintro m σ H ⟨e, W, G, hI, S⟩
  refine tv_frz (hs m e hI) gd W G σ H _ S L.er fun W1 G1 b H1 hb e1 => ?_
  cases b with
  | true =>
    show if true = true then _ else _
    rw [if_pos rfl]
    have hb := ifT hb
    refine ⟨fun σ H => ∃ m', m' < m ∧ ∃ e W G, I m' e ∧ StW X.c gd W G e σ H, fun σ' H' ⟨m', hm, r⟩ => ⟨m', hm, r⟩, ?_⟩
    exact hb gd W1 G1 σ H1 _ (S.step e1) ⟨fun e W G σ H ⟨m', hm, hI⟩ S => ⟨m', hm, e, W, G, hI, S⟩, L.rt, fun e W G σ H k S => L.nx e W G σ H k S, fun e W G σ H ⟨m', hm, hI⟩ S => ⟨m', hm, e, W, G, hI, S⟩, L.er⟩
  | false =>
    show if false = true then _ else _
    rw [if_neg (by decide)]
    exact L.nx e W1 G1 σ H1 (ifF hb) (S.step e1)
end
end Pu
/-! the pure layer: comprehensions, defs -/
namespace Pu
open PySem PySem.Spec PyProof.Rows L2 Evl Lay
/-! ### targets that leave the heap -/
def GP (X : Cx) (env : List Sl) (g : TG) (x : D) (N : List Sl → Prop) : Prop := ∀ gd W G σ H v (Q : L2.St → Hp → Prop), StW X.c gd W G env σ H → Dv X.c.K W G H v x → (∀ env' σ', N env' → StW X.c gd W G env' σ' H → Q σ' H) → g v σ H Q
def GPs (X : Cx) (env : List Sl) (g : TGs) (xs : List D) (N : List Sl → Prop) : Prop := ∀ gd W G σ H vs (Q : L2.St → Hp → Prop), StW X.c gd W G env σ H → DvA X.c.K W G H vs xs → (∀ env' σ', N env' → StW X.c gd W G env' σ' H → Q σ' H) → g vs σ H Q
section
variable {X : Cx} {gd : List (V × D)} {W G : Addr → Bool} {env : List Sl} {σ : L2.St} {H : Hp} {n m i j : Nat} {v : V} {d x : D} {ds xs : List D} {N : List Sl → Prop} {g : TG} {gs : TGs}
theorem gp_name (h : N (env.set n (.d x))) : GP X env (gName n) x N := fun gd W G σ H v Q S dv q => q _ _ h (S.setD dv)
theorem gp_tup (l : ds.length = n) (h : GPs X env gs ds N) : GP X env (gTup X.c.K n gs) (.tup ds) N := fun gd W G σ H v Q S dv q => by
  cases dv with
  | tup e a => exact ⟨_, _, rfl, L2.SqT.of (wo_some.mp e).2, by rw [a.len]; exact l, h gd W G σ H _ Q S a q⟩
theorem gp_unl (l : ds.length = n) (h : GPs X env gs ds N) : GP X env (gUnl X.c.K n gs) (.lst ds) N := fun gd W G σ H v Q S dv q => by
  cases dv with
  | lst e a => exact ⟨_, _, rfl, L2.SqL.of (wo_some.mp e).2, by rw [a.len]; exact l, h gd W G σ H _ Q S a q⟩
/-- a list or a tuple -/
theorem gp_or1 {g2 : TG} (h : GP X env g x N) : GP X env (fun v σ H Q => g v σ H Q ∨ g2 v σ H Q) x N := fun gd W G σ H v Q S dv q => .inl (h gd W G σ H v Q S dv q)
theorem gp_or2 {g2 : TG} (h : GP X env g x N) : GP X env (fun v σ H Q => g2 v σ H Q ∨ g v σ H Q) x N := fun gd W G σ H v Q S dv q => .inr (h gd W G σ H v Q S dv q)
theorem gp_nil (h : N env) : GPs X env gNil [] N := fun gd W G σ H v Q S dv q => by
  cases dv
  exact ⟨rfl, q env σ h S⟩
theorem gp_cons (h : GP X env g x fun e => GPs X e gs xs N) : GPs X env (gCons g gs) (x :: xs) N := fun gd W G σ H vs Q S dv q => by
  cases dv with
  | cons a r => exact ⟨_, _, rfl, h gd W G σ H _ _ S a fun e' σ' hn S' => hn gd W G σ' H _ Q S' r q⟩
theorem gx_gp (h : GP X env g x N) : GX X env g x N := fun gd W G σ H v Q S er dv q => h gd W G σ H v Q S dv fun env' σ' hn S' => q env' W G σ' H hn S'
end
/-! ### slots wiped -/
def wipeE (env : List Sl) : List Nat → List Sl
  | [] => env
  | v :: vs => (wipeE env vs).set v .no
theorem wipe_at {σ : L2.St} {i : Nat} : ∀ {vs : List Nat}, (L2.wipe σ vs)[i]? = if i ∈ vs ∧ i < σ.length then some none else σ[i]?
  | [] => by simp [L2.wipe]
  | v :: vs => by
    unfold L2.wipe
    have ih := wipe_at (σ := σ) (i := i) (vs := vs)
    by_cases e : v = i
    · subst e
      by_cases hl : v < σ.length
      · rw [List.getElem?_set_self (by rw [L2.wipe_length]; exact hl), if_pos ⟨List.mem_cons_self, hl⟩]
      · rw [List.getElem?_eq_none (by simp [L2.wipe_length]; omega), if_neg (fun h => hl h.2), List.getElem?_eq_none (by omega)]
    · rw [List.getElem?_set_ne e, ih]
      by_cases hm : i ∈ vs ∧ i < σ.length
      · rw [if_pos hm, if_pos ⟨List.mem_cons_of_mem _ hm.1, hm.2⟩]
      · rw [if_neg hm, if_neg]
        intro h
        rcases List.mem_cons.mp h.1 with z | z
        · exact e z.symm
        · exact hm ⟨z, h.2⟩
theorem wipe_set {σ : L2.St} {m : Nat} {x : Option V} {vs : List Nat} (h : m ∈ vs) : L2.wipe (σ.set m x) vs = L2.wipe σ vs := by
  apply List.ext_getElem?
  intro i
  rw [wipe_at, wipe_at, List.length_set]
  by_cases c : i ∈ vs ∧ i < σ.length
  · rw [if_pos c, if_pos c]
  · rw [if_neg c, if_neg c]
    by_cases e : m = i
    · subst e
      have hl : ¬ m < σ.length := fun z => c ⟨h, z⟩
      rw [List.getElem?_eq_none (by simp; omega), List.getElem?_eq_none (by omega)]
    · rw [List.getElem?_set_ne e]
theorem wipe_wipe {σ : L2.St} {vs : List Nat} : L2.wipe (L2.wipe σ vs) vs = L2.wipe σ vs := by
  apply List.ext_getElem?
  intro i
  rw [wipe_at, L2.wipe_length, wipe_at]
  by_cases c : i ∈ vs ∧ i < σ.length
  · rw [if_pos c, if_pos c]
  · rw [if_neg c]
theorem StW.wipe {c : Cp} {er : List Sl → Er → Prop} {gd : List (V × D)} {W G : Addr → Bool} {env : List Sl} {σ : L2.St} {H : Hp} (S : StW c gd W G env σ H) : ∀ vs : List Nat, StW c gd W G (wipeE env vs) (L2.wipe σ vs) H
  | [] => S
  | v :: vs => (StW.setN (X := ⟨c, er⟩) (StW.wipe (er := er) S vs) none)
/-- the target stores in vs alone -/
def Gvs (vs : List Nat) (g : TG) : Prop := ∀ v σ H (Q : L2.St → Hp → Prop), g v σ H Q → g v σ H fun σ' H' => L2.wipe σ' vs = L2.wipe σ vs ∧ Q σ' H'
def Gvss (vs : List Nat) (g : TGs) : Prop := ∀ v σ H (Q : L2.St → Hp → Prop), g v σ H Q → g v σ H fun σ' H' => L2.wipe σ' vs = L2.wipe σ vs ∧ Q σ' H'
theorem gvs_name {vs : List Nat} {m : Nat} (h : m ∈ vs) : Gvs vs (gName m) := fun v σ H Q q => ⟨wipe_set h, q⟩
theorem gvs_nil {vs : List Nat} : Gvss vs gNil := fun v σ H Q q => ⟨q.1, rfl, q.2⟩
theorem gvs_cons {vs : List Nat} {g : TG} {gs : TGs} (a : Gvs vs g) (b : Gvss vs gs) (mo : ∀ v σ H (Q Q' : L2.St → Hp → Prop), (∀ s h, Q s h → Q' s h) → g v σ H Q → g v σ H Q') (mo2 : ∀ v σ H (Q Q' : L2.St → Hp → Prop), (∀ s h, Q s h → Q' s h) → gs v σ H Q → gs v σ H Q') : Gvss vs (gCons g gs) := fun vv σ H Q ⟨v, r, e, q⟩ =>
  ⟨v, r, e, mo _ _ _ _ _ (fun s h ⟨e1, q1⟩ => mo2 _ _ _ _ _ (fun s2 h2 ⟨e2, q2⟩ => ⟨e2.trans e1, q2⟩) (b _ _ _ _ q1)) (a _ _ _ _ q)⟩
structure GM (vs : List Nat) (g : TG) : Prop where
  w : Gvs vs g
  m : ∀ v σ H (Q Q' : L2.St → Hp → Prop), (∀ s h, Q s h → Q' s h) → g v σ H Q → g v σ H Q'
structure GMs (vs : List Nat) (g : TGs) : Prop where
  w : Gvss vs g
  m : ∀ v σ H (Q Q' : L2.St → Hp → Prop), (∀ s h, Q s h → Q' s h) → g v σ H Q → g v σ H Q'
theorem gm_name {vs : List Nat} {m : Nat} (h : m ∈ vs) : GM vs (gName m) := ⟨gvs_name h, fun _ _ _ _ _ k q => k _ _ q⟩
theorem gm_nil {vs : List Nat} : GMs vs gNil := ⟨gvs_nil, fun _ _ _ _ _ k q => ⟨q.1, k _ _ q.2⟩⟩
theorem gm_cons {vs : List Nat} {g : TG} {gs : TGs} (a : GM vs g) (b : GMs vs gs) : GMs vs (gCons g gs) := ⟨gvs_cons a.w b.w a.m b.m, fun _ _ _ _ _ k ⟨v, r, e, q⟩ => ⟨v, r, e, a.m _ _ _ _ _ (fun _ _ => b.m _ _ _ _ _ k) q⟩⟩
theorem gm_tup {vs : List Nat} {K : PySem.W.Frag} {n : Nat} {gs : TGs} (b : GMs vs gs) : GM vs (gTup K n gs) := ⟨fun v σ H Q ⟨a, xs, e, h, l, q⟩ => ⟨a, xs, e, h, l, b.w _ _ _ _ q⟩, fun _ _ _ _ _ k ⟨a, xs, e, h, l, q⟩ => ⟨a, xs, e, h, l, b.m _ _ _ _ _ k q⟩⟩
theorem gm_unl {vs : List Nat} {K : PySem.W.Frag} {n : Nat} {gs : TGs} (b : GMs vs gs) : GM vs (gUnl K n gs) := ⟨fun v σ H Q ⟨a, xs, e, h, l, q⟩ => ⟨a, xs, e, h, l, b.w _ _ _ _ q⟩, fun _ _ _ _ _ k ⟨a, xs, e, h, l, q⟩ => ⟨a, xs, e, h, l, b.m _ _ _ _ _ k q⟩⟩
/-! ### a list comprehension -/
section
variable {X : Cx} {gd : List (V × D)} {W G : Addr → Bool} {env : List Sl} {σ : L2.St} {H : Hp}
theorem StW.pad (S : StW X.c gd W G env σ H) : StW X.c gd W G (env ++ [.no]) (σ ++ [none]) H := by
  have at_ : ∀ (i : Nat) s, (env ++ [Sl.no])[i]? = some s → (env[i]? = some s ∧ i < env.length) ∨ s = .no := fun i s h => by
    by_cases hl : i < env.length
    · rw [List.getElem?_append_left hl] at h
      exact .inl ⟨h, hl⟩
    · rw [List.getElem?_append_right (by omega)] at h
      right
      cases k : i - env.length with
      | zero => rw [k] at h; cases h; rfl
      | succ n => rw [k] at h; cases h
  refine { S with len := by rw [List.length_append, List.length_append, S.len]; rfl, sl := fun i s h => ?_, ow := fun i p o h => ?_, nd := fun i j p o o' h h' => ?_ }
  · rcases at_ i s h with ⟨h, hl⟩ | rfl
    · rw [List.getElem?_append_left (by rw [S.len]; exact hl)]
      exact S.sl i s h
    · trivial
  · rcases at_ i _ h with ⟨h, hl⟩ | z
    · exact S.ow i p o h
    · cases z
  · rcases at_ i _ h with ⟨h, hl⟩ | z
    · rcases at_ j _ h' with ⟨h', hl'⟩ | z
      · exact S.nd i j p o o' h h'
      · cases z
    · cases z
theorem StW.trunc {s : Sl} {x : Option V} (S : StW X.c gd W G (env ++ [s]) (σ ++ [x]) H) : StW X.c gd W G env σ H := by
  have hl : σ.length = env.length := by
    have := S.len
    rw [List.length_append, List.length_append] at this
    simpa using this
  have at_ : ∀ (i : Nat) t, env[i]? = some t → (env ++ [s])[i]? = some t := fun i t h => by
    rw [List.getElem?_append_left (List.getElem?_eq_some_iff.mp h).1]
    exact h
  refine { S with len := hl, sl := fun i t h => ?_, ow := fun i p o h => S.ow i p o (at_ i _ h), nd := fun i j p o o' h h' => S.nd i j p o o' (at_ i _ h) (at_ j _ h') }
  have k := S.sl i t (at_ i t h)
  rw [List.getElem?_append_left (by rw [hl]; exact (List.getElem?_eq_some_iff.mp h).1)] at k
  exact k
variable {wi : TI} {g : TG} {tt : TT} {te : TE} {vs : List Nat} {Pl : List D → Prop}
theorem own_app {n : Nat} {p : Addr} {ds : List D} {v : V} {d : D} (S : StW X.c gd W G env σ H) (e : env[n]? = some (.own p (.l ds))) (dv : Dv X.c.K W G H v d) :
    ∃ vs0, H p = some (.lst vs0) ∧ vs0.length = ds.length ∧ StW X.c gd W G (env.set n (.own p (.l (ds ++ [d])))) σ (upd H p (.lst (vs0 ++ [v]))) := by
  have ow := S.ow n p _ e
  obtain ⟨vs0, o1, o2⟩ := ow.at_
  have e3 : ∀ a o, wo W H a = some o → NT o → wo W (upd H p (.lst (vs0 ++ [v]))) a = some o := fun a o h _ => by
    obtain ⟨h1, h2⟩ := wo_some.mp h
    exact wo_some.mpr ⟨h1, by rw [upd_ne (ne_w ow.w h1)]; exact h2⟩
  have pu : ∀ a, G a = true → Pur H a → G a = true ∧ Pur (upd H p (.lst (vs0 ++ [v]))) a := fun a g h => ⟨g, pur_upd h (ne_g g ow.g)⟩
  exact ⟨vs0, o1, o2.len, S.mut e (fun a o n h => by rw [upd_ne n]; exact h) ⟨_, upd_same, (o2.tr e3 pu).app (.cons (dv.tr e3 pu) .nil)⟩⟩
theorem ES.updN {T : List (Addr × Str)} {W' G' : Addr → Bool} {H' : Hp} {p : Addr} {xs ys : List V} (e : ES T W G H W' G' H') (n : H p = none) (hw : W' p = true) (hg : G' p = false) (ho : H' p = some (.lst xs)) : ES T W G H W' G' (upd H' p (.lst ys)) := by
  have nx : ∀ a, nn (upd H' p (.lst ys)) a → nn H' a := fun a h o k n => by
    by_cases q : a = p
    · exact sn (q ▸ h) upd_same nt_l
    · exact h o (by rw [upd_ne q]; exact k) n
  have pg : ∀ a, G' a = true → Pur H' a → Pur (upd H' p (.lst ys)) a := fun a g h => pur_upd h (ne_g g hg)
  refine ⟨e.s, ⟨fun a o g h nt => ?_, fun a g h => pg a (e.g a g) (e.xg.pu a g h), fun t => ?_⟩, e.w, e.g, e.wn, e.gn, ⟨e.t.gw, fun a h z => e.t.wd a h (nx a z), fun a g => pg a g (e.t.gp a g)⟩⟩
  · rw [upd_ne (ne_of_none h n)]; exact e.xg.ex a o g h nt
  · exact Tabs.exb (e.xg.tb t) (fun b o n h => by rw [upd_ne n]; exact h) (.inl ⟨_, ho⟩)
theorem ef_lc (I : Nat → List D → Prop) (hv : GM vs g) (h : IT X env wi fun xs => xs.length ≤ 16000000 ∧ I 0 [] ∧ (∀ i x acc, xs[i]? = some x → I i acc → GP X (wipeE env vs) g x fun e => TV X e tt fun b => if b = true then EV X e te fun d => I (i + 1) (acc ++ [d]) else I (i + 1) acc) ∧ ∀ acc, I xs.length acc → Pl acc) : EF X env (tLc wi g tt te vs) Pl := fun gd W G σ H Q S er q =>
  h gd W G σ H _ S er fun W1 G1 H1 J xs gd' ⟨hl, h0, hs, hn⟩ e1 wk hg => fun D0 hD => by
    -- the new list, owned by a slot behind the others
    have S1 := (S.step e1).ghost hg
    have ed : ES X.c.T W1 G1 H1 W1 G1 (upd H1 D0 (.lst [])) := .ofEx e1.t (Ex.new hD)
    have es : ∀ s : Sl, (env ++ [Sl.no]).set env.length s = env ++ [s] := fun s => by rw [List.set_append_right _ _ (Nat.le_refl _), Nat.sub_self]; rfl
    have es2 : ∀ s t : Sl, (env ++ [t]).set env.length s = env ++ [s] := fun s t => by rw [List.set_append_right _ _ (Nat.le_refl _), Nat.sub_self]; rfl
    have el : ∀ t : Sl, (env ++ [t])[env.length]? = some t := fun t => by rw [List.getElem?_append_right (Nat.le_refl _), Nat.sub_self]; rfl
    have ss : (σ ++ [none]).set env.length (some (V.ref D0)) = σ ++ [some (V.ref D0)] := by rw [← S.len, List.set_append_right _ _ (Nat.le_refl _), Nat.sub_self]; rfl
    -- what is new since H1
    have wd0 : ∀ a, hd D0 W1 a = true → ¬ nn (upd H1 D0 (.lst [])) a := fun a h => (hd_t.mp h).elim (ed.t.wd a) fun z y => sn (z ▸ y) upd_same nt_l
    have E0 : ES X.c.T W1 G1 H1 (hd D0 W1) G1 (upd H1 D0 (.lst [])) := ⟨ed.s, ed.xg, fun a h => hd_le a h, fun a h => h, fun a h => (hd_t.mp h).elim .inl fun (z : a = D0) => .inr (z ▸ nn_of hD), fun a h => .inl h, ⟨fun a h => hd_le a (e1.t.gw a h), wd0, ed.t.gp⟩⟩
    refine ⟨fun i m H => m = xs.length - i ∧ i ≤ xs.length ∧ ∃ acc W3 G3, acc.length ≤ i ∧ I i acc ∧ StW X.c (gd' ++ gd) W3 G3 (env ++ [.own D0 (.l acc)]) (σ ++ [some (V.ref D0)]) H ∧ ES X.c.T W1 G1 H1 W3 G3 H, ⟨xs.length, by simp, Nat.zero_le _, [], hd D0 W1, G1, Nat.le_refl _, h0, ?_, E0⟩, ?_⟩
    · have S3 := (S1.pad).step E0
      have S4 := StW.setS (n := env.length) (v := .ref D0) (s := .own D0 (.l [])) S3 (fun _ => rfl) fun p o z => by
        cases z
        refine ⟨⟨hd_t.mpr (.inr rfl), bf fun z => e1.t.wd D0 (e1.t.gw D0 z) (nn_of hD), S1.es.fr D0 (nn_of hD), [], upd_same, .nil⟩, fun i o' z => ?_⟩
        obtain ⟨u, hu, nu⟩ := (S1.pad.ow i D0 o' z).at_.some
        exact sn (nn_of hD) hu nu
      rw [es, ss] at S4
      exact S4
    · rintro i m H2 ⟨rfl, hi, acc, W3, G3, hacc, hI, S3, E3⟩
      obtain ⟨S3u, k3⟩ := S3.unghost
      obtain ⟨w1, w2⟩ := wk W3 G3 H2 S3.t S3.tb k3
      have ow := S3.ow _ _ _ (el _)
      by_cases hlt : i < xs.length
      · have hx : xs[i]? = some xs[i] := List.getElem?_eq_getElem hlt
        obtain ⟨go, yl⟩ := w1 i _ hx
        refine .inr ⟨go, fun H' => ∃ acc W3 G3, acc.length ≤ i + 1 ∧ I (i + 1) acc ∧ StW X.c (gd' ++ gd) W3 G3 (env ++ [.own D0 (.l acc)]) (σ ++ [some (V.ref D0)]) H' ∧ ES X.c.T W1 G1 H1 W3 G3 H', fun H' ⟨acc, W3, G3, a, b, c, d⟩ => ⟨xs.length - (i + 1), by omega, rfl, hlt, acc, W3, G3, a, b, c, d⟩, fun v H' y => ?_⟩
        obtain ⟨e4, dv⟩ := yl v H' y
        have S4 := S3.step e4
        have E4 := E3.trans e4
        refine hv.m _ _ _ _ _ (fun s h k => ⟨k.1.trans wipe_wipe, k.2⟩) (hv.w _ _ _ _ ?_)
        refine hs i _ acc hx hI (gd' ++ gd) W3 G3 _ H' v _ (S4.trunc.wipe (er := X.er) vs) dv fun e σ2 he Se => ?_
        refine he (gd' ++ gd) W3 G3 σ2 H' _ Se er.ghost fun W5 G5 b H5 hb e5 => ?_
        have S5 := S4.step e5
        cases b with
        | true =>
          rw [if_pos rfl]
          refine (ifT hb : EV X e te _) (gd' ++ gd) W5 G5 σ2 H5 _ (Se.step e5) er.ghost fun W6 G6 y H6 d hd e6 d6 => ?_
          have S6 := S5.step e6
          obtain ⟨vs0, o1, o2, S7⟩ := own_app (n := env.length) S6 (el _) d6
          rw [es2] at S7
          have ow6 := S6.ow _ _ _ (el _)
          exact ⟨vs0, o1, by rw [o2, PySem.sizeLine_eq]; omega, acc ++ [d], W6, G6, by rw [List.length_append]; show acc.length + 1 ≤ _; omega, hd, S7, ((E4.trans e5).trans e6).updN hD ow6.w ow6.g o1⟩
        | false =>
          rw [if_neg (by decide)]
          exact ⟨acc, W5, G5, by omega, ifF hb, S5, E4.trans e5⟩
      · have ei : i = xs.length := by omega
        subst ei
        refine .inl ⟨w2 _ (Nat.le_refl _), ?_⟩
        have w1d : W1 D0 = false := bf fun z => e1.t.wd D0 z (nn_of hD)
        have E5 : ES X.c.T W1 G1 H1 (fun a => W3 a && !decide (a = D0)) G3 H2 := ⟨E3.s, E3.xg, fun a h => by simp [E3.w a h]; exact ne_g h w1d, E3.g, fun a h => E3.wn a (by simp at h; exact h.1), E3.gn, ⟨fun a h => by simp [E3.t.gw a h]; exact ne_g h ow.g, fun a h => E3.t.wd a (by simp at h; exact h.1), E3.t.gp⟩⟩
        refine q _ G3 _ H2 acc (hn acc hI) (e1.trans E5) ?_
        obtain ⟨vs0, o1, o2⟩ := ow.at_
        exact ⟨D0, vs0, acc, rfl, rfl, e1.fr D0 (nn_of hD), by simp, o1, o2.less fun a h => (hd_t.mp h).elim (fun z => by simp at z; exact z.1) fun z => z ▸ ow.w⟩
end
end Pu
/-! the pure layer: defs, methods, __init__, purses -/
namespace Pu
open PySem PySem.Spec PyProof.Rows L2 Evl Lay
/-! ### the state a def begins in -/
theorem st_start {K : PySem.W.Frag} {T : List (Addr × Str)} {W G : Addr → Bool} {H : Hp} {vs : List V} {ds : List D} {E : L2.St → XK} (w : WG W G H) (tb : LamX.Tabs T H) (a : DvA K W G H vs ds) (n : Nat) :
    StW ⟨K, T, H, W, G, E⟩ [] W G (ds.map Sl.d ++ List.replicate (n - ds.length) .no) (vs.map some ++ List.replicate (n - vs.length) none) H := by
  have at_ : ∀ (i : Nat) s, (ds.map Sl.d ++ List.replicate (n - ds.length) Sl.no)[i]? = some s → (∃ d, ds[i]? = some d ∧ s = .d d) ∨ s = .no := fun i s h => by
    by_cases hl : i < ds.length
    · rw [List.getElem?_append_left (by simpa using hl), List.getElem?_map, List.getElem?_eq_getElem hl] at h
      cases h
      exact .inl ⟨_, List.getElem?_eq_getElem hl, rfl⟩
    · rw [List.getElem?_append_right (by simp; omega), List.getElem?_replicate] at h
      split at h
      · cases h; exact .inr rfl
      · cases h
  refine ⟨w, w, ⟨w, XG.ofEx (Ex.refl H), fun a h => wg_t.mpr (.inl h), fun a h => h, fun a h => (wg_t.mp h).elim .inl fun z => .inl (w.gw a z), fun a h => .inl h, ⟨fun a h => wg_t.mpr (.inr h), fun a h => (wg_t.mp h).elim (w.wd a) fun z => w.wd a (w.gw a z), w.gp⟩⟩, fun a h => h, fun a h => .inl h, tb, ?_, fun i s h => ?_, fun i p o h => ?_, fun i j p o o' h h' => ?_, fun q h => (List.not_mem_nil h).elim⟩
  · rw [List.length_append, List.length_append, List.length_map, List.length_map, List.length_replicate, List.length_replicate, a.len]
  · rcases at_ i s h with ⟨d, hd, rfl⟩ | rfl
    · obtain ⟨v, h1, h2⟩ := a.at hd
      refine ⟨v, ?_, h2⟩
      rw [List.getElem?_append_left (by rw [List.length_map]; exact (List.getElem?_eq_some_iff.mp h1).1), List.getElem?_map, h1]
      rfl
    · trivial
  · rcases at_ i _ h with ⟨d, hd, z⟩ | z <;> cases z
  · rcases at_ i _ h with ⟨d, hd, z⟩ | z <;> cases z
theorem err_start {K : PySem.W.Frag} {T : List (Addr × Str)} {W G : Addr → Bool} {H : Hp} {E : XK} {er : Er → Prop} (h : ∀ e W' G' d H', er e → ES T W G H W' G' H' → H' d = some (.xd e.fs) → E (.ref e.c) (some d) H') : ErrOk ⟨K, T, H, W, G, fun _ => E⟩ (fun _ => er) [] :=
  fun env e W' G' σ H' d he S hd => h e _ _ d H' he S.es hd
abbrev NoE : List Sl → Prop := fun _ => False
section
variable {P : Program} {w : World} {K : PySem.W.Frag} {mg : Str → Option Value} {base : Heap} {T : List (Addr × Str)}
/-- the body of a def, by its promise -/
abbrev BodyP (K : PySem.W.Frag) (T : List (Addr × Str)) (N : List Str) (t : TS) (f : PF) (E : XK) : Prop := ∀ (B : Hp) (W0 G0 : Addr → Bool) ds R er, f ds R er → SX ⟨⟨K, T, B, W0, G0, fun _ => E⟩, fun _ => er⟩ (ds.map Sl.d ++ List.replicate (N.length - ds.length) .no) t (fun _ => R .non) (fun _ d => R d) NoE NoE
abbrev BodyN (K : PySem.W.Frag) (T : List (Addr × Str)) (N : List Str) (t : TS) (f : List D → (List D → Prop) → (Er → Prop) → Prop) (E : XK) : Prop := ∀ (B : Hp) (W0 G0 : Addr → Bool) ds R er, f ds R er → SX ⟨⟨K, T, B, W0, G0, fun _ => E⟩, fun _ => er⟩ (ds.map Sl.d ++ List.replicate (N.length - ds.length) .no) t NoE (fun b d => b = true ∧ ∃ xs, d = .lst xs ∧ R xs) NoE NoE
theorem bodyP_run {N : List Str} {t : TS} {f : PF} {E : XK} (h : BodyP K T N t f E) {vs : List V} {H : Hp} {Q : VK} (s : spP K T f vs H Q E) : t { nx := fun _ H' => Q .non H', rt := Q, bk := fun _ _ => False, ct := fun _ _ => False } (start N vs) H := by
  obtain ⟨W, G, ds, R, er, w, tb, a, hf, q, qe⟩ := s
  refine h H W G ds R er hf [] W G _ H _ ?_ ?_
  · have := st_start (E := fun _ => E) w tb a N.length
    rw [← a.len] at this ⊢
    exact this
  · exact ⟨fun env W' G' σ H' k S => q .non _ G' .non H' k S.es .non, fun b d W' G' v H' k e dv _ => q d W' G' v H' k e dv, fun _ _ _ _ _ k => k.elim, fun _ _ _ _ _ k => k.elim, err_start qe⟩
theorem bodyN_run {N : List Str} {t : TS} {f : List D → (List D → Prop) → (Er → Prop) → Prop} {E : XK} (h : BodyN K T N t f E) {vs : List V} {H : Hp} {Q : VK} (s : spN K T f vs H Q E) : t { nx := fun _ H' => Q .non H', rt := Q, bk := fun _ _ => False, ct := fun _ _ => False } (start N vs) H := by
  obtain ⟨W, G, ds, R, er, w, tb, a, hf, q, qe⟩ := s
  refine h H W G ds R er hf [] W G _ H _ ?_ ?_
  · have := st_start (E := fun _ => E) w tb a N.length
    rw [← a.len] at this ⊢
    exact this
  · refine ⟨fun env W' G' σ H' k S => k.elim, fun b d W' G' v H' k e dv fr => ?_, fun _ _ _ _ _ k => k.elim, fun _ _ _ _ _ k => k.elim, err_start qe⟩
    obtain ⟨hb, xs, rfl, hr⟩ := k
    exact q xs W' G' v H' hr e (fr hb)
theorem defP {x : Str} {st : Stmt} {N ps : List Str} {k : Nat} {f : PF} (F : At K mg x st ps) (S : FnScope N ps (defScope st)) (len : ∀ ds R er, f ds R er → ds.length = ps.length)
    (hb : ∀ (f0 : Addr) (cdv : Value) (A : Around) (outer : List Env) (s : Shared) (H : Hp) (vs : List V) (Q : VK) (E : XK), Room k (A.deeper (envOfC x (defScope st) s.heap.objs.size f0 cdv)) → ∃ t, PSs (cxOf (L2.CX P w) P w K mg base N x (defScope st) f0 cdv A outer s H E) (defBody st) t ∧ BodyP K T N t f E) : Def P w K mg base x (k + 1) ps (spP K T f) := by
  refine Def.mk' F S (fun vs H Q E ⟨_, _, ds, R, er, _, _, a, hf, _⟩ => a.len.trans (len _ _ _ hf)) fun f0 cdv A outer s H vs Q E hr h => ?_
  obtain ⟨t, ht, hbody⟩ := hb f0 cdv A outer s H vs Q E hr
  exact ⟨t, ht, bodyP_run hbody h⟩
theorem defN {x : Str} {st : Stmt} {N ps : List Str} {k : Nat} {f : List D → (List D → Prop) → (Er → Prop) → Prop} (F : At K mg x st ps) (S : FnScope N ps (defScope st)) (len : ∀ ds R er, f ds R er → ds.length = ps.length)
    (hb : ∀ (f0 : Addr) (cdv : Value) (A : Around) (outer : List Env) (s : Shared) (H : Hp) (vs : List V) (Q : VK) (E : XK), Room k (A.deeper (envOfC x (defScope st) s.heap.objs.size f0 cdv)) → ∃ t, PSs (cxOf (L2.CX P w) P w K mg base N x (defScope st) f0 cdv A outer s H E) (defBody st) t ∧ BodyN K T N t f E) : Def P w K mg base x (k + 1) ps (spN K T f) := by
  refine Def.mk' F S (fun vs H Q E ⟨_, _, ds, R, er, _, _, a, hf, _⟩ => a.len.trans (len _ _ _ hf)) fun f0 cdv A outer s H vs Q E hr h => ?_
  obtain ⟨t, ht, hbody⟩ := hb f0 cdv A outer s H vs Q E hr
  exact ⟨t, ht, bodyN_run hbody h⟩
/-- the def makes lambdas: its code object is known -/
theorem defPL {x : Str} {st : Stmt} {N ps : List Str} {k : Nat} {f : PF} {c : Addr} (F : AtL K mg x st ps c) (S : FnScope N ps (defScope st)) (len : ∀ ds R er, f ds R er → ds.length = ps.length)
    (hb : ∀ (f0 : Addr) (A : Around) (outer : List Env) (s : Shared) (H : Hp) (vs : List V) (Q : VK) (E : XK), Room k (A.deeper (envOfC x (defScope st) s.heap.objs.size f0 (.ref c))) → ∃ t, PSs (cxOf (L2.CX P w) P w K mg base N x (defScope st) f0 (.ref c) A outer s H E) (defBody st) t ∧ BodyP K T N t f E) : Def P w K mg base x (k + 1) ps (spP K T f) := by
  refine Def.mkL F S (fun vs H Q E ⟨_, _, ds, R, er, _, _, a, hf, _⟩ => a.len.trans (len _ _ _ hf)) fun f0 A outer s H vs Q E hr h => ?_
  obtain ⟨t, ht, hbody⟩ := hb f0 A outer s H vs Q E hr
  exact ⟨t, ht, bodyP_run hbody h⟩
theorem defNL {x : Str} {st : Stmt} {N ps : List Str} {k : Nat} {f : List D → (List D → Prop) → (Er → Prop) → Prop} {c : Addr} (F : AtL K mg x st ps c) (S : FnScope N ps (defScope st)) (len : ∀ ds R er, f ds R er → ds.length = ps.length)
    (hb : ∀ (f0 : Addr) (A : Around) (outer : List Env) (s : Shared) (H : Hp) (vs : List V) (Q : VK) (E : XK), Room k (A.deeper (envOfC x (defScope st) s.heap.objs.size f0 (.ref c))) → ∃ t, PSs (cxOf (L2.CX P w) P w K mg base N x (defScope st) f0 (.ref c) A outer s H E) (defBody st) t ∧ BodyN K T N t f E) : Def P w K mg base x (k + 1) ps (spN K T f) := by
  refine Def.mkL F S (fun vs H Q E ⟨_, _, ds, R, er, _, _, a, hf, _⟩ => a.len.trans (len _ _ _ hf)) fun f0 A outer s H vs Q E hr h => ?_
  obtain ⟨t, ht, hbody⟩ := hb f0 A outer s H vs Q E hr
  exact ⟨t, ht, bodyN_run hbody h⟩
theorem methP {C : Addr} {m qual : Str} {st : Stmt} {N ps : List Str} {k : Nat} {f : PF} (F : AtM K C m qual st ps) (S : FnScope N ps (defScope st)) (len : ∀ ds R er, f ds R er → ds.length = ps.length)
    (hb : ∀ (f0 : Addr) (cdv : Value) (A : Around) (outer : List Env) (s : Shared) (H : Hp) (vs : List V) (Q : VK) (E : XK), Room k (A.deeper (envOfC qual (defScope st) s.heap.objs.size f0 cdv)) → ∃ t, PSs (cxOf (L2.CX P w) P w K mg base N qual (defScope st) f0 cdv A outer s H E) (defBody st) t ∧ BodyP K T N t f E) : DM P w K mg base C m (k + 1) ps (spP K T f) := by
  refine DM.mk' F S (fun vs H Q E ⟨_, _, ds, R, er, _, _, a, hf, _⟩ => a.len.trans (len _ _ _ hf)) fun f0 cdv A outer s H vs Q E hr h => ?_
  obtain ⟨t, ht, hbody⟩ := hb f0 cdv A outer s H vs Q E hr
  exact ⟨t, ht, bodyP_run hbody h⟩
theorem methN {C : Addr} {m qual : Str} {st : Stmt} {N ps : List Str} {k : Nat} {f : List D → (List D → Prop) → (Er → Prop) → Prop} (F : AtM K C m qual st ps) (S : FnScope N ps (defScope st)) (len : ∀ ds R er, f ds R er → ds.length = ps.length)
    (hb : ∀ (f0 : Addr) (cdv : Value) (A : Around) (outer : List Env) (s : Shared) (H : Hp) (vs : List V) (Q : VK) (E : XK), Room k (A.deeper (envOfC qual (defScope st) s.heap.objs.size f0 cdv)) → ∃ t, PSs (cxOf (L2.CX P w) P w K mg base N qual (defScope st) f0 cdv A outer s H E) (defBody st) t ∧ BodyN K T N t f E) : DM P w K mg base C m (k + 1) ps (spN K T f) := by
  refine DM.mk' F S (fun vs H Q E ⟨_, _, ds, R, er, _, _, a, hf, _⟩ => a.len.trans (len _ _ _ hf)) fun f0 cdv A outer s H vs Q E hr h => ?_
  obtain ⟨t, ht, hbody⟩ := hb f0 cdv A outer s H vs Q E hr
  exact ⟨t, ht, bodyN_run hbody h⟩
/-- __init__ -/
abbrev BodyI (K : PySem.W.Frag) (T : List (Addr × Str)) (C : Addr) (N : List Str) (t : TS) (f : List D → (List (Str × D) → Prop) → (Er → Prop) → Prop) (E : XK) : Prop := ∀ (B : Hp) (W0 G0 : Addr → Bool) (x : Addr) ds R er, f ds R er →
  SX ⟨⟨K, T, B, W0, G0, fun _ => E⟩, fun _ => er⟩ (.own x (.o C []) :: (ds.map Sl.d ++ List.replicate (N.length - 1 - ds.length) .no)) t (fun e => ∃ fs r, e = .own x (.o C fs) :: r ∧ R fs) (fun _ _ => False) NoE NoE
theorem bodyI_run {C : Addr} {N : List Str} {t : TS} {f : List D → (List (Str × D) → Prop) → (Er → Prop) → Prop} {E : XK} (hN : 1 ≤ N.length) (h : BodyI K T C N t f E) {vs : List V} {H : Hp} {Q : VK} (s : spI K T C f vs H Q E) : t { nx := fun _ H' => Q .non H', rt := Q, bk := fun _ _ => False, ct := fun _ _ => False } (start N vs) H := by
  obtain ⟨x, dx, ws, W, G, ds, R, er, rfl, hx, w, tb, a, hf, q, qe⟩ := s
  have dn : del H x x = none := by unfold del; rw [if_pos rfl]
  have e1 : Ex (del H x) H := del_ex
  have wx : W x = false := bf fun z => w.wd x z (nn_of dn)
  have gx : G x = false := bf fun z => tf (w.gw x z) wx
  have fz : ∀ b o, wo W (del H x) b = some o → NT o → wo (hd x W) H b = some o := fun b o h n => by
    obtain ⟨h1, h2⟩ := wo_some.mp h
    have nb : b ≠ x := fun z => sn (nn_of dn) (z ▸ h2) n
    exact wo_some.mpr ⟨bf fun z => (hd_t.mp z).elim (fun y => tf y h1) nb, e1 b o h2⟩
  have a' : DvA K (hd x W) G H ws ds := a.tr fz fun p b c => ⟨b, c.ex e1⟩
  have st : StW ⟨K, T, del H x, W, G, fun _ => E⟩ [] (hd x W) G (.own x (.o C []) :: (ds.map Sl.d ++ List.replicate (N.length - 1 - ds.length) .no)) (start N (.ref x :: ws)) H := by
    have at_ : ∀ (i : Nat) s, (ds.map Sl.d ++ List.replicate (N.length - 1 - ds.length) Sl.no)[i]? = some s → (∃ d, ds[i]? = some d ∧ s = .d d) ∨ s = .no := fun i s h => by
      by_cases hl : i < ds.length
      · rw [List.getElem?_append_left (by simpa using hl), List.getElem?_map, List.getElem?_eq_getElem hl] at h
        cases h
        exact .inl ⟨_, List.getElem?_eq_getElem hl, rfl⟩
      · rw [List.getElem?_append_right (by simp; omega), List.getElem?_replicate] at h
        split at h
        · cases h; exact .inr rfl
        · cases h
    have wt : WG (hd x W) G H := ⟨fun b h => hd_le b (w.gw b h), fun b h => (hd_t.mp h).elim (fun z y => w.wd b z (nn_back e1 y)) fun z y => sn y (z ▸ hx) nt_i, fun b h => (w.gp b h).ex e1⟩
    refine ⟨wt, w, ⟨w, XG.ofEx e1, fun b h => wg_t.mpr (.inl h), fun b h => h, fun b h => (wg_t.mp h).elim .inl fun z => .inl (w.gw b z), fun b h => .inl h, ⟨fun b h => wg_t.mpr (.inr h), fun b h => (wg_t.mp h).elim (fun z => wt.wd b (hd_le b z)) fun z => wt.wd b (wt.gw b z), wt.gp⟩⟩, fun b h => hd_le b h, fun b h => (hd_t.mp h).elim .inl fun z => .inr (by show nn (del H x) b; rw [z]; exact nn_of dn), tb.ext e1, ?_, fun i s h => ?_, fun i p o h => ?_, fun i j p o o' h h' => ?_, fun q h => (List.not_mem_nil h).elim⟩
    · show ((V.ref x :: ws).map some ++ List.replicate (N.length - (ws.length + 1)) none).length = _
      simp only [List.length_append, List.length_map, List.length_replicate, List.length_cons, a.len]
      omega
    · cases i with
      | zero => cases h; rfl
      | succ i =>
        have h' : (ds.map Sl.d ++ List.replicate (N.length - 1 - ds.length) Sl.no)[i]? = some s := h
        rcases at_ i s h' with ⟨d, hd', rfl⟩ | rfl
        · obtain ⟨v, h1, h2⟩ := a'.at hd'
          refine ⟨v, ?_, h2⟩
          show ((V.ref x :: ws).map some ++ List.replicate (N.length - (ws.length + 1)) none)[i + 1]? = _
          rw [List.getElem?_append_left (by simp; exact (List.getElem?_eq_some_iff.mp h1).1), List.getElem?_map, List.getElem?_cons_succ, h1]
          rfl
        · trivial
    · cases i with
      | zero => cases h; exact ⟨hd_t.mpr (.inr rfl), gx, nn_of dn, dx, [], hx, .nil⟩
      | succ i => rcases at_ i _ h with ⟨d, hd', z⟩ | z <;> cases z
    · cases i with
      | zero =>
        cases j with
        | zero => rfl
        | succ j => rcases at_ j _ h' with ⟨d, hd', z⟩ | z <;> cases z
      | succ i => rcases at_ i _ h with ⟨d, hd', z⟩ | z <;> cases z
  refine h (del H x) W G x ds R er hf [] _ G _ H _ st ?_
  refine ⟨fun env W' G' σ H' k S => ?_, fun _ _ _ _ _ _ k => k.elim, fun _ _ _ _ _ k => k.elim, fun _ _ _ _ _ k => k.elim, err_start qe⟩
  obtain ⟨fs, r, rfl, hr⟩ := k
  have ow := S.ow 0 x _ rfl
  obtain ⟨dx', vs, o1, o2⟩ := ow.at_
  have nw : wg W G' x = false := bf fun z => (wg_t.mp z).elim (fun y => tf y wx) fun y => tf y ow.g
  exact q fs _ G' H' hr S.es nw ⟨dx', vs, o1, o2.less fun b h => (hd_t.mp h).elim (ret_le S b) fun z => z ▸ ow.w⟩
theorem initI {x : Str} {C : Addr} {qual : Str} {st : Stmt} {N ps : List Str} {k : Nat} {f : List D → (List (Str × D) → Prop) → (Er → Prop) → Prop} (F : AtI K mg x C qual st ps) (S : FnScope N ps (defScope st)) (hN : 1 ≤ N.length) (len : ∀ ds R er, f ds R er → ds.length + 1 = ps.length)
    (hb : ∀ (f0 : Addr) (cdv : Value) (A : Around) (outer : List Env) (s : Shared) (H : Hp) (vs : List V) (Q : VK) (E : XK), Room k (A.deeper (envOfC qual (defScope st) s.heap.objs.size f0 cdv)) → ∃ t, PSs (cxOf (L2.CX P w) P w K mg base N qual (defScope st) f0 cdv A outer s H E) (defBody st) t ∧ BodyI K T C N t f E) : DI P w K mg base x C (k + 1) ps (spI K T C f) := by
  refine DI.mk' F S (fun vs H Q E ⟨_, _, ws, _, _, ds, _, _, e, _, _, _, a, hf, _⟩ => by rw [e, ← len _ _ _ hf, ← a.len]; rfl) fun f0 cdv A outer s H vs Q E hr h => ?_
  obtain ⟨t, ht, hbody⟩ := hb f0 cdv A outer s H vs Q E hr
  exact ⟨t, ht, bodyI_run hN hbody h⟩
end
/-! ### purses -/
def fPurse : PF := fun ds R _ => ∃ ns i, ds = [.scr ns, .int i] ∧ 0 ≤ i ∧ ns.length ≤ 63 ∧ R .pur
def fDraw : PF := fun ds R _ => ∃ n, ds = [.pur, .int n] ∧ 0 < n ∧ n < 1073741824 ∧ ∀ r, 0 ≤ r → r < n → R (.int r)
section
variable {K : PySem.W.Frag} {T : List (Addr × Str)} {vs : List V} {H : Hp} {Q : VK} {E : XK}
theorem sp_purse (s : spP K T fPurse vs H Q E) : ∃ (a : Addr) (ns : List Int) (i : Int), vs = [.ref a, .int i] ∧ SqL K H a (ns.map V.int) ∧ 0 ≤ i ∧ ns.length ≤ 63 ∧ ∀ p H2, H p = none → Ex H H2 → Pur H2 p → Q (.ref p) H2 := by
  obtain ⟨W, G, ds, R, er, w, tb, a, ⟨ns, i, rfl, h0, h1, hr⟩, q, qe⟩ := s
  obtain ⟨v, u, rfl, x, y⟩ := dva2 a
  cases y
  cases x with
  | scr sq =>
    refine ⟨_, ns, i, rfl, sq_tr (fun a o h _ => (wo_some.mp h).2) sq, h0, h1, fun p H2 np e hp => ?_⟩
    obtain ⟨x0, y0, z0, hpp⟩ := id hp
    have ws : ∀ a, W a = true → ¬ nn H2 a := fun a h z => w.wd a h (nn_back e z)
    refine q .pur (hd p W) (hd p G) _ H2 hr ⟨w, XG.ofEx e, fun a h => hd_le a h, fun a h => hd_le a h, fun a h => (hd_t.mp h).elim .inl fun z => .inr (z ▸ nn_of np), fun a h => (hd_t.mp h).elim .inl fun z => .inr (z ▸ nn_of np),
      ⟨fun a h => (hd_t.mp h).elim (fun z => hd_le a (w.gw a z)) fun z => hd_t.mpr (.inr z), fun a h => (hd_t.mp h).elim (ws a) fun z y => sn y (z ▸ hpp) nt_l, fun a h => (hd_t.mp h).elim (fun z => (w.gp a z).ex e) fun z => z ▸ hp⟩⟩ (.pur (hd_t.mpr (.inr rfl)) hp)
theorem sp_draw (s : spP K T fDraw vs H Q E) : ∃ (p : Addr) (n : Int), vs = [.ref p, .int n] ∧ 0 < n ∧ n < 1073741824 ∧ Pur H p ∧ ∀ r H2, 0 ≤ r → r < n → ExB p H H2 → Pur H2 p → Q (.int r) H2 := by
  obtain ⟨W, G, ds, R, er, w, tb, a, ⟨n, rfl, h0, h1, hr⟩, q, qe⟩ := s
  obtain ⟨v, u, rfl, x, y⟩ := dva2 a
  cases y
  cases x with
  | @pur p hg hp =>
    refine ⟨p, n, rfl, h0, h1, hp, fun r H2 r0 r1 e hp2 => ?_⟩
    have fr : ∀ a, nn H2 a → nn H a := fun a h o k n => by
      by_cases z : a = p
      · exact pur_nn hp2 (z ▸ h)
      · exact sn h (e a o z k) n
    have pu : ∀ a, G a = true → Pur H a → Pur H2 a := fun a g h => by
      by_cases z : a = p
      · rw [z]; exact hp2
      · exact h.upd e z
    exact q (.int r) W G _ H2 (hr r r0 r1) ⟨w, ⟨fun a o g h _ => e a o (fun z => tf hg (z ▸ g)) h, pu, fun t => Tabs.exb t e (.inl hp.lst)⟩, fun a h => h, fun a h => h, fun a h => .inl h, fun a h => .inl h, ⟨w.gw, fun a h z => w.wd a h (fr a z), fun a h => pu a h (w.gp a h)⟩⟩ (.int r)
end
/-- the law's own promise -/
def fLaw : PF := fun ds R _ => ∃ ns : List Int, ds = [.scr ns] ∧ ns.length ≤ 63 ∧ R (.bl true)
def spLawP (K : PySem.W.Frag) : Sp := fun vs H Q _ => ∃ (a : Addr) (ns : List Int), vs = [.ref a] ∧ SqL K H a (ns.map V.int) ∧ ns.length ≤ 63 ∧ ∀ H2, Q (.bl true) H2
def spLawT (K : PySem.W.Frag) (cs : List (Addr × Addr)) : Sp := fun vs H Q _ => ∃ (a : Addr) (ns : List Int), vs = [.ref a] ∧ SqL K H a (ns.map V.int) ∧ ns.length ≤ 63 ∧ (∀ p ∈ cs, H p.2 = some (.tbl #[])) ∧ ∀ H2, Q (.bl true) H2
theorem law_start {K : PySem.W.Frag} {T : List (Addr × Str)} {vs : List V} {H : Hp} {Q : VK} {E : XK} {a : Addr} {ns : List Int} (e : vs = [.ref a]) (h : SqL K H a (ns.map V.int)) (l : ns.length ≤ 63) (t : LamX.Tabs T H) (q : ∀ H2, Q (.bl true) H2) : spP K T fLaw vs H Q E := by
  subst e
  refine ⟨fun _ => false, fun _ => false, [.scr ns], fun d => d = .bl true, fun _ => False, ⟨fun _ h => (by cases h), fun _ h => (by cases h), fun _ h => (by cases h)⟩, t, .cons (.scr (sq_tr (fun b o h _ => wo_some.mpr ⟨rfl, h⟩) h)) .nil, ⟨ns, rfl, l, rfl⟩, fun d W' G' v H' hd _ dv => ?_, fun _ _ _ _ _ h => h.elim⟩
  subst hd
  cases dv
  exact q H'
theorem spLawP_P {K : PySem.W.Frag} {vs : List V} {H : Hp} {Q : VK} {E : XK} (s : spLawP K vs H Q E) : spP K [] fLaw vs H Q E := by
  obtain ⟨a, ns, e, h, l, q⟩ := s
  exact law_start e h l (fun _ z => (List.not_mem_nil z).elim) q
theorem spLawT_P {K : PySem.W.Frag} {T : List (Addr × Str)} {cs : List (Addr × Addr)} {vs : List V} {H : Hp} {Q : VK} {E : XK} (hT : ∀ p ∈ T, ∃ c, (c, p.1) ∈ cs) (s : spLawT K cs vs H Q E) : spP K T fLaw vs H Q E := by
  obtain ⟨a, ns, e, h, l, t, q⟩ := s
  refine law_start e h l (fun p hp => ?_) q
  obtain ⟨c, hc⟩ := hT p hp
  exact LamX.TabS.nil (t _ hc)
end Pu
/-! sorted(rows, key=lambda x: ..), the key an int -/
namespace Srk
open PySem PySem.Spec PyProof.Rows L2 Evl Lay
theorem sn' {α : Prop} {x : Option HO} {y : HO} (h : x = none) (g : x = some y) : α := by rw [h] at g; cases g
abbrev lamO (q : Str) (params : Arguments) (body : Expr) (scope : Scope) (pm : Value) (c' : Addr) (ctv : Value) : Obj := PySem.W.kla_obj "<lambda>" q params body scope [] pm c' ctv
section
variable {X : Cx} {pins : List (Addr × Obj)} {σ : L2.St} {H : Hp} {s : Shared}
/-- the key of one row -/
theorem key_call {A2 : Around} {k : Nat} {f c' : Addr} {q a : Str} {params : Arguments} {body : Expr} {scope : Scope} {pm ctv u : Value} {v : V} {n : Int} {N : List Str} {tb : TE} {Q : Value → Shared → Prop} {E : Value → Shared → Prop} (I : Inv X pins σ H s) (hA : A2.frames = some X.stack) (hr : Room (k + 1) A2)
    (hf : s.heap.get? f = some (lamO q params body scope pm c' ctv)) (hfn : H f = none) (hfr : f ∉ frs X.stack) (hco : H c' = some (LamX.CodeO c' q)) (Sg : FnScope N [a] scope) (hbind : ∀ u, bindArgs (PySem.W.kla_fn "<lambda>" q params body scope [] pm (.ref c') ctv) ⟨[u], []⟩ = pure [(a, u)])
    (r : RelV v u) (hbody : ∀ s' : Shared, Room k (A2.deeper (envOfC q scope s'.heap.objs.size f (.ref c'))) → PE (cxOf C8.CX0 X.prog X.w X.K X.mg X.base N q scope f (.ref c') A2 X.stack s' H C8.E0) body tb) (ht : tb (L2.start N [v]) H fun z H' => z = .int n ∧ H' = H)
    (hQ : ∀ t s', Inv X pins σ H s' → s'.heap.get? f = some (lamO q params body scope pm c' ctv) → (∀ c o, s.heap.get? c = some o → H c = none → c ∉ frs X.stack → s'.heap.get? c = some o) → Q (.int n t) s') : wpAny (model X.prog X.w) A2 (call (.ref f) [u]) Q E s := by
  have e0 : Env0 X.prog X.w X.K X.mg X.base A2 X.stack s H := ⟨hA, I.env0.mod, I.env0.bs, I.env0.bsz, I.env0.funs, I.env0.frf, I.env0.hok, I.env0.bare⟩
  obtain ⟨⟨oc, vs, t, hoc, hdc, hvc⟩, _, _⟩ := I.hok c' _ hco
  have rc : codeAny (model X.prog X.w) A2 (.call (.ref f) ⟨[u], []⟩) (CR C8.CX0 X.stack X.prog X.w H s (fun z H' => z = .int n ∧ H' = H) C8.E0) s := by
    refine PySem.W.kla_callFunE hr.depth hf rfl Sg.co Sg.gen rfl ⟨c', oc, vs, t, rfl, hoc, hdc, hvc⟩ ?_
    rw [hbind]
    refine wpAny_pure ?_
    have hkind : ∀ y ∈ [(a, u)], scope.names.lookup y.1 = some .local ∨ (scope.names.lookup y.1 = some .cell ∧ ((cellsFrom (s.heap.objs.size + 1) scope.names []).lookup y.1).isSome = true) := fun y hy => by
      rw [List.mem_singleton.mp hy]
      rcases Sg.par a List.mem_cons_self with q | q
      · exact .inl q
      · exact .inr ⟨q, PySem.W.cellsFrom_some _ _ _ (.inl q)⟩
    refine wpAny_newFunctionEnv_cells Sg.kind hkind fun env he s1 x => ?_
    subst he
    refine ⟨I.nolimit.keeps x.toInCall.keep, ?_⟩
    have I1 : Inv (cxOf C8.CX0 X.prog X.w X.K X.mg X.base N q scope f (.ref c') A2 X.stack s H C8.E0) [] (L2.start N [v]) H s1 := inv_start (ps := [a]) (us := [u]) Sg hr.hd e0 rfl (.cons r .nil) x
    refine PySem.W.kla_codeExpr (wpAny_mono ((hbody s (hr.deeper _)).run [] _ _ H _ I1 ht) (fun z s' hq => ?_) fun e s' hq => hq)
    obtain ⟨w', H', J, rv, hz, hH⟩ := hq
    exact ⟨w', H', J.os, J.bare, J.base, J.hok, rv, hz, hH⟩
  refine wpAny_call (codeAny_mono rc fun r s' hq => ?_)
  cases r with
  | error e => exact (show False from hq).elim
  | ok fl =>
    cases fl with
    | ret z =>
      have hq' : CE X.stack X.prog X.w H s (fun z H' => z = .int n ∧ H' = H) z s' := hq
      obtain ⟨w', H', h1, h2, un, h4, rv, rfl, rfl⟩ := id hq'
      obtain ⟨w2, H2, I2, rv2, rfl, rfl⟩ := I.after hq'
      obtain ⟨t, rfl⟩ := rv2
      exact hQ t s' I2 (un.keep f _ hf hfn hfr (by simp)) fun c o h1 h2 h3 => un.keep c o h1 h2 h3 (by simp)
    | next => exact False.elim hq
    | brk => exact False.elim hq
    | cont => exact False.elim hq
end
section
variable {X : Cx} {pins : List (Addr × Obj)} {σ : L2.St} {H : Hp} {s : Shared}
theorem adopt {L : Addr} {o : HO} (I : Inv X pins σ H s) (f : FpOk X pins H L) (new : ObjOk X.prog X.w (upd H L o) s.heap L o) : Inv X pins σ (upd H L o) s := by
  obtain ⟨hh, g, d, t, os⟩ := s
  have ne : ∀ b u, H b = some u → b ≠ L := fun b u e => ne_of_none e f.1
  have nL : ∀ b, b ∉ [L] → b ≠ L := fun b h z => h (by rw [z]; exact List.mem_cons_self)
  exact I.step (g' := g) (d' := d) (t' := t) (h' := hh) (ch := [L]) (fun b hb => by rw [List.mem_singleton.mp hb]; exact ⟨f.2.2.2.1, f.2.1, f.2.2.2.2.1, f.2.2.2.2.2⟩) (fun b o _ _ _ e _ => e) (fun b o _ _ _ e _ => ⟨o.slots, e⟩) (fun b o hb _ n => by rw [upd_ne (nL b hb)]; exact n) (fun b o _ e => ⟨o, e⟩)
    (fun b xs e => by rw [upd_ne (ne b _ e)]; exact e) (fun b o u e => by rw [upd_ne (ne b _ e)]; exact e) (fun b ps e => ⟨#[], by rw [upd_ne (ne b _ e), e]; simp⟩) (fun m h => h) (fun b u e => by
      by_cases hb : b = L
      · subst hb
        rw [upd_same] at e
        cases e
        exact new
      · rw [upd_ne hb] at e
        exact (I.hok b u e).stay (fun c v _ q => q) (fun c q => by rw [upd_ne (ne c _ q)]; exact q) fun c xs q => by rw [upd_ne (ne c _ q)]; exact q) I.bare
theorem fp_nofr {b : Addr} (I : Inv X pins σ H s) (f : FpOk X pins H b) : b ∉ frs X.stack := fun z => (List.mem_cons.mp (I.stkSub b z)).elim f.2.1 f.2.2.1
theorem fp_turn {it : Addr} {h' : Heap} {t' : Nat} (I : Inv X pins σ H s) (f : FpOk X pins H it) (k : ∀ b o, b ≠ it → s.heap.get? b = some o → h'.get? b = some o) : Inv X pins σ H { s with heap := h', toks := t' } :=
  I.turned k f.1 f.2.1 f.2.2.2.1 f.2.2.2.2.1 f.2.2.2.2.2
end
def vA : Value → Addr
  | .ref a => a | _ => 0
theorem zip_key {k : Addr → Int} : ∀ {ks : List Value} {as : List Addr}, IntsAre ks (as.map k) → ∀ p ∈ ks.zip (as.map Value.ref), SrtO.iv p.1 = k (vA p.2) ∧ p.2 = .ref (vA p.2)
  | [], as, _, p, h => by cases h
  | v :: ks, [], _, p, h => by cases h
  | v :: ks, a :: as, hi, p, h => by
    cases hi with
    | cons n t r =>
      rcases List.mem_cons.mp h with rfl | h
      · exact ⟨rfl, rfl⟩
      · exact zip_key r p h
/-- the key calls: rows of references -/
def KeyRun (prog : Program) (w : World) (A2 : Around) (f : Addr) (J : Shared → Prop) (as : List Addr) (k : Addr → Int) : Prop :=
  ∀ a ∈ as, ∀ (s : Shared) (Q : Value → Shared → Prop) (E : Value → Shared → Prop), J s → (∀ t s', J s' → Q (.int (k a) t) s') → wpAny (model prog w) A2 (call (.ref f) [.ref a]) Q E s
section
variable {prog : Program} {w : World} {A : Around} {P : PySem.Fin → Shared → Prop} {E : Value → Shared → Prop} {s : Shared} {a kS f : Addr} {as : List Addr} {k : Addr → Int} {e1 : Nat} {J : Shared → Prop}
theorem srt_end {keys : Array Value} {e : Nat} (hk : s.heap.get? kS = some (seqObj "list" keys e)) (ha : s.heap.get? a = some (seqObj "list" #[] e1)) (hka : kS ≠ a) (hi : IntsAre keys.toList (as.map k)) (hz : as.length ≤ 16000000)
    (h : ∀ h' (out : List Addr) c, (∀ b o, b ≠ kS → b ≠ a → s.heap.get? b = some o → h'.get? b = some o) → h'.get? a = some (seqObj "list" (out.map Value.ref).toArray c) → out.Perm as → out.Pairwise (fun x y => k x ≤ k y) → P (.done (.ret .none)) { s with heap := h' }) :
    wpAny (model prog w) A (ksk_end a false (as.map Value.ref).toArray e1 (.ref kS) keys) P E s := by
  have hsz : keys.size = as.length := by
    have h1 := hi.length
    rw [Array.length_toList, List.length_map] at h1
    omega
  have hzs : (keys.zip (as.map Value.ref).toArray).toList = keys.toList.zip (as.map Value.ref) := ksk_zip keys _
  have hzl : (keys.zip (as.map Value.ref).toArray).size = as.length := by rw [Array.size_zip, hsz, List.size_toArray, List.length_map, Nat.min_self]
  -- the end of it
  have fin : ∀ st : SortSt, SrtO.Srtd (SrtO.lt2 SrtO.ltIv) (arrOf st).toList → SrtO.Stb (SrtO.lt2 SrtO.ltIv) (arrOf st).toList (keys.zip (as.map Value.ref).toArray).toList → failedOf st = none → wpAny (model prog w) A (ksk_tail a false e1 (.ref kS) st) P E s := by
    intro st hs hp hf
    rw [hzs] at hp
    have hmem : ∀ p ∈ (arrOf st).toList, SrtO.iv p.1 = k (vA p.2) ∧ p.2 = .ref (vA p.2) := fun p hm => zip_key hi p (hp.perm.mem_iff.mp hm)
    have hlen : (arrOf st).size = as.length := by
      have := hp.len
      rw [Array.length_toList, List.length_zip, Array.length_toList, List.length_map, hsz, Nat.min_self] at this
      exact this
    have hout : ((arrOf st).map (·.2)).size = as.length := by rw [Array.size_map]; exact hlen
    have s1 := Heap.SameBut.update s.heap kS (Obj.mapSeq fun _ => (#[] : Array Value))
    have na1 : (s.heap.update kS (Obj.mapSeq fun _ => (#[] : Array Value))).get? a = some (seqObj "list" #[] e1) := (s1.2 a hka.symm).trans ha
    have s2 := Heap.SameBut.update (s.heap.update kS (Obj.mapSeq fun _ => (#[] : Array Value))) a (Obj.mapSeq fun _ => (arrOf st).map (·.2))
    obtain ⟨c2, hc2⟩ : ∃ c2, ((s.heap.update kS (Obj.mapSeq fun _ => (#[] : Array Value))).update a (Obj.mapSeq fun _ => (arrOf st).map (·.2))).get? a = some (seqObj "list" ((arrOf st).map (·.2)) c2) := ⟨_, get?_update_seq na1 fun _ => (arrOf st).map (·.2)⟩
    unfold ksk_tail
    try dsimp only
    refine wpAny_bind (listUpdate_at hk rfl ?_ (by rw [hsz, sizeLine_eq]; omega) (Nat.zero_le _))
    refine wpAny_bind (wpAny_letGo ?_)
    refine wpAny_bind (seqEpoch_at na1 rfl ?_)
    simp only [Bool.false_eq_true, if_false]
    refine wpAny_bind (listUpdate_at na1 rfl ?_ (Nat.zero_le _) (Nat.le_trans (Nat.le_of_eq hout) (by rw [sizeLine_eq]; omega)))
    rw [hf]
    simp only [bne_self_eq_false, Bool.false_eq_true, if_false]
    refine wpAny_pure (h _ ((arrOf st).toList.map fun p => vA p.2) c2 (fun b o n1 n2 q => (s2.2 b n2).trans ((s1.2 b n1).trans q)) ?_ ?_ ?_)
    · rw [hc2]
      congr 2
      apply Array.ext'
      rw [Array.toList_map, List.toList_toArray, List.map_map]
      exact List.map_congr_left fun p hm => (hmem p hm).2
    · have p1 := hp.perm.map fun p : Keyed => vA p.2
      have e2 : (keys.toList.zip (as.map Value.ref)).map (fun p : Keyed => vA p.2) = as := by
        have e3 : (fun p : Keyed => vA p.2) = vA ∘ (Prod.snd : Keyed → Value) := rfl
        rw [e3, ← List.map_map, List.map_snd_zip (by rw [List.length_map, Array.length_toList (xs := keys)]; omega), List.map_map]
        exact List.map_id' _ 
      rw [e2] at p1
      exact p1
    · refine List.pairwise_map.mpr (hs.imp_of_mem fun {x y} hx hy hxy => ?_)
      have q : decide (SrtO.iv y.1 < SrtO.iv x.1) = false := hxy
      have q := of_decide_eq_false q
      rw [← (hmem x hx).1, ← (hmem y hy).1]
      omega
  unfold ksk_end
  simp only [Bool.false_eq_true, if_false]
  by_cases h2 : (as.map Value.ref).toArray.size < 2
  · rw [if_pos h2, if_pos h2]
    refine wpAny_bind (wpAny_pure ?_)
    rw [StateT.run_pure]
    refine wpAny_bind (wpAny_pure ?_)
    try dsimp only
    refine fin (SortSt.mk' general' (keys.zip (as.map Value.ref).toArray) #[] 7 none) ?_ (SrtO.Stb.refl _) rfl
    show SrtO.Srtd _ (keys.zip (as.map Value.ref).toArray).toList
    have hl : (keys.zip (as.map Value.ref).toArray).toList.length < 2 := by
      rw [Array.length_toList, hzl]
      rw [List.size_toArray, List.length_map] at h2
      exact h2
    generalize (keys.zip (as.map Value.ref).toArray).toList = l at hl
    match l, hl with
    | [], _ => exact List.Pairwise.nil
    | [x], _ => exact List.pairwise_singleton _ _
  · rw [if_neg h2, if_neg h2]
    rw [List.size_toArray, List.length_map] at h2
    rw [ksk_kind hi (by rw [hsz]; omega)]
    refine wpAny_bind (wpAny_pure ?_)
    have hall : SrtO.AllL (fun p : Keyed => p.1 ∈ keys.toList) (keys.zip (as.map Value.ref).toArray).toList := fun p hm => by
      rw [hzs] at hm
      exact (List.of_mem_zip hm).1
    refine wpAny_bind (wpAny_mono (SrtO.wpS_sortO (st0 := SortSt.mk' oneType' (keys.zip (as.map Value.ref).toArray) #[] 7 none)
      (Q := fun _ st' => SrtO.Srtd (SrtO.lt2 SrtO.ltIv) (arrOf st').toList ∧ SrtO.Stb (SrtO.lt2 SrtO.ltIv) (arrOf st').toList (keys.zip (as.map Value.ref).toArray).toList ∧ failedOf st' = none) (SrtO.swo2 SrtO.swo_int) (SrtO.int_cmp hi) rfl hall rfl rfl fun st' a1 a2 a3 => ⟨a1, a2, a3⟩) ?_ fun _ _ e => e)
    rintro ⟨⟨⟩, st'⟩ s' ⟨rfl, hp1, hp2, hf⟩
    try dsimp only
    exact fin st' hp1 hp2 hf
end
section
variable {X : Cx} {pins : List (Addr × Obj)} {σ : L2.St} {H : Hp} {s : Shared} {f : Addr} {as : List Addr} {k : Addr → Int} {of : Obj}
/-- list.sort(key=f), in a def's context: a is a new list of the references as, not tracked -/
theorem srt_run {A2 : Around} {a : Addr} {n : Nat} {P : PySem.Fin → Shared → Prop} {E : Value → Shared → Prop} (I : Inv X pins σ H s) (hf : s.heap.get? f = some of) (hfn : H f = none) (fa : FpOk X pins H a) (haf : a ≠ f) (ho : s.heap.get? a = some (seqObj "list" (as.map Value.ref).toArray n)) (hz : as.length ≤ 16000000)
    (turn : ∀ (b : Addr) (s1 : Shared) (Q : Value → Shared → Prop) (E : Value → Shared → Prop), b ∈ as → Inv X pins σ H s1 → s1.heap.get? f = some of → (∀ t s2, Inv X pins σ H s2 → s2.heap.get? f = some of → (∀ c o, s1.heap.get? c = some o → H c = none → c ∉ frs X.stack → s2.heap.get? c = some o) → Q (.int (k b) t) s2) → wpAny (model X.prog X.w) A2 (call (.ref f) [.ref b]) Q E s1)
    (h : ∀ (s' : Shared) (out : List Addr) c, Inv X pins σ H s' → s'.heap.get? a = some (seqObj "list" (out.map Value.ref).toArray c) → out.Perm as → out.Pairwise (fun x y => k x ≤ k y) → P (.done (.ret .none)) s') :
    wpAny (model X.prog X.w) A2 (ksk_tree a (.ref f) false) P E s := by
  have hlen : (as.map Value.ref).toArray.size = as.length := by rw [List.size_toArray, List.length_map]
  have s1 := Heap.SameBut.update s.heap a (Obj.mapSeq fun _ => (#[] : Array Value))
  obtain ⟨e1, ho1⟩ : ∃ e1, (s.heap.update a (Obj.mapSeq fun _ => (#[] : Array Value))).get? a = some (seqObj "list" #[] e1) := ⟨_, get?_update_seq ho fun _ => #[]⟩
  have nfr : a ∉ frs X.stack := fp_nofr I fa
  unfold ksk_tree
  refine wpAny_bind (listItems_at ho rfl ?_)
  refine wpAny_bind (listUpdate_at ho rfl ?_ (by rw [hlen, sizeLine_eq]; omega) (Nat.zero_le _))
  refine wpAny_bind (seqEpoch_at ho1 rfl ?_)
  refine wpAny_bind (wpAny_newTuple ?_ (by show (as.map Value.ref).length ≤ _; rw [List.length_map, sizeLine_eq]; omega))
  refine wpAny_bind (wpAny_newList ?_ (Nat.zero_le _))
  refine wpAny_holding ?_
  have I1 : Inv X pins σ H { s with heap := s.heap.update a (Obj.mapSeq fun _ => (#[] : Array Value)) } := fp_turn (t' := s.toks) I fa fun b o n q => (s1.2 b n).trans q
  have I2 : Inv X pins σ H { s with heap := (s.heap.update a (Obj.mapSeq fun _ => (#[] : Array Value))).push (seqObj "tuple" (as.map Value.ref).toArray 0) } := I1.kept (t' := s.toks) fun b o q => Heap.get?_push_of_some _ q
  have I3 : Inv X pins σ H { s with heap := ((s.heap.update a (Obj.mapSeq fun _ => (#[] : Array Value))).push (seqObj "tuple" (as.map Value.ref).toArray 0)).push (seqObj "list" #[] 0) } := I2.kept (t' := s.toks) fun b o q => Heap.get?_push_of_some _ q
  have hne : ∀ b o, (s.heap.update a (Obj.mapSeq fun _ => (#[] : Array Value))).get? b = some o → ((s.heap.update a (Obj.mapSeq fun _ => (#[] : Array Value))).push (seqObj "tuple" (as.map Value.ref).toArray 0)).objs.size ≠ b := fun b o q => by
    rw [size_push']
    exact Nat.ne_of_gt (Nat.lt_succ_of_lt (Heap.lt_size q))
  generalize hks : ((s.heap.update a (Obj.mapSeq fun _ => (#[] : Array Value))).push (seqObj "tuple" (as.map Value.ref).toArray 0)).objs.size = kS
  have hkn : H kS = none := I2.hok.fresh (by rw [← hks]; exact Nat.le_refl _)
  have fk : FpOk X pins H kS := I2.fpOk (by rw [← hks]; exact Nat.le_refl _) hkn
  have nkr : kS ∉ frs X.stack := fp_nofr I fk
  have hkS : (((s.heap.update a (Obj.mapSeq fun _ => (#[] : Array Value))).push (seqObj "tuple" (as.map Value.ref).toArray 0)).push (seqObj "list" #[] 0)).get? kS = some (seqObj "list" #[] 0) := by rw [← hks]; exact Heap.get?_push_size _ rfl
  have hka : kS ≠ a := hks ▸ hne a _ ho1
  have hkf : kS ≠ f := hks ▸ hne f _ ((s1.2 f haf.symm).trans hf)
  have ha3 : (((s.heap.update a (Obj.mapSeq fun _ => (#[] : Array Value))).push (seqObj "tuple" (as.map Value.ref).toArray 0)).push (seqObj "list" #[] 0)).get? a = some (seqObj "list" #[] e1) := Heap.get?_push_of_some _ (Heap.get?_push_of_some _ ho1)
  have hf3 : (((s.heap.update a (Obj.mapSeq fun _ => (#[] : Array Value))).push (seqObj "tuple" (as.map Value.ref).toArray 0)).push (seqObj "list" #[] 0)).get? f = some of := Heap.get?_push_of_some _ (Heap.get?_push_of_some _ ((s1.2 f haf.symm).trans hf))
  show wpAny _ A2 (ksk_rest a (.ref f) false (as.map Value.ref).toArray e1 (.ref kS)) P E _
  unfold ksk_rest
  refine wpAny_bind (wpAny_rule ?_)
  first
    | rw [List.forIn_toArray]
    | (rw [← Array.forIn_toList]; simp only [List.toList_toArray])
    | rw [← Array.forIn_toList]
  refine wpAny_bind (ksk_fold (fun i s' => ∃ kA e, Inv X pins σ H s' ∧ s'.heap.get? f = some of ∧ s'.heap.get? a = some (seqObj "list" #[] e1) ∧ s'.heap.get? kS = some (seqObj "list" kA e) ∧ IntsAre kA.toList ((as.map k).take i)) (as.map Value.ref) 0 _
    ⟨#[], 0, I3, hf3, ha3, hkS, by simpa using IntsAre.nil⟩ ?step ?done)
  case step =>
    rintro j x s' hx ⟨kA, e, I', f', a', k', hi⟩
    simp only [Nat.zero_add] at hi ⊢
    rw [List.getElem?_map] at hx
    cases hb : as[j]? with
    | none => rw [hb] at hx; cases hx
    | some b =>
      rw [hb] at hx
      cases hx
      have hj : j < as.length := (List.getElem?_eq_some_iff.mp hb).1
      have hkl : kA.size ≤ as.length := by
        have h1 := hi.length
        rw [Array.length_toList, List.length_take, List.length_map] at h1
        omega
      refine wpAny_bind (wpAny_attempt (turn b s' _ _ (List.mem_of_getElem? hb) I' f' fun t s2 I2' f2 kp => ?_))
      try dsimp only
      have k2 := kp kS _ k' hkn nkr
      have a2 := kp a _ a' fa.1 nfr
      have sb := Heap.SameBut.update s2.heap kS (Obj.mapSeq (·.push (.int (k b) t)))
      obtain ⟨c2, hc2⟩ : ∃ c2, (s2.heap.update kS (Obj.mapSeq (·.push (.int (k b) t)))).get? kS = some (seqObj "list" (kA.push (.int (k b) t)) c2) := ⟨_, get?_update_seq k2 (·.push (.int (k b) t))⟩
      have ek : (as.map k).take (j + 1) = (as.map k).take j ++ [k b] := by rw [List.take_add_one, List.getElem?_map, hb]; simp
      have ea : (kA.push (Value.int (k b) t)).toList = kA.toList ++ [Value.int (k b) t] := by simp
      refine wpAny_bind (listUpdate_at k2 rfl ?_ (by rw [sizeLine_eq]; omega) (Nat.le_trans (Nat.le_of_eq (Array.size_push ..)) (by rw [sizeLine_eq]; omega)))
      exact wpAny_pure ⟨rfl, kA.push (.int (k b) t), c2, fp_turn (t' := s2.toks) I2' fk fun c o n q => (sb.2 c n).trans q, (sb.2 f hkf.symm).trans f2, (sb.2 a hka.symm).trans a2, hc2, by rw [ea, ek]; exact ksk_snoc hi⟩
  case done =>
    rintro s' ⟨kA, e, I', f', a', k', hi⟩
    have hi' : IntsAre kA.toList (as.map k) := by
      have e3 : (as.map k).take (0 + (as.map Value.ref).length) = as.map k := List.take_of_length_le (by simp)
      rw [e3] at hi
      exact hi
    try dsimp only
    refine wpAny_bind (listItems_at k' rfl ?_)
    refine srt_end k' a' hka hi' hz fun h' out c kp ho' hp hs => h _ out c ?_ ho' hp hs
    have Ia : Inv X pins σ H { s' with heap := h' } := by
      refine I'.step (g' := s'.gens) (d' := s'.drawn) (t' := s'.toks) (ch := [kS, a]) (fun b hb => ?_) (fun b o _ _ hb q _ => kp b o (fun z => hb (by rw [z]; exact List.mem_cons_self)) (fun z => hb (by rw [z]; exact List.mem_cons_of_mem _ List.mem_cons_self)) q) (fun b o _ _ hb q _ => ⟨o.slots, kp b o (fun z => hb (by rw [z]; exact List.mem_cons_self)) (fun z => hb (by rw [z]; exact List.mem_cons_of_mem _ List.mem_cons_self)) q⟩) (fun b o _ _ n => n)
        (fun b o hb q => ⟨o, kp b o (fun z => hb (by rw [z]; exact List.mem_cons_self)) (fun z => hb (by rw [z]; exact List.mem_cons_of_mem _ List.mem_cons_self)) q⟩) (fun _ _ q => q) (fun _ _ _ q => q) (fun b ps q => ⟨#[], by rw [q]; simp⟩) (fun m hm => ?_) (fun b u q => ?_) I'.bare
      · rcases List.mem_cons.mp hb with rfl | hb
        · exact ⟨fk.2.2.2.1, fk.2.1, fk.2.2.2.2.1, fk.2.2.2.2.2⟩
        · rw [List.mem_singleton.mp hb]; exact ⟨fa.2.2.2.1, fa.2.1, fa.2.2.2.2.1, fa.2.2.2.2.2⟩
      · obtain ⟨o, es, ep, ho2, r⟩ := hm
        exact ⟨o, es, ep, kp _ o (Ne.symm fk.2.1) (Ne.symm fa.2.1) ho2, r⟩
      · refine (I'.hok b u q).stay (fun c v hc y => kp c v (fun z => ?_) (fun z => ?_) y) (fun _ y => y) fun _ _ y => y
        · rcases hc with y | y
          · exact sn' hkn (z ▸ y ▸ q)
          · exact sn' hkn (z ▸ y)
        · rcases hc with y | y
          · exact sn' fa.1 (z ▸ y ▸ q)
          · exact sn' fa.1 (z ▸ y)
    exact Ia
end
/-! ### the expression -/
/-- rows of references, each a tuple or a list whose first item is k -/
def RowsK (K : PySem.W.Frag) (H : Hp) (as : List Addr) (k : Addr → Int) (tb : TE) (N : List Str) : Prop := ∀ a ∈ as, tb (L2.start N [.ref a]) H fun z H' => z = .int (k a) ∧ H' = H
def SrtC (K : PySem.W.Frag) (T : List (Addr × Str)) (N : List Str) (tb : TE) (Q : VK) (v : V) (H1 : Hp) : Prop := LamX.Tabs T H1 ∧ ∃ (l : Addr) (as : List Addr) (k : Addr → Int), v = .ref l ∧ SqL K H1 l (as.map V.ref) ∧ as.length ≤ 16000000 ∧
  ∀ H2, LamX.ExtN H1 H2 → LamX.Tabs T H2 → RowsK K H2 as k tb N ∧ ∀ (p : Addr) (out : List Addr), H2 p = none → out.Perm as → out.Pairwise (fun x y => k x ≤ k y) → Q (.ref p) (upd H2 p (.lst (out.map V.ref)))
def tSrt (K : PySem.W.Frag) (T : List (Addr × Str)) (N : List Str) (te tb : TE) : TE := fun σ H Q => te σ H fun v H1 => ∃ v', [v] = [v'] ∧ SrtC K T N tb Q v' H1
theorem vals_refs : ∀ {as : List Addr} {us : List Value}, Vals (as.map V.ref) us → us = as.map Value.ref
  | [], us, h => by cases h; rfl
  | a :: as, us, h => by
    cases h with
    | cons r t =>
      cases r
      rw [vals_refs t]
      rfl
theorem refs_vals : ∀ as : List Addr, Vals (as.map V.ref) (as.map Value.ref)
  | [] => .nil
  | a :: as => .cons rfl (refs_vals as)
section
variable {X : Cx}
theorem pe_sortK {T : List (Addr × Str)} {c P : Addr} {k0 : Nat} {a : Str} {N : List Str} {e : Expr} {te tb : TE} {params : Arguments} {body : Expr} {scope : Scope} {p lpos kpos pos : Pos} (hg : Gl X "sorted") (hm : X.mg "sorted" = none) (he : PE X e te) (TB : LamX.TabB X.base X.mg c P) (hcode : X.env.code = .ref c) (hmT : (P, X.env.qual ++ "<lambda>") ∈ T)
    (hu : ∀ p ∈ T, p.1 = P → p.2 = X.env.qual ++ "<lambda>") (hr : Room (k0 + 3) X.A) (Sg : FnScope N [a] scope) (hcl : ∀ cs : List (Str × Addr), cloFrom cs scope.names [] = []) (hnf : ∀ y ∈ scope.names, y.2 ≠ .free) (hdef : defaultsOf params X.env = ([], []))
    (hbind : ∀ (q : Str) (pm cv ctv u : Value), bindArgs (PySem.W.kla_fn "<lambda>" q params body scope [] pm cv ctv) ⟨[u], []⟩ = pure [(a, u)])
    (hbody : ∀ (A : Around) (f c' : Addr) (s' : Shared) (H : Hp), Room k0 (A.deeper (envOfC (X.env.qual ++ "<lambda>") scope s'.heap.objs.size f (.ref c'))) → PE (cxOf C8.CX0 X.prog X.w X.K X.mg X.base N (X.env.qual ++ "<lambda>") scope f (.ref c') A X.stack s' H C8.E0) body tb)
    (h1 : backTo pos (starEach (e :: []) X.env) = (false, eval e X.env) :: backTo pos (starEach [] X.env) := by rfl) (hpl : (backTo pos (starEach (e :: []) X.env)).any (·.1) = false := by rfl) (hs : starEach (e :: []) X.env = (false, eval e X.env) :: starEach [] X.env := by rfl)
    (hdb : ("sorted" : Str) ≠ "__name__" := by decide) (hdb2 : (("sorted" : Str) == ("__debug__" : Str)) = false := by decide) :
    PE X (.Call (.Name "sorted" p) [e] [⟨some "key", .Lambda params body scope lpos, kpos⟩] pos) (tSrt X.K T N te tb) := by
  refine ⟨fun pins s σ H Q I h => ?_⟩
  refine wpAny_Call_Name_kw (ld_blt I hg hm (by decide +kernel : bootBuiltins "sorted" = some (.builtin "sorted")) ?_ hdb hdb2)
  refine PyProof.Rows.callWith_kw (kws := [⟨some "key", .Lambda params body scope lpos, kpos⟩]) (thn ((pa_cons he pa_nil hs).run pos pins s σ H (fun vs H1 => ∃ v, vs = [v] ∧ SrtC X.K T N tb Q v H1) I h) fun us s1 ⟨vs, H1, I1, r1, q1⟩ => ?_) h1 hpl
  obtain ⟨v, rfl, hT, l, as, k, rfl, hl, hz, q⟩ := q1
  cases r1 with
  | cons r r' =>
  cases r'
  cases r
  -- the lambda
  show wpAny _ _ (evalAll ((do let v ← eval (.Lambda params body scope lpos) X.env; standAt pos; pure v) :: [])) _ _ s1
  refine wpAny_evalAll_cons (wpAny_bind ?_)
  refine LamX.lam_make2 I1 TB hcode hmT hu hT hdef (fun y hy e => absurd e (hnf y hy)) fun f c' pm ctv H2 s2 I2 eN hT2 hf hfn hfr hco => ?_
  rw [hcl] at hf
  refine wpAny_bind (wpAny_standAt (wpAny_pure ?_))
  refine wpAny_evalAll_nil ?_
  obtain ⟨rows, q⟩ := q H2 eN hT2
  have hl2 : SqL X.K H2 l (as.map V.ref) := exn_l eN hl
  show wpAny _ _ (call (.builtin "sorted") [.ref l] [(Str.ofString "key", .ref f)]) _ _ s2
  obtain ⟨its, rv, hil, hsz⟩ := I2.list hl2
  obtain rfl := vals_refs rv
  refine call_function_entry_kw kind_sorted plain_sorted entry_sorted (PyProof.Rows.ksk_s1 _ _) ?_
  unfold Builtin.«sorted»
  refine wpAny_bind (m := checkCount "sorted" 1 1 _) (wpAny_pure ?_)
  refine wpAny_bind (collect_list hil.isList ?_ (by show (as.map Value.ref).length ≤ _; rw [List.length_map, sizeLine_eq]; omega))
  refine wpAny_bind (wpAny_newList ?_ (by show (as.map Value.ref).length ≤ _; rw [List.length_map, sizeLine_eq]; omega))
  have hL0 : ((s2.heap.push (seqObj "list" #[] 0)).update s2.heap.objs.size (Obj.mapSeq (· ++ (as.map Value.ref).toArray))).objs.size = s2.heap.objs.size + 1 := by rw [Heap.size_update, size_push']
  have hoL : (((s2.heap.push (seqObj "list" #[] 0)).update s2.heap.objs.size (Obj.mapSeq (· ++ (as.map Value.ref).toArray))).push (seqObj "list" (as.map Value.ref).toArray 0)).get? (s2.heap.objs.size + 1) = some (seqObj "list" (as.map Value.ref).toArray 0) := by
    rw [← hL0]; exact Heap.get?_push_size _ rfl
  have keep : ∀ b o, s2.heap.get? b = some o → (((s2.heap.push (seqObj "list" #[] 0)).update s2.heap.objs.size (Obj.mapSeq (· ++ (as.map Value.ref).toArray))).push (seqObj "list" (as.map Value.ref).toArray 0)).get? b = some o := fun b o q => by
    have hlt : b < s2.heap.objs.size := Heap.lt_size q
    rw [Heap.get?_push_ne _ _ _ (by rw [hL0]; exact Nat.ne_of_lt (Nat.lt_succ_of_lt hlt)), Heap.get?_update_ne _ _ _ _ (Nat.ne_of_lt hlt), Heap.get?_push_ne _ _ _ (Nat.ne_of_lt hlt)]
    exact q
  show wpAny _ _ _ _ _ { s2 with heap := ((s2.heap.push (seqObj "list" #[] 0)).update s2.heap.objs.size (Obj.mapSeq (· ++ (as.map Value.ref).toArray))).push (seqObj "list" (as.map Value.ref).toArray 0) }
  rw [hL0]
  have hLn : H2 (s2.heap.objs.size + 1) = none := I2.hok.fresh (Nat.le_succ _)
  have fL : FpOk X pins H2 (s2.heap.objs.size + 1) := I2.fpOk (Nat.le_succ _) hLn
  refine wpAny_bind (wpAny_holding (wpAny_call_entry_kw slot_list_sort ⟨_, hoL, rfl⟩ entry_list_sort ?body (PyProof.Rows.ksk_l1 _ _)))
  case body =>
    rw [PyProof.Rows.ksk_t1]
    refine srt_run (k := k) (as := as) (of := lamO (X.env.qual ++ "<lambda>") params body scope pm c' ctv) (I2.kept (t' := s2.toks) keep) (keep f _ hf) hfn fL (Nat.ne_of_gt (Nat.lt_succ_of_lt (Heap.lt_size hf))) hoL hz (fun b s3 Q3 E3 hb I3 f3 hq => ?_) fun s' out c J ho' hp hs' => ⟨_, rfl, ?_⟩
    · exact key_call (k := k0) (v := .ref b) (tb := tb) (N := N) I3 I2.ok.frames hr.in1.in1 f3 hfn hfr hco Sg (fun u => hbind _ _ _ _ u) rfl (fun s4 r4 => hbody _ f c' s4 H2 r4) (rows b hb) fun t s4 I4 f4 k4 => hq t s4 I4 f4 k4
    · refine wpAny_pure ⟨_, rfl, ?_⟩
      refine ⟨.ref _, _, adopt (o := .lst (out.map V.ref)) J fL ⟨by rw [List.length_map, hp.length_eq, sizeLine_eq]; omega, out.map Value.ref, c, refs_vals out, ho'⟩, rfl, q _ out hLn hp hs'⟩
end
end Srk
/-! the pure layer: little steps, encoders, sorting -/
namespace Pu
open PySem PySem.Spec PyProof.Rows L2 Evl Lay
/-- an int or None -/
@[reducible] def oI : Option Int → D
  | none => .non | some i => .int i
abbrev PN : Type := List D → (List D → Prop) → (Er → Prop) → Prop
theorem isB {b : Bool} {P : Bool → Prop} (h : P b) : ∃ c, D.bl b = .bl c ∧ P c := ⟨b, rfl, h⟩
theorem isI {i : Int} {P : Int → Prop} (h : P i) : ∃ c, D.int i = .int c ∧ P c := ⟨i, rfl, h⟩
theorem isL {ds : List D} {P : List D → Prop} (h : P ds) : ∃ c, D.lst ds = .lst c ∧ P c := ⟨ds, rfl, h⟩
theorem isT {ds : List D} {P : List D → Prop} (h : P ds) : ∃ c, D.tup ds = .tup c ∧ P c := ⟨ds, rfl, h⟩
theorem isI1 {i : Int} {P : Int → Prop} (h : P i) : ∃ c, [D.int i] = [.int c] ∧ P c := ⟨i, rfl, h⟩
theorem isI2 {i j : Int} {P : Int → Int → Prop} (h : P i j) : ∃ a b, [D.int i, D.int j] = [.int a, .int b] ∧ P a b := ⟨i, j, rfl, h⟩
theorem isL1 {ds : List D} {P : List D → Prop} (h : P ds) : ∃ c, [D.lst ds] = [.lst c] ∧ P c := ⟨ds, rfl, h⟩
theorem isP2 {x y : D} {P : D → D → Prop} (h : P x y) : ∃ a b, [x, y] = [a, b] ∧ P a b := ⟨x, y, rfl, h⟩
theorem tupN {ds : List D} {P : Prop} (h : ds.length.ble 1000 = true) (p : P) : ds.length.ble 1000 = true ∧ P := ⟨h, p⟩
section
variable {X : Cx} {env : List Sl} {N Bk Ct : List Sl → Prop} {R : Bool → D → Prop} {g : TG} {tr : TA} {wi : TI} {tt : TT} {te ta tb : TE} {vs : List Nat} {r : V → Option Int → Option Int → Hp → VK → Prop} {tl tu : TO} {K : PySem.W.Frag} {Pb : Bool → Prop} {P : D → Prop} {Pl : List D → Prop} {n : Nat} {p : Addr} {ds : List D}
theorem stop_nm (h : SX X env (tAsg te (gName n)) N R Bk Ct) : SX X env (tAsg te (gName n)) N R Bk Ct := h
theorem stop_retN {Rl : List D → Prop} (h : SX X env (tRet te) N (fun b d => b = true ∧ ∃ xs, d = .lst xs ∧ Rl xs) Bk Ct) : SX X env (tRet te) N (fun b d => b = true ∧ ∃ xs, d = .lst xs ∧ Rl xs) Bk Ct := h
theorem retN_ok {xs : List D} {Rl : List D → Prop} (h : Rl xs) : true = true ∧ ∃ ys, D.lst xs = .lst ys ∧ Rl ys := ⟨rfl, xs, rfl, h⟩
theorem stop_if {ts tu : TS} (h : SX X env (tIfS tt ts tu) N R Bk Ct) : SX X env (tIfS tt ts tu) N R Bk Ct := h
theorem stop_eif (h : EV X env (tIf tt ta tb) P) : EV X env (tIf tt ta tb) P := h
theorem ev_mid (P' : D → Prop) (h : EV X env te P') (k : ∀ d, P' d → P d) : EV X env te P := fun gd W G σ H Q S er q => h gd W G σ H Q S er fun W' G' v H' d p e dv => q W' G' v H' d (k d p) e dv
theorem stop_aif {g : TG} (h : SX X env (tAsg (tIf tt ta tb) g) N R Bk Ct) : SX X env (tAsg (tIf tt ta tb) g) N R Bk Ct := h
theorem ef_mid (P' : List D → Prop) (h : EF X env te P') (k : ∀ d, P' d → Pl d) : EF X env te Pl := fun gd W G σ H Q S er q => h gd W G σ H Q S er fun W' G' v H' d p e dv => q W' G' v H' d (k d p) e dv
theorem stop_lst (h : SX X env (tAsg (tLst tr) g) N R Bk Ct) : SX X env (tAsg (tLst tr) g) N R Bk Ct := h
theorem stop_lc {g2 : TG} (h : SX X env (tAsg (tLc wi g2 tt te vs) g) N R Bk Ct) : SX X env (tAsg (tLc wi g2 tt te vs) g) N R Bk Ct := h
theorem stop_sl (h : SX X env (tAsg (tSl r te tl tu) g) N R Bk Ct) : SX X env (tAsg (tSl r te tl tu) g) N R Bk Ct := h
theorem stop_cb (h : SX X env (tAsg (tCB (Lay.rList K) tr) g) N R Bk Ct) : SX X env (tAsg (tCB (Lay.rList K) tr) g) N R Bk Ct := h
theorem stop_ct (h : SX X env (tAsg (tOp rCat ta tb) g) N R Bk Ct) : SX X env (tAsg (tOp rCat ta tb) g) N R Bk Ct := h
theorem stop_rp (h : SX X env (tAsg (tOp rRep ta tb) g) N R Bk Ct) : SX X env (tAsg (tOp rRep ta tb) g) N R Bk Ct := h
theorem tv_yes (h : Pb true) : TV X env tYes Pb := fun gd W G σ H Q S er q => q W G true H h (.refl S.t)
/-- o[i], o owned -/
theorem ev_ixO (e : env[n]? = some (.own p (.l ds))) (h : EV X env te fun x => ∃ i d, x = .int i ∧ atD ds i = some d ∧ P d) : EV X env (tOp (rIxL X.c.K) (tVar n) te) P := fun gd W G σ H Q S er q => by
  refine ⟨_, S.sl n _ e, ?_⟩
  refine h gd W G σ H _ S er fun W1 G1 v H1 x ⟨i, d, hx, ha, hp⟩ e1 d1 => ?_
  subst hx
  cases d1
  obtain ⟨vs, o1, o2⟩ := ((S.step e1).ow n p _ e).at_
  obtain ⟨z, h1, h2⟩ := dva_at o2 ha
  exact ⟨p, vs, i, z, rfl, rfl, L2.SqL.of o1, h1, q W1 G1 z H1 d hp e1 h2⟩
theorem ev_ixOLast {d : D} (e : env[n]? = some (.own p (.l (ds ++ [d])))) (h : P d) : EV X env (tOp (rIxL X.c.K) (tVar n) (tUn (rU fun i => V.int (-i)) (tC (.int 1)))) P := ev_ixO e (ev_un (ev_int (up_I (P := fun x => ∃ i d', x = .int i ∧ _ ∧ _) ⟨-1, d, rfl, atD_last, h⟩)))
theorem ev_ixOm {α : Type} [Inhabited α] {xs : List α} {f : α → D} (e : env[n]? = some (.own p (.l (xs.map f)))) (h : EV X env te fun x => ∃ i : Int, x = .int i ∧ (0 ≤ i ∧ i < xs.length) ∧ P (f (gA xs i))) : EV X env (tOp (rIxL X.c.K) (tVar n) te) P := ev_ixO e fun gd W G σ H Q S er q => h gd W G σ H Q S er fun W' G' v H' d ⟨i, hi, b, k⟩ e1 d1 => q W' G' v H' d ⟨i, _, hi, atD_map b.1 b.2, k⟩ e1 d1
end
/-! ### branches -/
theorem isIte {c : Prop} {i : Decidable c} {A B : Prop} (h : @ite Prop c i A B) : @ite Prop c i A B := h
theorem iteT' {i : Decidable (true = true)} {A B : Prop} (h : A) : @ite Prop (true = true) i A B := by rw [if_pos rfl]; exact h
theorem iteF' {i : Decidable (false = true)} {A B : Prop} (h : B) : @ite Prop (false = true) i A B := by rw [if_neg Bool.false_ne_true]; exact h
theorem iteB {b : Bool} {i : Decidable (b = true)} {A B : Prop} (h1 : b = true → A) (h2 : b = false → B) : @ite Prop (b = true) i A B := by
  cases b with
  | true => exact iteT' (h1 rfl)
  | false => exact iteF' (h2 rfl)
theorem iteP {P : Prop} {d : Decidable P} {i : Decidable (@decide P d = true)} {A B : Prop} (h1 : P → A) (h2 : ¬ P → B) : @ite Prop (@decide P d = true) i A B := iteB (fun h => h1 (of_decide_eq_true h)) (fun h => h2 (of_decide_eq_false h))
theorem iteN {P : Prop} {d : Decidable P} {i : Decidable ((!@decide P d) = true)} {A B : Prop} (h1 : ¬ P → A) (h2 : P → B) : @ite Prop ((!@decide P d) = true) i A B := iteB (fun h => h1 (of_decide_eq_false (by simpa using h))) (fun h => h2 (of_decide_eq_true (by simpa using h)))
theorem iteYes {P : Prop} {d : Decidable P} {i : Decidable (@decide P d = true)} {A B : Prop} (h : P) (q : A) : @ite Prop (@decide P d = true) i A B := iteP (fun _ => q) fun c => (c h).elim
theorem iteNo {P : Prop} {d : Decidable P} {i : Decidable (@decide P d = true)} {A B : Prop} (h : ¬ P) (q : B) : @ite Prop (@decide P d = true) i A B := iteP (fun c => (h c).elim) fun _ => q
theorem iteYesN {P : Prop} {d : Decidable P} {i : Decidable ((!@decide P d) = true)} {A B : Prop} (h : ¬ P) (q : A) : @ite Prop ((!@decide P d) = true) i A B := iteN (fun _ => q) fun c => (h c).elim
theorem iteNoN {P : Prop} {d : Decidable P} {i : Decidable ((!@decide P d) = true)} {A B : Prop} (h : P) (q : B) : @ite Prop ((!@decide P d) = true) i A B := iteN (fun c => (c h).elim) fun _ => q
theorem isN_none : isN (oI none) = true := rfl
/-! ### a target that takes a tuple or a list -/
def gSq (K : PySem.W.Frag) (n : Nat) (t : TGs) : TG := fun v σ H Q => gTup K n t v σ H Q ∨ gUnl K n t v σ H Q
theorem pg_sq {X : L2.Cx} {es : List Expr} {k : Nat} {t : TGs} {n : Nat} {pos : Pos} (hc : X.calm = true) (h : PGs X es t) (hn : (assignEach es X.env).length = n := by rfl) (hst : (assignEach es X.env).findIdx? (·.1) = none := by rfl) : PG X (.Tuple es k pos) (gSq X.K n t) := ⟨fun pins s σ H v u Q I r q => q.elim (fun q => (pg_tup hc h hn hst).run pins s σ H v u Q I r q) fun q => (pg_unl hc h hn hst).run pins s σ H v u Q I r q⟩
theorem gp_sqT {X : Pu.Cx} {env : List Sl} {ds : List D} {N : List Sl → Prop} {gs : TGs} {n : Nat} (l : ds.length = n) (h : GPs X env gs ds N) : GP X env (gSq X.c.K n gs) (.tup ds) N := gp_or1 (gp_tup l h)
theorem gp_sqL {X : Pu.Cx} {env : List Sl} {ds : List D} {N : List Sl → Prop} {gs : TGs} {n : Nat} (l : ds.length = n) (h : GPs X env gs ds N) : GP X env (gSq X.c.K n gs) (.lst ds) N := gp_or2 (gp_unl l h)
/-! ### slots, written out -/
class SetC (n : Nat) (s : Sl) (e : List Sl) (e' : outParam (List Sl)) : Prop where
  eq : e.set n s = e'
instance SetC.z {s t : Sl} {e : List Sl} : SetC 0 s (t :: e) (s :: e) := ⟨rfl⟩
instance SetC.s {n : Nat} {s t : Sl} {e e' : List Sl} [h : SetC n s e e'] : SetC (n + 1) s (t :: e) (t :: e') := ⟨by rw [List.set_cons_succ, h.eq]⟩
class FrzC (e : List Sl) (e' : outParam (List Sl)) : Prop where
  eq : e.map frz = e'
instance FrzC.nil : FrzC [] [] := ⟨rfl⟩
instance FrzC.d {x : D} {e e' : List Sl} [h : FrzC e e'] : FrzC (.d x :: e) (.d x :: e') := ⟨by rw [List.map_cons, h.eq]; rfl⟩
instance FrzC.no {e e' : List Sl} [h : FrzC e e'] : FrzC (.no :: e) (.no :: e') := ⟨by rw [List.map_cons, h.eq]; rfl⟩
instance FrzC.l {p : Addr} {ds : List D} {e e' : List Sl} [h : FrzC e e'] : FrzC (.own p (.l ds) :: e) (.d (.lst ds) :: e') := ⟨by rw [List.map_cons, h.eq]; rfl⟩
instance FrzC.o {p C : Addr} {fs : List (Str × D)} {e e' : List Sl} [h : FrzC e e'] : FrzC (.own p (.o C fs) :: e) (.d (.obj C fs) :: e') := ⟨by rw [List.map_cons, h.eq]; rfl⟩
/-- an unknown slot -/
instance (priority := low) FrzC.x {s : Sl} {e e' : List Sl} [h : FrzC e e'] : FrzC (s :: e) (frz s :: e') := ⟨by rw [List.map_cons, h.eq]⟩
class FrzA (n : Nat) (e : List Sl) (e' : outParam (List Sl)) : Prop where
  eq : (e.mapIdx fun i s => if (decide (i = n)) = true then frz s else s) = e'
instance FrzA.z {p : Addr} {ds : List D} {e : List Sl} : FrzA 0 (.own p (.l ds) :: e) (.d (.lst ds) :: e) := ⟨by
    rw [List.mapIdx_cons]
    congr 1
    apply List.ext_getElem?
    intro i
    rw [List.getElem?_mapIdx]
    cases e[i]? <;> simp⟩
instance FrzA.s {n : Nat} {t : Sl} {e e' : List Sl} [h : FrzA n e e'] : FrzA (n + 1) (t :: e) (t :: e') := ⟨by
    rw [List.mapIdx_cons, ← h.eq]
    simp⟩
/-- slots wiped -/
class WipC (vs : List Nat) (e : List Sl) (e' : outParam (List Sl)) : Prop where
  eq : wipeE e vs = e'
instance WipC.nil {e : List Sl} : WipC [] e e := ⟨rfl⟩
instance WipC.cons {v : Nat} {vs : List Nat} {e e' e2 : List Sl} [h : WipC vs e e'] [k : SetC v .no e' e2] : WipC (v :: vs) e e2 := ⟨by rw [wipeE, h.eq, k.eq]⟩
def SetN (n : Nat) (s : Sl) (env : List Sl) (N : List Sl → Prop) : Prop := N (env.set n s)
theorem setN {n : Nat} {s : Sl} {env e : List Sl} {N : List Sl → Prop} [l : SetC n s env e] (h : N e) : SetN n s env N := by unfold SetN; rw [l.eq]; exact h
/-- a test, what is owned read as data -/
def TVF (X : Cx) (env : List Sl) (tt : TT) (P : Bool → Prop) : Prop := TV X (env.map frz) tt P
theorem tvf {X : Cx} {env env' : List Sl} {tt : TT} {P : Bool → Prop} [f : FrzC env env'] (h : TV X env' tt P) : TVF X env tt P := by unfold TVF; rw [f.eq]; exact h
section
variable {X : Cx} {env env' : List Sl} {N Bk Ct : List Sl → Prop} {R : Bool → D → Prop} {te ta tb ti : TE} {tr : TA} {tt : TT} {ts tu : TS} {n i j : Nat} {p : Addr} {ds : List D} {x : D} {P : D → Prop} {Pb : Bool → Prop}
theorem gp_name' (h : SetN n (.d x) env N) : GP X env (gName n) x N := gp_name h
theorem sx_set' (h : EV X env te fun d => SetN n (.d d) env N) : SX X env (tAsg te (gName n)) N R Bk Ct := sx_set h
theorem sx_own' (h : EF X env te fun ds => ∀ p, SetN n (.own p (.l ds)) env N) : SX X env (tAsg te (gName n)) N R Bk Ct := sx_own h
theorem sx_if' [f : FrzC env env'] (h : TV X env' tt fun b => if b = true then SX X env ts N R Bk Ct else SX X env tu N R Bk Ct) : SX X env (tIfS tt ts tu) N R Bk Ct := sx_if (by rw [f.eq]; exact h)
theorem sx_app' (e : env[n]? = some (.own p (.l ds))) (h : EV X env te fun d => ds.length < 16000000 ∧ SetN n (.own p (.l (ds ++ [d]))) env N) : SX X env (tDrop (tBM X.c.K "list" rAppend (tVar n) (tCons te tNil))) N R Bk Ct := sx_app e h
theorem sx_augI' {f : Int → Int → Int} {k : Int} (e : env[n]? = some (.d (.int k))) (h : EV X env te fun d => ∃ l, d = .int l ∧ SetN n (.d (.int (f k l))) env N) : SX X env (tAug n te (ipI f)) N R Bk Ct := sx_augI (l := 0) e h
theorem sx_par' (h : EA X env tr fun ds => ∃ a b, ds = [a, b] ∧ SetN i (.d a) env fun e => SetN j (.d b) e N) : SX X env (tPar i j tr) N R Bk Ct := sx_par h
theorem gx_sub' {k : Nat} (e : env[n]? = some (.own p (.l ds))) (h : EV X env ti fun d => ∃ i : Int, d = .int i ∧ ((0 ≤ i ∧ i = k ∧ k < ds.length) ∨ (i < 0 ∧ i + ds.length = k ∧ k < ds.length)) ∧ SetN n (.own p (.l (ds.set k x))) env N) : GX X env (gSub (tVar n) ti rSetL) x N := gx_sub (k := fun _ => k) e h
/-- xs[-1] = x -/
theorem gx_subLast {d : D} (e : env[n]? = some (.own p (.l (ds ++ [d])))) (h : SetN n (.own p (.l (ds ++ [x]))) env N) : GX X env (gSub (tVar n) (tUn (rU fun i => V.int (-i)) (tC (.int 1))) rSetL) x N := gx_sub (k := fun _ => ds.length) e (ev_un (ev_int (up_I (P := fun d => ∃ i : Int, d = .int i ∧ _) ⟨-1, rfl, .inr ⟨by omega, by rw [List.length_append, List.length_singleton]; omega, by simp⟩, by
  have e2 : (ds ++ [d]).set ds.length x = ds ++ [x] := by rw [List.set_append_right _ _ (Nat.le_refl _), Nat.sub_self]; rfl
  rw [e2]
  exact h⟩)))
theorem sx_frz' (n : Nat) [f : FrzA n env env'] (h : SX X env' ts N R Bk Ct) : SX X env ts N R Bk Ct := sx_frz (fun i => decide (i = n)) (by rw [f.eq]; exact h)
theorem ev_frz' [f : FrzC env env'] (h : EV X env' te fun d => d.imm ∧ P d) : EV X env te P := ev_frz (by rw [f.eq]; exact h)
theorem sx_mid (N' : List Sl → Prop) (h : SX X env ts N' R Bk Ct) (k : ∀ e, N' e → N e) : SX X env ts N R Bk Ct := sx_imp h k (fun _ _ h => h) (fun _ h => h) (fun _ h => h)
theorem sx_forget' (n : Nat) [l : SetC n .no env env'] (h : SX X env' ts N R Bk Ct) : SX X env ts N R Bk Ct := sx_forget (by rw [l.eq]; exact h)
/-- while, its test on what is frozen -/
theorem sx_while' (I : Nat → List Sl → Prop) (m0 : Nat) (h0 : I m0 env) (hs : ∀ m e, I m e → TVF X e tt fun b => if b = true then SX X e ts (fun e' => ∃ m', m' < m ∧ I m' e') R N (fun e' => ∃ m', m' < m ∧ I m' e') else N e) : SX X env (tWhile tt ts) N R Bk Ct :=
  sx_while I m0 h0 fun m e hI => hs m e hI
end
/-! ### loops, what is behind and what comes -/
section
variable {X : Cx} {env : List Sl} {N : List Sl → Prop} {R : Bool → D → Prop} {g : TG} {ts : TS}
theorem eachD {ds : List D} (I : List D → List Sl → Prop) (h0 : I [] env) (hs : ∀ pre x post e, ds = pre ++ x :: post → I pre e → GX X e g x fun e' => SX X e' ts (I (pre ++ [x])) R N (I (pre ++ [x]))) (hn : ∀ e, I ds e → N e) : ∃ J : Nat → List Sl → Prop, J 0 env ∧ (∀ i x e, ds[i]? = some x → J i e → GX X e g x fun e' => SX X e' ts (J (i + 1)) R N (J (i + 1))) ∧ ∀ e, J ds.length e → N e := by
  refine ⟨fun i e => I (ds.take i) e, h0, fun i x e hx hi => ?_, fun e h => hn e (by simpa only [List.take_length] using h)⟩
  have hl : i < ds.length := by
    by_cases c : i < ds.length
    · exact c
    · rw [List.getElem?_eq_none (by omega)] at hx; cases hx
  have e1 : ds = ds.take i ++ x :: ds.drop (i + 1) := by
    rw [List.getElem?_eq_getElem hl] at hx
    cases hx
    rw [← List.drop_eq_getElem_cons hl, List.take_append_drop]
  have e2 : ds.take (i + 1) = ds.take i ++ [x] := by rw [List.take_add_one, hx]; rfl
  simp only [e2]
  exact hs _ x _ e e1 hi
theorem eachL {α : Type} {xs : List α} {f : α → D} (I : List α → List Sl → Prop) (h0 : I [] env) (hs : ∀ pre x post e, xs = pre ++ x :: post → I pre e → GX X e g (f x) fun e' => SX X e' ts (I (pre ++ [x])) R N (I (pre ++ [x]))) (hn : ∀ e, I xs e → N e) : ∃ J : Nat → List Sl → Prop, J 0 env ∧ (∀ i x e, (xs.map f)[i]? = some x → J i e → GX X e g x fun e' => SX X e' ts (J (i + 1)) R N (J (i + 1))) ∧ ∀ e, J (xs.map f).length e → N e := by
  refine ⟨fun i e => I (xs.take i) e, h0, fun i d e hx hi => ?_, fun e h => hn e (by simpa only [List.length_map, List.take_length] using h)⟩
  rw [List.getElem?_map] at hx
  have hl : i < xs.length := by
    by_cases c : i < xs.length
    · exact c
    · rw [List.getElem?_eq_none (by omega)] at hx; cases hx
  rw [List.getElem?_eq_getElem hl] at hx
  cases hx
  have e1 : xs = xs.take i ++ xs[i] :: xs.drop (i + 1) := by rw [← List.drop_eq_getElem_cons hl, List.take_append_drop]
  have e2 : xs.take (i + 1) = xs.take i ++ [xs[i]] := by rw [List.take_add_one, List.getElem?_eq_getElem hl]; rfl
  simp only [e2]
  exact hs _ _ _ e e1 hi
/-- for j in range(lo, hi) -/
theorem eachR {lo hi : Int} (l : lo ≤ hi) (I : Int → List Sl → Prop) (h0 : I lo env) (hs : ∀ j e, lo ≤ j → j < hi → I j e → GX X e g (.int j) fun e' => SX X e' ts (I (j + 1)) R N (I (j + 1))) (hn : ∀ e, I hi e → N e) : ∃ J : Nat → List Sl → Prop, J 0 env ∧ (∀ i x e, (rgD lo hi)[i]? = some x → J i e → GX X e g x fun e' => SX X e' ts (J (i + 1)) R N (J (i + 1))) ∧ ∀ e, J (rgD lo hi).length e → N e := by
  refine ⟨fun i e => I (lo + (i : Nat)) e, by simpa using h0, fun i d e hx hi' => ?_, fun e h => hn e ?_⟩
  · unfold rgD at hx
    rw [List.getElem?_map] at hx
    by_cases c : i < (hi - lo).toNat
    · rw [List.getElem?_range c] at hx
      cases hx
      have := hs (lo + (i : Nat)) e (by omega) (by omega) hi'
      rw [Int.add_assoc] at this
      exact this
    · rw [List.getElem?_eq_none (by simpa using c)] at hx; cases hx
  · unfold rgD at h
    simp only [List.length_map, List.length_range] at h
    rw [show lo + ((hi - lo).toNat : Int) = hi by omega] at h
    exact h
/-- range(lo, hi) with nothing in it -/
theorem eachR0 {lo hi : Int} (l : hi ≤ lo) (h : N env) : ∃ J : Nat → List Sl → Prop, J 0 env ∧ (∀ i x e, (rgD lo hi)[i]? = some x → J i e → GX X e g x fun e' => SX X e' ts (J (i + 1)) R N (J (i + 1))) ∧ ∀ e, J (rgD lo hi).length e → N e := by
  have e0 : rgD lo hi = [] := by unfold rgD; rw [show (hi - lo).toNat = 0 by omega]; rfl
  rw [e0]
  exact ⟨fun _ e => e = env, rfl, fun i x e hx _ => by simp at hx, fun e he => by rw [he]; exact h⟩
end
/-! ### encoders -/
class En {α : Type} (f : α → D) (k : outParam Nat) : Prop where
  p : ∀ x, pl (f x) = true
  t : ∀ x, dpt (f x) ≤ k
  n : ∀ x, nb (f x) = true
section
variable {α β : Type} {f : α → D} {k : Nat}
theorem En.cn (e : En f k) (h : k ≤ 60) (x : α) : Cn (f x) := ⟨e.p x, Nat.le_trans (e.t x) h, e.n x⟩
theorem pls_map (h : ∀ x, pl (f x) = true) : ∀ xs : List α, pls (xs.map f) = true
  | [] => rfl
  | x :: xs => by rw [List.map_cons, pls, h x, pls_map h xs]; rfl
theorem nbs_map (h : ∀ x, nb (f x) = true) : ∀ xs : List α, nbs (xs.map f) = true
  | [] => rfl
  | x :: xs => by rw [List.map_cons, nbs, h x, nbs_map h xs]; rfl
theorem dpts_map (h : ∀ x, dpt (f x) ≤ k) : ∀ xs : List α, dpts (xs.map f) ≤ k
  | [] => Nat.zero_le _
  | x :: xs => by
    have a := h x
    have b := dpts_map h xs
    rw [List.map_cons, dpts]
    omega
theorem En.lst (e : En f k) : En (fun xs : List α => .lst (xs.map f)) (k + 1) := ⟨fun xs => by rw [pl]; exact pls_map e.p xs, fun xs => by rw [dpt]; have := dpts_map e.t xs; omega, fun xs => by rw [nb]; exact nbs_map e.n xs⟩
theorem en_int : En D.int 0 := ⟨fun _ => rfl, fun _ => by simp [dpt], fun _ => rfl⟩
theorem cn_nil : Cn (.lst []) := ⟨rfl, by simp [dpt, dpts], rfl⟩
theorem cn_lst (e : En f k) (h : k ≤ 59) (xs : List α) : Cn (.lst (xs.map f)) := e.lst.cn (by omega) xs
theorem cn_tup {ds : List D} (h : ∀ d ∈ ds, Cn d ∧ dpt d ≤ 59) : Cn (.tup ds) := by
  have key : pls ds = true ∧ dpts ds ≤ 59 ∧ nbs ds = true := by
    induction ds with
    | nil => exact ⟨rfl, Nat.zero_le _, rfl⟩
    | cons d ds ih =>
      obtain ⟨a, b, c⟩ := ih fun x hx => h x (List.mem_cons_of_mem _ hx)
      obtain ⟨q, r⟩ := h d List.mem_cons_self
      refine ⟨by rw [pls, q.p, a]; rfl, by rw [dpts]; omega, by rw [nbs, q.n, c]; rfl⟩
  exact ⟨by rw [pl]; exact key.1, by rw [dpt]; omega, by rw [nb]; exact key.2.2⟩
theorem en_oI : En oI 0 := ⟨fun x => by cases x <;> rfl, fun x => by cases x <;> simp [oI, dpt], fun x => by cases x <;> rfl⟩
instance : En D.int 0 := en_int
instance : En oI 0 := en_oI
instance [e : En f k] : En (fun xs : List α => .lst (xs.map f)) (k + 1) := e.lst
/-- data that compares: plain, k deep, no bool in it -/
class DC (d : D) (k : outParam Nat) : Prop where
  p : pl d = true
  t : dpt d ≤ k
  n : nb d = true
class DCs (ds : List D) (k : outParam Nat) : Prop where
  p : pls ds = true
  t : dpts ds ≤ k
  n : nbs ds = true
instance {i : Int} : DC (.int i) 0 := ⟨rfl, by simp [dpt], rfl⟩
instance : DC .non 0 := ⟨rfl, by simp [dpt], rfl⟩
instance {ds : List D} {k : Nat} [h : DCs ds k] : DC (.lst ds) (k + 1) := ⟨by rw [pl]; exact h.p, by rw [dpt]; have := h.t; omega, by rw [nb]; exact h.n⟩
instance {ds : List D} {k : Nat} [h : DCs ds k] : DC (.tup ds) (k + 1) := ⟨by rw [pl]; exact h.p, by rw [dpt]; have := h.t; omega, by rw [nb]; exact h.n⟩
instance (priority := low) {x : α} [e : En f k] : DC (f x) k := ⟨e.p x, e.t x, e.n x⟩
instance {o : Option Int} : DC (oI o) 0 := ⟨en_oI.p o, en_oI.t o, en_oI.n o⟩
instance : DCs [] 0 := ⟨rfl, by simp [dpts], rfl⟩
instance {d : D} {ds : List D} {k l : Nat} [h : DC d k] [g : DCs ds l] : DCs (d :: ds) (max k l) := ⟨by rw [pls, h.p, g.p]; rfl, by rw [dpts]; have := h.t; have := g.t; omega, by rw [nbs, h.n, g.n]; rfl⟩
instance {xs : List α} [e : En f k] : DCs (xs.map f) k := ⟨pls_map e.p xs, dpts_map e.t xs, nbs_map e.n xs⟩
theorem dcs_app {k l : Nat} : ∀ {as bs : List D}, DCs as k → DCs bs l → DCs (as ++ bs) (max k l)
  | [], bs, h, g => ⟨g.p, by have := g.t; show dpts bs ≤ _; omega, g.n⟩
  | a :: as, bs, h, g => by
    have hp := h.p
    have ht := h.t
    have hn := h.n
    rw [pls, Bool.and_eq_true] at hp
    rw [dpts] at ht
    rw [nbs, Bool.and_eq_true] at hn
    have r := dcs_app (k := k) (l := l) (as := as) (bs := bs) ⟨hp.2, by omega, hn.2⟩ g
    have rt := r.t
    exact ⟨by rw [List.cons_append, pls, hp.1, r.p]; rfl, by rw [List.cons_append, dpts]; omega, by rw [List.cons_append, nbs, hn.1, r.n]; rfl⟩
instance {as bs : List D} {k l : Nat} [h : DCs as k] [g : DCs bs l] : DCs (as ++ bs) (max k l) := dcs_app h g
theorem DC.cn {d : D} {k : Nat} (h : DC d k) (e : k.ble 60 = true) : Cn d := ⟨h.p, Nat.le_trans h.t (Nat.le_of_ble_eq_true e), h.n⟩
theorem oI_inj {a b : Option Int} (h : oI a = oI b) : a = b := by cases a <;> cases b <;> cases h <;> rfl
end
/-! ### xs == [] -/
theorem op_eqNil {c : Cp} {P : D → Prop} {ds : List D} (hx : Cn (.lst ds)) (h : P (.bl (decide (ds = [])))) : OP c (rEqD c.K) (.lst ds) (.lst []) P := op_eq hx cn_nil (fun e => by
  injection e with e
  rw [decide_eq_true e] at h
  exact h) fun e => by
  have e' : ds ≠ [] := fun z => e (by rw [z])
  rw [decide_eq_false e'] at h
  exact h
theorem op_neNil {c : Cp} {P : D → Prop} {ds : List D} (hx : Cn (.lst ds)) (h : P (.bl (!decide (ds = [])))) : OP c (rNeD c.K) (.lst ds) (.lst []) P := op_ne hx cn_nil (fun e => by
  have e' : ds ≠ [] := fun z => e (by rw [z])
  rw [decide_eq_false e'] at h
  exact h) fun e => by
  injection e with e
  rw [decide_eq_true e] at h
  exact h
/-! the same, the side goals found -/
section
variable {c : Cp} {P : D → Prop} {x y d : D} {ds : List D} {k l : Nat} {α : Type} {f : α → D} {xs : List α}
theorem cp_eqNil0 (h : P (.bl true)) : OP c (rEqD c.K) (.lst []) (.lst []) P := op_eqNil cn_nil (by rw [decide_eq_true rfl]; exact h)
theorem cp_neNil0 (h : P (.bl false)) : OP c (rNeD c.K) (.lst []) (.lst []) P := op_neNil cn_nil (by rw [decide_eq_true rfl]; exact h)
theorem cp_eqNilC [g : DC (.lst (d :: ds)) k] (e : k.ble 60 = true) (h : P (.bl false)) : OP c (rEqD c.K) (.lst (d :: ds)) (.lst []) P := op_eqNil (g.cn e) (by rw [decide_eq_false (by simp)]; exact h)
theorem cp_neNilC [g : DC (.lst (d :: ds)) k] (e : k.ble 60 = true) (h : P (.bl true)) : OP c (rNeD c.K) (.lst (d :: ds)) (.lst []) P := op_neNil (g.cn e) (by rw [decide_eq_false (by simp)]; exact h)
theorem cp_eqNilA [g : DC (.lst (ds ++ [d])) k] (e : k.ble 60 = true) (h : P (.bl false)) : OP c (rEqD c.K) (.lst (ds ++ [d])) (.lst []) P := op_eqNil (g.cn e) (by rw [decide_eq_false (by simp)]; exact h)
theorem cp_neNilA [g : DC (.lst (ds ++ [d])) k] (e : k.ble 60 = true) (h : P (.bl true)) : OP c (rNeD c.K) (.lst (ds ++ [d])) (.lst []) P := op_neNil (g.cn e) (by rw [decide_eq_false (by simp)]; exact h)
theorem cp_eqNilM [g : DC (.lst (xs.map f)) k] (e : k.ble 60 = true) (h : P (.bl (decide (xs = [])))) : OP c (rEqD c.K) (.lst (xs.map f)) (.lst []) P := op_eqNil (g.cn e) (by
  have : decide (xs.map f = []) = decide (xs = []) := by congr 1; exact propext List.map_eq_nil_iff
  rw [this]; exact h)
theorem cp_neNilM [g : DC (.lst (xs.map f)) k] (e : k.ble 60 = true) (h : P (.bl (!decide (xs = [])))) : OP c (rNeD c.K) (.lst (xs.map f)) (.lst []) P := op_neNil (g.cn e) (by
  have : decide (xs.map f = []) = decide (xs = []) := by congr 1; exact propext List.map_eq_nil_iff
  rw [this]; exact h)
theorem cp_eq [g : DC x k] [g2 : DC y l] (e : k.ble 60 = true) (e2 : l.ble 60 = true) (h1 : x = y → P (.bl true)) (h2 : x ≠ y → P (.bl false)) : OP c (rEqD c.K) x y P := op_eq (g.cn e) (g2.cn e2) h1 h2
theorem cp_ne [g : DC x k] [g2 : DC y l] (e : k.ble 60 = true) (e2 : l.ble 60 = true) (h1 : x ≠ y → P (.bl true)) (h2 : x = y → P (.bl false)) : OP c (rNeD c.K) x y P := op_ne (g.cn e) (g2.cn e2) h1 h2
/-- lists of one kind -/
theorem cp_eqM {ys : List α} [g : En f k] (inj : ∀ a b, f a = f b → a = b) (e : k.ble 59 = true) (h1 : xs = ys → P (.bl true)) (h2 : xs ≠ ys → P (.bl false)) : OP c (rEqD c.K) (.lst (xs.map f)) (.lst (ys.map f)) P := by
  have cn : ∀ zs : List α, Cn (.lst (zs.map f)) := fun zs => (inferInstance : DC (.lst (zs.map f)) (k + 1)).cn (by have := Nat.le_of_ble_eq_true e; exact Nat.ble_eq_true_of_le (by omega))
  refine op_eq (cn xs) (cn ys) (fun q => h1 ?_) fun q => h2 fun z => q (by rw [z])
  injection q with q
  exact List.map_inj_right (fun a b h => inj a b h) |>.mp q
theorem cp_neM {ys : List α} [g : En f k] (inj : ∀ a b, f a = f b → a = b) (e : k.ble 59 = true) (h1 : xs ≠ ys → P (.bl true)) (h2 : xs = ys → P (.bl false)) : OP c (rNeD c.K) (.lst (xs.map f)) (.lst (ys.map f)) P := by
  have cn : ∀ zs : List α, Cn (.lst (zs.map f)) := fun zs => (inferInstance : DC (.lst (zs.map f)) (k + 1)).cn (by have := Nat.le_of_ble_eq_true e; exact Nat.ble_eq_true_of_le (by omega))
  refine op_ne (cn xs) (cn ys) (fun q => h1 fun z => q (by rw [z])) fun q => h2 ?_
  injection q with q
  exact List.map_inj_right (fun a b h => inj a b h) |>.mp q
end
/-! ### x in xs, of flat things -/
def toV0 : D → V
  | .bl b => .bl b | .int i => .int i | .str s => .str s | .non => .non | .lst _ => .non | .tup _ => .non | .obj _ _ => .non | .pur => .non | .scr _ => .non | .raw _ => .non
def flatD : D → Bool
  | .bl _ => true | .int _ => true | .str _ => true | .non => true | .lst _ => false | .tup _ => false | .obj _ _ => false | .pur => false | .scr _ => false | .raw _ => false
def inD (x : D) (ds : List D) : Bool := inV (toV0 x) (ds.map toV0)
section
variable {c : Cp} {P : D → Prop} {x : D} {ds : List D} {K : PySem.W.Frag} {W G : Addr → Bool} {H : Hp}
theorem Dv.flat {v : V} {d : D} (h : Dv K W G H v d) (f : flatD d = true) : v = toV0 d ∧ flatV v = true := by cases h <;> cases f <;> exact ⟨rfl, rfl⟩
theorem DvA.flat : ∀ {vs : List V} {ds : List D}, DvA K W G H vs ds → ds.all flatD = true → vs = ds.map toV0 ∧ vs.all flatV = true
  | [], [], .nil, _ => ⟨rfl, rfl⟩
  | v :: vs, d :: ds, .cons a r, f => by
    rw [List.all_cons, Bool.and_eq_true] at f
    obtain ⟨e1, f1⟩ := a.flat f.1
    obtain ⟨e2, f2⟩ := DvA.flat r f.2
    exact ⟨by rw [e1, e2]; rfl, by rw [List.all_cons, f1, f2]; rfl⟩
theorem op_inL {neg : Bool} (fx : flatD x = true) (fs : ds.all flatD = true) (h : P (.bl (if neg then !inD x ds else inD x ds))) : OP c (rIn c.K neg) x (.lst ds) P := fun W G H v w Q w0 tb d1 d2 q => by
  obtain ⟨e1, f1⟩ := d1.flat fx
  cases d2 with
  | lst e a =>
    obtain ⟨e2, f2⟩ := a.flat fs
    exact ⟨_, _, rfl, .inl (L2.SqL.of (wo_some.mp e).2), f1, f2, q W G _ H _ (by rw [e1, e2]; exact h) (.refl w0) (.bl _)⟩
theorem op_inT {neg : Bool} (fx : flatD x = true) (fs : ds.all flatD = true) (h : P (.bl (if neg then !inD x ds else inD x ds))) : OP c (rIn c.K neg) x (.tup ds) P := fun W G H v w Q w0 tb d1 d2 q => by
  obtain ⟨e1, f1⟩ := d1.flat fx
  cases d2 with
  | tup e a =>
    obtain ⟨e2, f2⟩ := a.flat fs
    exact ⟨_, _, rfl, .inr (L2.SqT.of (wo_some.mp e).2), f1, f2, q W G _ H _ (by rw [e1, e2]; exact h) (.refl w0) (.bl _)⟩
theorem inD_int {k : Int} {ns : List Int} : inD (.int k) (ns.map D.int) = decide (k ∈ ns) := by
  unfold inD inV
  rw [List.map_map, List.any_map]
  have : (k ∈ ns) ↔ ∃ y ∈ ns, y = k := ⟨fun h => ⟨k, h, rfl⟩, fun ⟨y, h, e⟩ => e ▸ h⟩
  rw [decide_eq_decide.mpr this]
  induction ns with
  | nil => rfl
  | cons a r ih =>
    rw [List.any_cons, ih (⟨fun h => ⟨k, h, rfl⟩, fun ⟨y, h, e⟩ => e ▸ h⟩)]
    by_cases h : a = k
    · subst h; simp [toV0, eqV]
    · have : (eqV (V.int a) (V.int k)) = false := by simp [eqV, h]
      have h2 : ¬ k = a := fun z => h z.symm
      simp [toV0, this, h, h2]
end
/-! ### new lists as data -/
section
variable {X : Cx} {env : List Sl} {P : D → Prop} {Pl : List D → Prop} {tr : TA} {te ta tb : TE} {tl tu : TO} {c : Cp} {r : R2} {x y : D} {ds es : List D} {wi : TI} {g : TG} {tt : TT} {vs : List Nat}
theorem ev_lst (h : EA X env tr fun ds => ds.length.ble 1000 = true ∧ P (.lst ds)) : EV X env (tLst tr) P := ev_ofF (ef_lst h)
theorem ef_if (h : TV X env tt fun b => if b = true then EF X env ta Pl else EF X env tb Pl) : EF X env (tIf tt ta tb) Pl := fun gd W G σ H Q S er q =>
  h gd W G σ H _ S er fun W1 G1 b H1 hb e1 => by
    cases b with
    | true => exact ifT hb gd W1 G1 σ H1 _ (S.step e1) er fun W2 G2 v H2 ds hp e2 fr => q W2 G2 v H2 ds hp (e1.trans e2) (by
        obtain ⟨p, vs, ds, e, e', h1, r⟩ := fr
        exact ⟨p, vs, ds, e, e', e1.fr p h1, r⟩)
    | false => exact ifF hb gd W1 G1 σ H1 _ (S.step e1) er fun W2 G2 v H2 ds hp e2 fr => q W2 G2 v H2 ds hp (e1.trans e2) (by
        obtain ⟨p, vs, ds, e, e', h1, r⟩ := fr
        exact ⟨p, vs, ds, e, e', e1.fr p h1, r⟩)
theorem op_ixLc {d x : D} {ds : List D} {i : Int} (e : atD (d :: ds) i = some x) (h : P x) : OP c (rIxL c.K) (.lst (d :: ds)) (.int i) P := op_ixL e h
/-- a call that does not raise -/
theorem ev_call0 {E : L2.St → XK} {f : PF} (h : EA X env tr fun ds => f ds P fun _ => False) : EV X env (tCallS (spP X.c.K X.c.T f) E tr) P := fun gd W G σ H Q S er q =>
  h gd W G σ H _ S er fun W1 G1 v H1 x hx e1 d1 => ⟨W1, G1, x, P, fun _ => False, e1.t, (S.step e1).tb, d1, hx, fun d W' G' v H' hd e2 dv => q W' G' v H' d hd (e1.trans e2) dv, fun e W' G' d H' he e2 hd => he.elim⟩
theorem ef_call0 {E : L2.St → XK} {f : List D → (List D → Prop) → (Er → Prop) → Prop} (h : EA X env tr fun ds => f ds Pl fun _ => False) : EF X env (tCallS (spN X.c.K X.c.T f) E tr) Pl := fun gd W G σ H Q S er q =>
  h gd W G σ H _ S er fun W1 G1 v H1 x hx e1 d1 => ⟨W1, G1, x, Pl, fun _ => False, e1.t, (S.step e1).tb, d1, hx, fun d W' G' v H' hd e2 fr => q W' G' v H' d hd (e1.trans e2) (by
      obtain ⟨p, vs, ds, e, e', h1, r⟩ := fr
      exact ⟨p, vs, ds, e, e', e1.fr p h1, r⟩), fun e W' G' d H' he e2 hd => he.elim⟩
theorem ev_callN0 {E : L2.St → XK} {f : List D → (List D → Prop) → (Er → Prop) → Prop} (h : EA X env tr fun ds => f ds (fun es => P (.lst es)) fun _ => False) : EV X env (tCallS (spN X.c.K X.c.T f) E tr) P := ev_ofF (ef_call0 h)
theorem ev_callN {f : List D → (List D → Prop) → (Er → Prop) → Prop} (h : EA X env tr fun ds => f ds (fun es => P (.lst es)) (X.er env)) : EV X env (tCallS (spN X.c.K X.c.T f) X.c.E tr) P := ev_ofF (ef_call h)
theorem ev_methN {g : List D → (List D → Prop) → (Er → Prop) → Prop} {E : XK} {C : Addr} {m : Str} (hE : ∀ σ, X.c.E σ = E) (h : EV X env te fun x => MTH C m x (EA X env tr fun ds => g (x :: ds) (fun es => P (.lst es)) (X.er env))) : EV X env (tMeth C m (spN X.c.K X.c.T g) [] E te tr) P := ev_ofF (ef_meth hE h)
theorem op_ofF (h : OF c r x y fun ds => P (.lst ds)) : OP c r x y P := fun W G H v w Q w0 tb d1 d2 q => h W G H v w Q w0 tb d1 d2 fun W' G' z H' ds p e f => q W' G' z H' _ p e f.dv
theorem cb_ofF {r : List V → Hp → VK → Prop} (h : CF c r ds fun es => P (.lst es)) : BI c r ds P := fun W G H vs Q w0 tb a q => h W G H vs Q w0 tb a fun W' G' z H' ds p e f => q W' G' z H' _ p e f.dv
theorem op_cat (l : ds.length + es.length ≤ 16000000) (p : P (.lst (ds ++ es))) : OP c rCat (.lst ds) (.lst es) P := op_ofF (of_cat l p)
theorem op_rep {k : Int} (h0 : -1000000000 ≤ k) (h1 : k ≤ 1000000000) (l : ds.length * k.toNat ≤ 16000000) (p : P (.lst (List.replicate k.toNat ds).flatten)) : OP c rRep (.lst ds) (.int k) P := op_ofF (of_rep h0 h1 l p)
theorem cb_listL (p : P (.lst ds)) : BI c (Lay.rList c.K) [.lst ds] P := cb_ofF (cf_listL p)
theorem cb_listT (p : P (.lst ds)) : BI c (Lay.rList c.K) [.tup ds] P := cb_ofF (cf_listT p)
theorem ev_sl {r : V → Option Int → Option Int → Hp → VK → Prop} (h : EV X env te fun x => OV X env tl fun l => OV X env tu fun u => SLF X.c r x l u fun ds => P (.lst ds)) : EV X env (tSl r te tl tu) P := ev_ofF (ef_sl h)
/-- xs[a:b] -/
theorem cutD_nat {b e : Nat} {ds : List D} (h1 : b ≤ e) (h2 : e ≤ ds.length) : cutD ds (some (b : Int)) (some (e : Int)) = (ds.drop b).take (e - b) := by
  unfold cutD
  rw [HT.sIx_nat, HT.sIx_nat, Nat.min_eq_left (by omega), Nat.min_eq_left (by omega)]
theorem cutD_from {b : Nat} {ds : List D} (h1 : b ≤ ds.length) : cutD ds (some (b : Int)) none = ds.drop b := by
  unfold cutD
  rw [HT.sIx_nat, Nat.min_eq_left (by omega)]
  show (ds.drop b).take (ds.length - b) = _
  rw [List.take_of_length_le (by rw [List.length_drop]; omega)]
theorem cutD_to {e : Nat} {ds : List D} (h1 : e ≤ ds.length) : cutD ds none (some (e : Int)) = ds.take e := by
  unfold cutD
  rw [HT.sIx_nat, Nat.min_eq_left (by omega)]
  show (ds.drop 0).take (e - 0) = _
  rw [List.drop_zero, Nat.sub_zero]
/-- xs[1:-1] -/
theorem cutD_in (x : D) (mid : List D) (z : D) : cutD (x :: (mid ++ [z])) (some 1) (some (-1)) = mid := by
  have hl : (x :: (mid ++ [z])).length = mid.length + 2 := by simp
  have h1 : HT.sIx (mid.length + 2) 0 (some 1) = 1 := by
    unfold HT.sIx
    dsimp only
    rw [if_neg (by decide)]
    omega
  have h2 : HT.sIx (mid.length + 2) (mid.length + 2) (some (-1)) = mid.length + 1 := by
    unfold HT.sIx
    dsimp only
    rw [if_pos (by decide)]
    omega
  unfold cutD
  rw [hl, h1, h2]
  simp
/-- a target, the block's own slots wiped -/
def GPW (X : Cx) (vs : List Nat) (env : List Sl) (g : TG) (x : D) (N : List Sl → Prop) : Prop := GP X (wipeE env vs) g x N
theorem gpw {env' : List Sl} {x : D} {N : List Sl → Prop} [w : WipC vs env env'] (h : GP X env' g x N) : GPW X vs env g x N := by unfold GPW; rw [w.eq]; exact h
/-- a comprehension that maps -/
theorem ef_lcM {α : Type} (xs : List α) (h0 f : α → D) (hv : GM vs g) (h : IT X env wi fun ds => ds = xs.map h0 ∧ xs.length ≤ 16000000 ∧ (∀ (i : Nat) (x : α), xs[i]? = some x → GPW X vs env g (h0 x) fun e => EV X e te fun d => d = f x) ∧ Pl (xs.map f)) : EF X env (tLc wi g tYes te vs) Pl := by
  refine ef_lc (fun i acc => acc = (xs.take i).map f) hv fun gd W G σ H R S er k => h gd W G σ H R S er fun W' G' H' J ds gd' ⟨e1, e2, e3, e4⟩ e wk hg => k W' G' H' J ds gd' ?_ e wk hg
  subst e1
  refine ⟨by rw [List.length_map]; exact e2, rfl, fun i d acc hd ha => ?_, fun acc ha => ?_⟩
  · rw [List.getElem?_map] at hd
    cases hx : xs[i]? with
    | none => rw [hx] at hd; cases hd
    | some x =>
      rw [hx] at hd
      cases hd
      refine fun gd W G σ H v Q S dv q => e3 i x hx gd W G σ H v Q S dv fun env' σ' he S' => q env' σ' (tv_yes ?_) S'
      rw [if_pos rfl]
      refine fun gd W G σ H Q S er q => he gd W G σ H Q S er fun W' G' v H' d hd e dv => q W' G' v H' d ?_ e dv
      rw [hd, ha, List.take_add_one, hx, List.map_append]
      rfl
  · rw [List.length_map, List.take_length] at ha
    rw [ha]
    exact e4
end
/-! ### sorted by a key -/
theorem perm_two {α β : Type} {R : α → β → Prop} {as bs : List α} (p : as.Perm bs) : ∀ {xs : List β}, Paired R bs xs → ∃ ys, Paired R as ys ∧ ys.Perm xs := by
  induction p with
  | nil => intro xs h; exact ⟨xs, h, .refl _⟩
  | cons x p ih =>
    intro xs h
    cases h with
    | cons a r =>
      obtain ⟨ys, h1, h2⟩ := ih r
      exact ⟨_ :: ys, .cons a h1, h2.cons _⟩
  | swap x y l =>
    intro xs h
    cases h with
    | cons a r =>
      cases r with
      | cons b r => exact ⟨_ :: _ :: _, .cons b (.cons a r), .swap _ _ _⟩
  | trans p q ih1 ih2 =>
    intro xs h
    obtain ⟨ys, h1, h2⟩ := ih2 h
    obtain ⟨zs, h3, h4⟩ := ih1 h1
    exact ⟨zs, h3, h4.trans h2⟩
theorem ES.ofN {T : List (Addr × Str)} {W G : Addr → Bool} {H H' : Hp} (w : WG W G H) (e : LamX.ExtN H H') (t : LamX.Tabs T H → LamX.Tabs T H') : ES T W G H W G H' := by
  have nb : ∀ a, nn H' a → nn H a := fun a h o q n => h o (e a o q n) n
  exact ⟨w, ⟨fun a o _ h n => e a o h n, fun a _ h => h.exn e, t⟩, fun _ h => h, fun _ h => h, fun _ h => .inl h, fun _ h => .inl h, ⟨w.gw, fun a h z => w.wd a h (nb a z), fun a h => (w.gp a h).exn e⟩⟩
theorem paired_pw {α β : Type} {R : α → β → Prop} {S : α → α → Prop} {S' : β → β → Prop} (k : ∀ a b x y, R a x → R b y → S a b → S' x y) : ∀ {as : List α} {xs : List β}, Paired R as xs → as.Pairwise S → xs.Pairwise S'
  | _, _, .nil, _ => .nil
  | _, _, .cons (l₁ := as) (l₂ := xs) a r, h => by
    obtain ⟨h1, h2⟩ := List.pairwise_cons.mp h
    refine List.pairwise_cons.mpr ⟨fun y hy => ?_, paired_pw k r h2⟩
    have : ∀ {as : List α} {xs : List β}, Paired R as xs → y ∈ xs → ∃ b ∈ as, R b y := by
      intro as xs r hy
      induction r with
      | nil => cases hy
      | cons a r ih =>
        rcases List.mem_cons.mp hy with rfl | hy
        · exact ⟨_, List.mem_cons_self, a⟩
        · obtain ⟨b, hb, q⟩ := ih hy
          exact ⟨b, List.mem_cons_of_mem _ hb, q⟩
    obtain ⟨b, hb, q⟩ := this r hy
    exact k _ _ _ _ a q (h1 b hb)
def rKey (H : Hp) (p : Addr) : Int := match H p with | some (.tup (.int n :: _)) => n | _ => 0
abbrev RowAt {α : Type} (K : PySem.W.Frag) (W G : Addr → Bool) (H : Hp) (f : α → D) (key : α → Int) (p : Addr) (x : α) : Prop := ∃ n us r, wo W H p = some (.tup (.int n :: us)) ∧ f x = .tup (.int n :: r) ∧ n = key x ∧ Dv K W G H (.ref p) (f x)
theorem rows_of {α : Type} {K : PySem.W.Frag} {W G : Addr → Bool} {H : Hp} {f : α → D} {key : α → Int} : ∀ {xs : List α} {vs : List V}, (∀ x ∈ xs, ∃ r, f x = .tup (.int (key x) :: r)) → DvA K W G H vs (xs.map f) → ∃ as : List Addr, vs = as.map V.ref ∧ Paired (RowAt K W G H f key) as xs
  | [], vs, hf, a => by cases a; exact ⟨[], rfl, .nil⟩
  | x :: xs, vs, hf, a => by
    cases a with
    | cons b r =>
      obtain ⟨as, e1, e2⟩ := rows_of (xs := xs) (fun y hy => hf y (List.mem_cons_of_mem _ hy)) r
      obtain ⟨rr, hx⟩ := hf x List.mem_cons_self
      have b0 := b
      rw [hx] at b
      cases b with
      | tup w u =>
        cases u with
        | cons u1 u2 =>
          cases u1
          exact ⟨_ :: as, by rw [List.map_cons, e1], .cons ⟨_, _, rr, w, hx, rfl, b0⟩ e2⟩
section
variable {X : Cx} {env : List Sl} {Pl : List D → Prop} {te : TE}
/-- sorted(rows, key=lambda row: row[0]) of tuples -/
theorem ef_srt {α : Type} (f : α → D) (key : α → Int) (h : EV X env te fun d => ∃ xs : List α, d = .lst (xs.map f) ∧ xs.length ≤ 16000000 ∧ (∀ x ∈ xs, ∃ r, f x = .tup (.int (key x) :: r)) ∧ ∀ ys : List α, ys.Perm xs → ys.Pairwise (fun a b => key a ≤ key b) → Pl (ys.map f)) {a : Str} : EF X env (Srk.tSrt X.c.K X.c.T [a] te (tOp (rIxT X.c.K) (tVar 0) (tC (.int 0)))) Pl := fun gd W G σ H Q S er q =>
  h gd W G σ H _ S er fun W1 G1 v H1 d ⟨xs, e, hl, hf, hp⟩ e1 d1 => by
    subst e
    cases d1 with
    | @lst l vs _ e a0 =>
      refine ⟨_, rfl, (S.step e1).tb, ?_⟩
      obtain ⟨as, ev, pr⟩ := rows_of (key := key) hf a0
      subst ev
      have key' : ∀ p x, RowAt X.c.K W1 G1 H1 f key p x → rKey H1 p = key x := fun p x ⟨n, us, r, h1, h2, h3, _⟩ => by
        unfold rKey
        rw [(wo_some.mp h1).2]; exact h3
      have hlen := pr.length
      refine ⟨l, as, rKey H1, rfl, L2.SqL.of (wo_some.mp e).2, by omega, fun H2 eN hT => ⟨fun p hpm => ?_, fun p out hn hpm hpw => ?_⟩⟩
      · have : ∀ {as : List Addr} {xs : List α}, Paired (RowAt X.c.K W1 G1 H1 f key) as xs → p ∈ as → ∃ n us, H1 p = some (.tup (.int n :: us)) := by
          intro as xs r hm
          induction r with
          | nil => cases hm
          | cons a r ih =>
            rcases List.mem_cons.mp hm with rfl | hm
            · obtain ⟨n, us, _, h1, _⟩ := a
              exact ⟨n, us, (wo_some.mp h1).2⟩
            · exact ih hm
        obtain ⟨n, us, hn⟩ := this pr hpm
        refine ⟨_, rfl, p, _, 0, .int n, rfl, rfl, L2.SqT.of (eN p _ hn nt_t), atI_V (j := 0) rfl rfl, ?_, rfl⟩
        unfold rKey
        rw [hn]
      · obtain ⟨ys, py, pm⟩ := perm_two hpm pr
        have e2 : ES X.c.T W1 G1 H1 W1 G1 H2 := .ofN e1.t eN fun _ => hT
        have hs : ys.Pairwise fun a b => key a ≤ key b := paired_pw (fun a b x y ra rb hab => by rw [key' a x ra, key' b y rb] at hab; exact hab) py hpw
        have a2 : DvA X.c.K W1 G1 H2 (out.map V.ref) (ys.map f) := by
          clear hs hpw hpm pm
          induction py with
          | nil => exact .nil
          | cons a r ih =>
            obtain ⟨_, _, _, _, _, _, dv⟩ := a
            exact .cons (dv.es e1.t e2) ih
        have fr := fr_new (p := p) e2.t hn a2
        refine q W1 G1 _ _ (ys.map f) (hp ys pm hs) ((e1.trans e2).trans (.ofEx e2.t (Ex.new hn))) ?_
        obtain ⟨p', vs', ds', x1, x2, x3, x4⟩ := fr
        exact ⟨p', vs', ds', x1, x2, e1.fr p' (e2.fr p' x3), x4⟩
end
end Pu
/-! the pure layer: errors with two fields, lambdas handed to a def that catches -/
namespace Pu
open PySem PySem.Spec PyProof.Rows L2 Evl Lay
/-! ### own errors with two fields, both told by str -/
def spExc3 (K : PySem.W.Frag) (C : Addr) (f1 f2 : Str) : Sp := fun vs H Q _ => ∃ (a : Addr) (v1 v2 : V), vs = [.ref a, v1, v2] ∧ tellV v1 ∧ tellV v2 ∧ H a = some (exo a C none) ∧
  ∀ dx, H dx = none → dx ≠ a → Q .non (upd (upd (upd H dx (exd dx [(f1, v1)])) a (exo a C (some dx))) dx (exd dx [(f2, v2), (f1, v1)]))
structure Exn3 (P : Program) (w : World) (K : PySem.W.Frag) (mg : Str → Option Value) (base : Heap) (x f1 f2 : Str) (C : Addr) : Prop where
  o : OexC K C
  g : mg x = some (.ref C)
  init : ∃ (fI : Addr) (fd : FuncData), PySem.W.findIn K (.ref C) "__init__" = some (some (.ref fI)) ∧ PySem.W.typeIn K (.ref fI) = some (.type "function") ∧ FnOk P w K mg base (L2.CX P w) 1 fI fd ["self", f1, f2] (spExc3 K C f1 f2) ∧ Binds K fd ["self", f1, f2] []
  xf : XfC K C
  no : PySem.W.findIn K (.ref C) f1 = some none
  no2 : PySem.W.findIn K (.ref C) f2 = some none
  te : PySem.W.exmOne K (.ref C) (.ref C) = some true
def tRaiseE3 (C : Addr) (f1 f2 : Str) (W : WX) (te1 te2 : TE) : TS := fun _ σ H => te1 σ H fun v1 H1 => te2 σ H1 fun v2 H2 => tellV v1 ∧ tellV v2 ∧ ∀ d H3, Ex H2 H3 → H3 d = some (.xd [(f2, v2), (f1, v1)]) → W (.ref C) (some d) σ H3
section
variable {X : L2.Cx} {x f1 f2 : Str} {C : Addr} {W : WX} {e1 e2 : Expr} {te1 te2 : TE} {p pos pos2 : Pos}
theorem ps_raiseE3 (T : Exn3 X.prog X.w X.K X.mg X.base x f1 f2 C) (hc : X.calm = true) (hr : Room 2 X.A) (tk : Takes X W) (he1 : PE X e1 te1) (he2 : PE X e2 te2) (hg : Gl X x := by rfl) (hdb : (x == ("__debug__" : Str)) = false := by decide)
    (hs2 : starEach (e2 :: []) X.env = (false, eval e2 X.env) :: starEach [] X.env := by rfl) (hs : starEach (e1 :: e2 :: []) X.env = (false, eval e1 X.env) :: starEach [e2] X.env := by rfl) (hpl : (backTo pos (starEach [e2] X.env)).any (·.1) = false := by rfl) :
    PS X (.Raise (some (.Call (.Name x p) [e1, e2] [] pos)) none pos2) (tRaiseE3 C f1 f2 W te1 te2) := by
  obtain ⟨fI, fd, iC, tI, F, b⟩ := T.init
  have hx : Passes (L2.CX X.prog X.w) X (fun _ _ _ => False) := passL
  have m := pmk_oex (pos := pos) (p := p) T.o iC tI F (hr.mono (Nat.le_refl _)) b .nil hx hg T.g (pa_cons (pe_cl he1) (pa_cons (pe_cl he2) pa_nil hs2) hs) hdb hs hpl
  have r := ps_raise (pos := pos2) hc tk m
  refine ⟨fun pins s σ H D I h => r.run pins s σ H D I ?_⟩
  show ∃ P1 : VK, te1 σ H P1 ∧ _
  have key : ∀ v1 v2 H1, (tellV v1 ∧ tellV v2 ∧ ∀ d H2, Ex H1 H2 → H2 d = some (.xd [(f2, v2), (f1, v1)]) → W (.ref C) (some d) σ H2) →
      ([v1, v2] : List V).length ≤ 1000 ∧ ∀ a, H1 a = none → spExc3 X.K C f1 f2 (.ref a :: ([v1, v2] ++ [])) (upd H1 a (exo a C none))
        (fun u H2 => u = .non ∧ ∃ (d : Addr) (fs : List (Str × V)), H2 a = some (exo a C (some d)) ∧ H2 d = some (exd d fs) ∧ H1 d = none ∧ W (.ref C) (some d) σ (upd (del H2 a) d (.xd fs))) (fun _ _ _ => False) := by
    intro v1 v2 H1 q
    refine ⟨by show 2 ≤ 1000; decide, fun a ha => ⟨a, v1, v2, rfl, q.1, q.2.1, upd_same, fun dx hdx hne => ⟨rfl, dx, [(f2, v2), (f1, v1)], ?_, upd_same, ?_, ?_⟩⟩⟩
    · rw [upd_ne hne.symm, upd_same]
    · rw [upd_ne hne] at hdx
      exact hdx
    · have hd1 : H1 dx = none := by
        rw [upd_ne hne] at hdx
        exact hdx
      refine q.2.2 dx _ (fun b o hb => ?_) upd_same
      have n1 : b ≠ dx := ne_of_none hb hd1
      have n2 : b ≠ a := ne_of_none hb ha
      rw [upd_ne n1, del_ne n2, upd_ne n1, upd_ne n2, upd_ne n1, upd_ne n2]
      exact hb
  exact ⟨_, h, fun v1 H1 q1 => ⟨_, q1, fun v2 H2 q2 => key v1 v2 H2 q2⟩⟩
end
section
variable {X : Cx} {env : List Sl} {N Bk Ct : List Sl → Prop} {R : Bool → D → Prop} {ta tb : TE}
theorem sx_raise3 {C : Addr} {f1 f2 : Str} {E : XK} (hE : ∀ σ, X.c.E σ = E) (h : EV X env ta fun d1 => EV X env tb fun d2 => ∃ v1 v2, immV d1 = some v1 ∧ immV d2 = some v2 ∧ tellV v1 ∧ tellV v2 ∧ X.er env ⟨C, [(f2, v2), (f1, v1)]⟩) : SX X env (tRaiseE3 C f1 f2 (fun cls d _ H => E cls d H) ta tb) N R Bk Ct := fun gd W G σ H Z S L =>
  h gd W G σ H _ S L.er fun W1 G1 v H1 d k e1 d1 => k gd W1 G1 σ H1 _ (S.step e1) L.er fun W2 G2 u H2 d' ⟨w1, w2, hw1, hw2, ht, ht2, he⟩ e2 d2 => by
    cases d1.immV hw1
    cases d2.immV hw2
    refine ⟨ht, ht2, fun dd H3 e3 hd => ?_⟩
    show E (.ref C) (some dd) H3
    rw [← hE σ]
    exact L.er env ⟨C, [(f2, u), (f1, v)]⟩ W2 G2 σ H3 dd he (((S.step e1).step e2).step (.ofEx e2.t e3)) hd
end
/-! ### except clauses: return (tag, e.f, ..) -/
/-- an error of e's kind, caught by the clauses l: the data vs are returned -/
def WordC (K : PySem.W.Frag) (Ng : List Str) (l : List ClA) (e : Er) (vs : List V) : Prop := ∀ (W0 : WX) (D : Ends) (σ : L2.St) (H : Hp) (dd : Addr), σ.length = Ng.length → H dd = some (.xd e.fs) → (∀ t H2, H t = none → Ex H H2 → H2 t = some (.tup vs) → D.rt (.ref t) H2) → wManyA K W0 D l (.ref e.c) (some dd) σ H
section
variable {K : PySem.W.Frag} {Ng : List Str} {l : List ClA} {C C' : Addr} {f f1 f2 tag : Str} {i : Nat} {ts : Addr → Value → Option Addr → TS} {v v1 v2 : V} {fs : List (Str × V)} {vs : List V}
theorem wc_no (h : PySem.W.exmOne K (.ref C) (.ref C') = some false) (k : WordC K Ng l ⟨C, fs⟩ vs) : WordC K Ng ((.ref C', i, ts) :: l) ⟨C, fs⟩ vs := fun W0 D σ H dd hl hd q => wm_no h (k W0 D σ H dd hl hd q)
theorem wc_yes (h : PySem.W.exmOne K (.ref C) (.ref C) = some true) (hi : i < Ng.length) : WordC K Ng ((.ref C, i, retF tag C f i) :: l) ⟨C, [(f, v)]⟩ [.str tag, v] := fun W0 D σ H dd hl hd q =>
  ⟨true, h, fun _ a ha => by
    show tXf a (.ref C) (some dd) C f (tVar i) (σ.set i (some (.ref a))) H fun x H1 => tNil (σ.set i (some (.ref a))) H1 fun xs H2 => NewT (.str tag :: x :: xs) H2 D.rt
    refine r_xf (by rw [List.getElem?_set_self (by omega)]) hd ?_
    exact r_newT (len3 rfl) fun t H2 n e h => q t H2 n e h, fun z => absurd z (by decide)⟩
theorem wc_yes2 (h : PySem.W.exmOne K (.ref C) (.ref C) = some true) (hf : (f1 == f2) = false) (hi : i < Ng.length) : WordC K Ng ((.ref C, i, retF2 tag C f1 f2 i) :: l) ⟨C, [(f2, v2), (f1, v1)]⟩ [.str tag, v1, v2] := fun W0 D σ H dd hl hd q =>
  ⟨true, h, fun _ a ha => by
    have e : (σ.set i (some (V.ref a)))[i]? = some (some (.ref a)) := by rw [List.getElem?_set_self (by omega)]
    refine ⟨_, e, rfl, rfl, dd, _, v1, rfl, hd, by simp [List.lookup, hf], _, e, rfl, rfl, dd, _, v2, rfl, hd, by simp [List.lookup], ?_⟩
    exact r_newT (len3 rfl) fun t H2 n e h => q t H2 n e h, fun z => absurd z (by decide)⟩
end
/-- what is caught: the tuple that is returned is wished for -/
def CaughtP (K : PySem.W.Frag) (Ng : List Str) (l : List ClA) (P : D → Prop) (e : Er) : Prop := ∃ vs ds, WordC K Ng l e vs ∧ (∀ W G H, DvA K W G H vs ds) ∧ P (.tup ds)
theorem caught1 {K : PySem.W.Frag} {Ng : List Str} {l : List ClA} {P : D → Prop} {e : Er} {s t : Str} (h : WordC K Ng l e [.str s, .str t]) (p : P (.tup [.str s, .str t])) : CaughtP K Ng l P e := ⟨_, _, h, fun _ _ _ => .cons (.str _) (.cons (.str _) .nil), p⟩
theorem caught1i {K : PySem.W.Frag} {Ng : List Str} {l : List ClA} {P : D → Prop} {e : Er} {s : Str} {i : Int} (h : WordC K Ng l e [.str s, .int i]) (p : P (.tup [.str s, .int i])) : CaughtP K Ng l P e := ⟨_, _, h, fun _ _ _ => .cons (.str _) (.cons (.int _) .nil), p⟩
theorem caught2 {K : PySem.W.Frag} {Ng : List Str} {l : List ClA} {P : D → Prop} {e : Er} {s t : Str} {i : Int} (h : WordC K Ng l e [.str s, .str t, .int i]) (p : P (.tup [.str s, .str t, .int i])) : CaughtP K Ng l P e := ⟨_, _, h, fun _ _ _ => .cons (.str _) (.cons (.str _) (.cons (.int _) .nil)), p⟩
def noOwn : Sl → Bool
  | .own _ _ => false | _ => true
section
variable {X : Cx} {env : List Sl} {P : D → Prop} {Ng : List Str} {l : List ClA} {t : XK → TE}
/-- x(lambda: e): what e gives is dropped, None is returned; what it raises is caught -/
theorem ev_lam (hown : env.all noOwn = true) (h : ∀ E' B W0 G0, EV ⟨⟨X.c.K, X.c.T, B, W0, G0, fun _ => E'⟩, fun _ e => CaughtP X.c.K Ng l P e⟩ env (t E') (fun _ => P .non)) : EV X env (LamX.tLam X.c.T (TTry X.c.K Ng l (tRet (tC .non))) t) P := by
  intro gd W G σ H Q S er q
  refine ⟨S.tb, fun H1 eN hT1 => ?_⟩
  intro f
  have e1 : ES X.c.T W G H W G H1 := ES.ofN S.t eN fun _ => hT1
  have S1 := S.step e1
  have wgW : ∀ a, wg W G a = true → W a = true := fun a h => (wg_t.mp h).elim id (S1.t.gw a)
  have no : ∀ (i : Nat) p o, env[i]? ≠ some (.own p o) := fun i p o z => by
    have := List.all_eq_true.mp hown _ (List.mem_of_getElem? z)
    cases this
  refine h _ H1 W G gd W G σ H1 _ ⟨S1.t, S1.t, ⟨S1.t, XG.ofEx (Ex.refl H1), fun a h => wg_t.mpr (.inl h), fun a h => h, fun a h => .inl (wgW a h), fun a h => .inl h, ⟨fun a h => wg_t.mpr (.inr h), fun a h => S1.t.wd a (wgW a h), S1.t.gp⟩⟩, fun a h => h, fun a h => .inl h, S1.tb, S1.len, S1.sl, fun i p o z => (no i p o z).elim, fun i j p o o' z => (no i p o z).elim, S1.gh⟩ ?_ ?_
  · intro env2 e W2 G2 σ2 H2 d ⟨vs, ds, hw, hd, hp⟩ S2 hx
    show ∀ σ', _ → _
    intro σ' hl
    refine hw _ _ σ' H2 d hl hx fun t H3 nt ex ht => ?_
    have e2 : ES X.c.T W G H1 (wg W G2) G2 H2 := S2.es
    have e3 : ES X.c.T (wg W G2) G2 H2 (wg W G2) G2 H3 := .ofEx e2.t ex
    refine q _ _ (.ref t) H3 (.tup ds) hp ((e1.trans e2).trans e3) (.tup (wo_some.mpr ⟨bf fun z => e2.t.wd t z (nn_of nt), ht⟩) (hd _ _ _))
  · intro W' G' v H' d hp e2 dv
    exact q W' G' .non H' .non hp (e1.trans e2) .non
end
/-- a test that is never reached -/
theorem pt_dead {X : L2.Cx} {e : Expr} : PT X e (fun _ _ _ => False) := ⟨fun _ _ _ _ _ _ h => h.elim⟩
/-! ### sorted -/
theorem cf_sorted {c : Cp} {Pl : List D → Prop} {ns : List Int} (hl : ns.length < 64) (h : ∀ ns' : List Int, ns'.Perm ns → ns'.Pairwise (· ≤ ·) → Pl (ns'.map .int)) : CF c (L2.rSorted c.K) [.lst (ns.map .int)] Pl := fun W G H vs Q w0 tb a0 q => by
  obtain ⟨v, rfl, a⟩ := dva1 a0
  cases a with
  | lst e a => exact ⟨_, ns, rfl, L2.SqL.of (by rw [← a.ints]; exact (wo_some.mp e).2), hl, fun ns' p h1 h2 hp => q W G _ _ _ (h ns' h1 h2) (.ofEx w0 (Ex.new hp)) (fr_new w0 hp (DvA.ofInts ns'))⟩
/-! ### comprehensions of things of one kind -/
section
variable {X : Cx} {env : List Sl} {Pl : List D → Prop} {wi : TI} {g : TG} {te : TE} {vs : List Nat}
theorem ef_lcA {α : Type} (f : α → D) (ok : α → Prop) (hv : GM vs g) (h : IT X env wi fun ds => ds.length ≤ 16000000 ∧ (∀ (i : Nat) x, ds[i]? = some x → GPW X vs env g x fun e => EV X e te fun d => ∃ y, d = f y ∧ ok y) ∧ ∀ ys : List α, ys.length = ds.length → (∀ y ∈ ys, ok y) → Pl (ys.map f)) : EF X env (tLc wi g tYes te vs) Pl := by
  refine ef_lc (fun i acc => ∃ ys : List α, acc = ys.map f ∧ ys.length = i ∧ ∀ y ∈ ys, ok y) hv fun gd W G σ H R S er k => h gd W G σ H R S er fun W' G' H' J ds gd' ⟨e2, e3, e4⟩ e wk hg => k W' G' H' J ds gd' ?_ e wk hg
  refine ⟨e2, ⟨[], rfl, rfl, fun y hy => (List.not_mem_nil hy).elim⟩, fun i d acc hd ⟨ys, ha, hl, hy⟩ => ?_, fun acc ⟨ys, ha, hl, hy⟩ => ?_⟩
  · refine fun gd W G σ H v Q S dv q => e3 i d hd gd W G σ H v Q S dv fun env' σ' he S' => q env' σ' (tv_yes ?_) S'
    rw [if_pos rfl]
    refine fun gd W G σ H Q S er q => he gd W G σ H Q S er fun W' G' v H' d ⟨y, hd, hok⟩ e dv => q W' G' v H' d ⟨ys ++ [y], ?_, ?_, ?_⟩ e dv
    · rw [hd, ha, List.map_append]; rfl
    · rw [List.length_append, hl]; rfl
    · intro z hz
      rcases List.mem_append.mp hz with q | q
      · exact hy z q
      · rw [List.mem_singleton.mp q]; exact hok
  · rw [ha]
    exact e4 ys hl hy
theorem rgD_at {lo hi : Int} {i : Nat} {x : D} (h : (rgD lo hi)[i]? = some x) : x = .int (lo + i) ∧ lo + i < hi := by
  unfold rgD at h
  rw [List.getElem?_map] at h
  cases q : (List.range (hi - lo).toNat)[i]? with
  | none => rw [q] at h; cases h
  | some j =>
    rw [q] at h
    cases h
    obtain ⟨hl, e⟩ := List.getElem?_eq_some_iff.mp q
    rw [List.getElem_range] at e
    subst e
    rw [List.length_range] at hl
    exact ⟨rfl, by omega⟩
theorem rgD_len {lo hi : Int} : (rgD lo hi).length = (hi - lo).toNat := by unfold rgD; rw [List.length_map, List.length_range]
theorem ef_lcR {α : Type} (f : α → D) (ok : α → Prop) (hv : GM vs g) (h : IT X env wi fun ds => ∃ lo hi : Int, ds = rgD lo hi ∧ hi - lo ≤ 16000000 ∧ (∀ j : Int, lo ≤ j → j < hi → GPW X vs env g (.int j) fun e => EV X e te fun d => ∃ y, d = f y ∧ ok y) ∧ ∀ ys : List α, ys.length = (hi - lo).toNat → (∀ y ∈ ys, ok y) → Pl (ys.map f)) : EF X env (tLc wi g tYes te vs) Pl :=
  ef_lcA f ok hv fun gd W G σ H R S er k => h gd W G σ H R S er fun W' G' H' J ds gd' ⟨lo, hi, e1, e2, e3, e4⟩ e wk hg => k W' G' H' J ds gd' ⟨by rw [e1, rgD_len]; omega, fun i x hx => by
    rw [e1] at hx
    obtain ⟨rfl, hl⟩ := rgD_at hx
    exact e3 _ (by omega) hl, fun ys hl hy => e4 ys (by rw [hl, e1, rgD_len]) hy⟩ e wk hg
end
/-! ### a new field -/
theorem putD_new {f : Str} {d : D} : ∀ {fs : List (Str × D)}, (fs.map (·.1)).contains f = false → putD f d fs = fs ++ [(f, d)]
  | [], _ => rfl
  | (g, e) :: r, h => by
    rw [List.map_cons, List.contains_cons, Bool.or_eq_false_iff] at h
    have n : g ≠ f := fun z => by
      have := h.1
      rw [z] at this
      simp at this
    rw [putD, if_neg n, putD_new h.2]
    rfl
/-- self.f = e, a field that is not there yet -/
theorem sx_new {X : Cx} {env : List Sl} {n : Nat} {p : Addr} {te : TE} {N Bk Ct : List Sl → Prop} {R : Bool → D → Prop} {f : Str} {C : Addr} {fs : List (Str × D)} {ff : List Str} {mg : Str → Option Value} {x : Str} (o : OC X.c.K mg x C ff) (e : env[n]? = some (.own p (.o C fs))) (hf : ff.contains f = true) (hl : fs.length.ble 800 = true) (hn : (fs.map (·.1)).contains f = false) (h : EV X env te fun d => SetN n (.own p (.o C (fs ++ [(f, d)]))) env N) : SX X env (sFld X.c.K (tVar n) te f) N R Bk Ct :=
  sx_fld e o (by simpa using hf) (by have := Nat.le_of_ble_eq_true hl; omega) (ev_mid _ h fun d q => by rw [putD_new hn]; exact q)
/-! ### isinstance of own objects -/
section
variable {c : Cp} {P : D → Prop} {m m2 : String} {b b2 : Bool} {C : Addr} {fs : List (Str × D)} {ff : List Str} {mg : Str → Option Value} {x : Str}
theorem cb_isiO2 (o : OC c.K mg x C ff) (i : OI c.K C) (k : PySem.W.kitOne c.K (.ref C) (.type m) = some b) (k2 : PySem.W.kitOne c.K (.ref C) (.type m2) = some b2) (p : P (.bl (b || b2))) : BI c (rIsiT c.K) [.obj C fs, .tup [.raw (.ty m), .raw (.ty m2)]] P := fun W G H vs Q w0 tb a0 q => by
  obtain ⟨v, w, rfl, a, a'⟩ := dva2 a0
  cases a' with
  | tup e1 x =>
    obtain ⟨y, z, rfl, y1, z1⟩ := dva2 x
    cases y1; cases z1
    cases a with
    | obj e a =>
      refine ⟨_, _, _, _, [.type m, .type m2], b || b2, rfl, (wo_some.mp e1).2, .cons (.ty m) (.cons (.ty m2) .nil), .base (.ins (wo_some.mp e).2 o.cl i.ha i.hn i.htk i.hm), ?_, q W G _ H _ p (.refl w0) (.bl _)⟩
      exact kitAny_cons k (fun hb => kitAny_cons k2 (fun hb2 => by rw [hb, hb2]; exact kitAny_nil) fun hb2 => by rw [hb2, Bool.or_true]) fun hb => by rw [hb, Bool.true_or]
end
end Pu
/-! sorted(rows): rows are lists of whole numbers -/
namespace Srk
open PySem PySem.Spec PyProof.Rows L2 Evl Lay
abbrev Rw : Type := V × List Int
def leRw (p q : Rw) : Bool := decide (p.2 ≤ q.2)
def rSortRw (K : PySem.W.Frag) : List V → Hp → VK → Prop := fun xs H Q => ∃ (a : Addr) (bs : List Rw), xs = [.ref a] ∧ SqL K H a (bs.map (·.1)) ∧ (∀ b ∈ bs, Dp K H b.1 (.list (b.2.map .int))) ∧ bs.length ≤ 1000000 ∧ ∀ p, H p = none → Q (.ref p) (upd H p (.lst ((bs.mergeSort leRw).map (·.1))))
theorem alike_rw : ∀ x y : List Int, PySem.W.alikeAll (x.map .int) (y.map .int) = true
  | [], y => by cases y <;> simp [PySem.W.alikeAll]
  | a :: x, [] => by simp [PySem.W.alikeAll]
  | a :: x, b :: y => by simp [PySem.W.alikeAll, alike_rw x y, PySem.W.alike]
theorem dep_rw : ∀ x : List Int, (PyData.list (x.map .int)).depth ≤ 1
  | [] => by simp [PyData.depth, PyData.depthAll]
  | a :: x => by
    have := dep_rw x
    simp only [List.map_cons, PyData.depth, PyData.depthAll] at *
    omega
section
variable {X : L2.Cx} {pins : List (Addr × Obj)} {σ : L2.St} {H : Hp} {s : Shared}
theorem inv_sorted {vs out : List Value} {ys : List V} (I : L2.Inv X pins σ H s) (hv : Vals ys out) (hl : ys.length ≤ sizeLine) : L2.Inv X pins σ (upd H (s.heap.objs.size + 1) (.lst ys)) { heap := sortedAll s.heap vs out.toArray, gens := s.gens, drawn := s.drawn, toks := s.toks, os := s.os } := by
  have np : H (s.heap.objs.size + 1) = none := I.hok.fresh (Nat.le_succ _)
  have ne : ∀ b u, H b = some u → b ≠ s.heap.objs.size + 1 := fun b u e z => by rw [z, np] at e; cases e
  have nh : ∀ b o, s.heap.get? b = some o → b ≠ s.heap.objs.size + 1 := fun b o e z => by
    have : b < s.heap.objs.size := by
      unfold Heap.get? at e
      split at e
      · cases e
      · exact (Array.getElem?_eq_some_iff.mp e).1
    rw [z] at this
    exact absurd this (Nat.not_lt.mpr (Nat.le_succ _))
  have old : ∀ b o, s.heap.get? b = some o → (sortedAll s.heap vs out.toArray).get? b = some o := fun b o e => sortedAll_old e
  exact I.step (g' := s.gens) (d' := s.drawn) (t' := s.toks) (ch := []) (fun b hb => by cases hb) (fun b o _ _ _ e _ => old b o e) (fun b o _ _ _ e _ => ⟨o.slots, old b o e⟩) (fun b o _ e n => by rw [upd_ne (nh b o e)]; exact n) (fun b o _ e => ⟨o, old b o e⟩)
    (fun b xs e => by rw [upd_ne (ne b _ e)]; exact e) (fun b o u e => by rw [upd_ne (ne b _ e)]; exact e) (fun b ps e => ⟨#[], by rw [upd_ne (ne b _ e), e]; simp⟩) (fun m ⟨o, es, ep, h1, r⟩ => ⟨o, es, ep, old _ _ h1, r⟩) (fun b u e => by
      by_cases hb : b = s.heap.objs.size + 1
      · subst hb
        rw [upd_same] at e
        cases e
        obtain ⟨e, he⟩ := sortedAll_at s.heap vs out.toArray
        exact ⟨hl, out, e, hv, he⟩
      · rw [upd_ne hb] at e
        exact (I.hok b u e).stay (fun c v _ q => old c v q) (fun c q => by rw [upd_ne (ne c _ q)]; exact q) fun c xs q => by rw [upd_ne (ne c _ q)]; exact q) I.bare
theorem rw_items {K : PySem.W.Frag} : ∀ {bs : List Rw} {us : List Value}, Vals (bs.map (·.1)) us → PySem.W.EachIs (fun u (b : Rw) => RelV b.1 u) us bs
  | [], us, h => by cases h; exact .nil
  | b :: bs, us, h => by
    cases h with
    | cons a r => exact .cons a (rw_items (K := K) r)
theorem rw_back : ∀ {bs : List Rw} {us : List Value}, PySem.W.EachIs (fun u (b : Rw) => RelV b.1 u) us bs → Vals (bs.map (·.1)) us
  | _, _, .nil => .nil
  | _, _, .cons a r => .cons a (rw_back r)
theorem rw_reads (I : L2.Inv X pins σ H s) : ∀ {bs : List Rw} {us : List Value}, (∀ b ∈ bs, Dp X.K H b.1 (.list (b.2.map .int))) → PySem.W.EachIs (fun u (b : Rw) => RelV b.1 u) us bs → PySem.W.EachIs (fun v (b : Rw) => ∃ as, Reads s.heap v (.list (b.2.map .int)) as) us bs
  | _, _, _, .nil => .nil
  | b :: bs, u :: us, h, .cons a r => .cons (Dp.reads I _ _ _ (h b List.mem_cons_self) a) (rw_reads I (fun c hc => h c (List.mem_cons_of_mem _ hc)) r)
end
theorem cr_sortRw {X : L2.Cx} (hu : X.A.units + 64 < cLine) : CallR X (.builtin "sorted") (rSortRw X.K) := by
  intro pins s σ H xs us Q I r ⟨a, bs, e, hs, hd, hl, q⟩
  subst e
  cases r with
  | cons r1 r2 =>
    cases r2
    cases (show _ = Value.ref a from r1)
    obtain ⟨its, hv, hp, hz⟩ := I.list hs
    have hp2 : s.heap.IsList a its.toArray := by
      obtain ⟨o, n, h1, h2, _, h4⟩ := hp
      exact ⟨o, h1, h2, n, h4⟩
    have hE := rw_items (K := X.K) hv
    have hle : (PySem.W.dataLe false fun b : Rw => PyData.list (b.2.map PyData.int)) = leRw := PySem.W.dataLe_rows (fun b : Rw => b.2)
    have al : PySem.W.AllAlike (bs.map fun b : Rw => PyData.list (b.2.map PyData.int)) := fun d hd d' hd' => by
      obtain ⟨x, _, rfl⟩ := List.mem_map.mp hd
      obtain ⟨y, _, rfl⟩ := List.mem_map.mp hd'
      show PySem.W.alikeAll _ _ = true
      exact alike_rw _ _
    have so : PySem.W.Sortable (bs.map fun b : Rw => PyData.list (b.2.map PyData.int)) := .inr fun d hd => by
      obtain ⟨x, _, rfl⟩ := List.mem_map.mp hd
      exact ⟨(fun z => by cases z), (fun xs z => by cases z)⟩
    refine PySem.W.sorted_data (enc := fun b : Rw => PyData.list (b.2.map PyData.int)) (R := fun u (b : Rw) => RelV b.1 u) hp2 hE (rw_reads I hd hE) al so (by rw [sizeLine_eq]; omega) (fun b _ => by have := dep_rw b.2; show _ + 2 + (PyData.list (b.2.map PyData.int)).depth < _; omega) fun out ho hout => ?_
    rw [hle] at hout
    have hv2 := rw_back hout
    have hl2 : ((bs.mergeSort leRw).map (·.1)).length ≤ sizeLine := by
      rw [List.length_map, List.length_mergeSort, sizeLine_eq]
      omega
    exact ⟨.ref (s.heap.objs.size + 1), _, inv_sorted I hv2 hl2, rfl, q _ (I.hok.fresh (Nat.le_succ _))⟩
end Srk
/-! the pure layer: defs that return None or a new list; try; sorted rows -/
namespace Pu
open PySem PySem.Spec PyProof.Rows L2 Evl Lay
abbrev PB : Type := List D → (Bool → D → Prop) → (Er → Prop) → Prop
/-- a def's promise: what is returned is a new list where R's flag says so -/
def spB (K : PySem.W.Frag) (T : List (Addr × Str)) (f : PB) : Sp := fun vs H Q E => ∃ W G ds R er, WG W G H ∧ LamX.Tabs T H ∧ DvA K W G H vs ds ∧ f ds R er ∧ (∀ b d W' G' v H', R b d → ES T W G H W' G' H' → Dv K W' G' H' v d → (b = true → Fr K W' G' H H' v d) → Q v H') ∧
  (∀ e W' G' d H', er e → ES T W G H W' G' H' → H' d = some (.xd e.fs) → E (.ref e.c) (some d) H')
section
variable {X : Cx} {env : List Sl} {P : D → Prop} {Pl : List D → Prop} {tr : TA}
theorem ev_callB {f : PB} (h : EA X env tr fun ds => f ds (fun _ d => P d) (X.er env)) : EV X env (tCallS (spB X.c.K X.c.T f) X.c.E tr) P := fun gd W G σ H Q S er q =>
  h gd W G σ H _ S er fun W1 G1 v H1 x hx e1 d1 => ⟨W1, G1, x, fun _ d => P d, X.er env, e1.t, (S.step e1).tb, d1, hx, fun b d W' G' v H' hd e2 dv _ => q W' G' v H' d hd (e1.trans e2) dv, fun e W' G' d H' he e2 hd => er env e W' G' σ H' d he ((S.step e1).step e2) hd⟩
theorem ef_callB {f : PB} (h : EA X env tr fun ds => f ds (fun b d => b = true ∧ ∃ xs, d = .lst xs ∧ Pl xs) (X.er env)) : EF X env (tCallS (spB X.c.K X.c.T f) X.c.E tr) Pl := fun gd W G σ H Q S er q =>
  h gd W G σ H _ S er fun W1 G1 v H1 x hx e1 d1 => ⟨W1, G1, x, _, X.er env, e1.t, (S.step e1).tb, d1, hx, fun b d W' G' v H' ⟨hb, xs, hd, hp⟩ e2 dv fr => by
      subst hd
      obtain ⟨p, vs, ds, e, e', h1, r⟩ := fr hb
      exact q W' G' v H' xs hp (e1.trans e2) ⟨p, vs, ds, e, e', e1.fr p h1, r⟩, fun e W' G' d H' he e2 hd => er env e W' G' σ H' d he ((S.step e1).step e2) hd⟩
end
section
variable {P : Program} {w : World} {K : PySem.W.Frag} {mg : Str → Option Value} {base : Heap} {T : List (Addr × Str)}
abbrev BodyB (K : PySem.W.Frag) (T : List (Addr × Str)) (N : List Str) (t : TS) (f : PB) (E : XK) : Prop := ∀ (B : Hp) (W0 G0 : Addr → Bool) ds R er, f ds R er →
  SX ⟨⟨K, T, B, W0, G0, fun _ => E⟩, fun _ => er⟩ (ds.map Sl.d ++ List.replicate (N.length - ds.length) .no) t (fun _ => R false .non) (fun b d => R b d) NoE NoE
theorem bodyB_run {N : List Str} {t : TS} {f : PB} {E : XK} (h : BodyB K T N t f E) {vs : List V} {H : Hp} {Q : VK} (s : spB K T f vs H Q E) : t { nx := fun _ H' => Q .non H', rt := Q, bk := fun _ _ => False, ct := fun _ _ => False } (start N vs) H := by
  obtain ⟨W, G, ds, R, er, w, tb, a, hf, q, qe⟩ := s
  refine h H W G ds R er hf [] W G _ H _ ?_ ?_
  · have := st_start (E := fun _ => E) w tb a N.length
    rw [← a.len] at this ⊢
    exact this
  · exact ⟨fun env W' G' σ H' k S => q false .non _ G' .non H' k S.es .non (fun z => by cases z), fun b d W' G' v H' k e dv fr => q b d W' G' v H' k e dv fr, fun _ _ _ _ _ k => k.elim, fun _ _ _ _ _ k => k.elim, err_start qe⟩
theorem defB {x : Str} {st : Stmt} {N ps : List Str} {k : Nat} {f : PB} (F : At K mg x st ps) (S : FnScope N ps (defScope st)) (len : ∀ ds R er, f ds R er → ds.length = ps.length)
    (hb : ∀ (f0 : Addr) (cdv : Value) (A : Around) (outer : List Env) (s : Shared) (H : Hp) (vs : List V) (Q : VK) (E : XK), Room k (A.deeper (envOfC x (defScope st) s.heap.objs.size f0 cdv)) → ∃ t, PSs (cxOf (L2.CX P w) P w K mg base N x (defScope st) f0 cdv A outer s H E) (defBody st) t ∧ BodyB K T N t f E) : Def P w K mg base x (k + 1) ps (spB K T f) := by
  refine Def.mk' F S (fun vs H Q E ⟨_, _, ds, R, er, _, _, a, hf, _⟩ => a.len.trans (len _ _ _ hf)) fun f0 cdv A outer s H vs Q E hr h => ?_
  obtain ⟨t, ht, hbody⟩ := hb f0 cdv A outer s H vs Q E hr
  exact ⟨t, ht, bodyB_run hbody h⟩
end
/-- o[i], o an owned list of ints -/
theorem ev_ixOI {X : Cx} {env : List Sl} {n : Nat} {p : Addr} {te : TE} {P : D → Prop} {ns : List Int} (e : env[n]? = some (.own p (.l (ns.map D.int)))) (h : EV X env te fun x => ∃ i : Int, x = .int i ∧ (0 ≤ i ∧ i < ns.length) ∧ P (.int (gA ns i))) : EV X env (tOp (rIxL X.c.K) (tVar n) te) P := ev_ixOm e h
/-- o[k] = z, o an owned list of ints -/
theorem gx_subI {X : Cx} {env : List Sl} {n : Nat} {p : Addr} {ti : TE} {N : List Sl → Prop} {ns : List Int} {z : Int} (e : env[n]? = some (.own p (.l (ns.map D.int)))) (h : EV X env ti fun d => ∃ i : Int, d = .int i ∧ (0 ≤ i ∧ i < ns.length) ∧ SetN n (.own p (.l ((ns.set i.toNat z).map D.int))) env N) : GX X env (gSub (tVar n) ti rSetL) (.int z) N :=
  gx_sub (k := Int.toNat) e (ev_mid _ h fun d ⟨i, h1, ⟨h2, h3⟩, h4⟩ => ⟨i, h1, .inl ⟨h2, by omega, by rw [List.length_map]; omega⟩, by rw [List.map_set] at h4; exact h4⟩)
/-! ### try -/
section
variable {X : Cx} {env : List Sl} {N Bk Ct : List Sl → Prop} {R : Bool → D → Prop} {l : List ClA} {W0 : WX} {tb : WX → TS}
/-- what a clause returns is wished for -/
def CaughtR (K : PySem.W.Frag) (l : List ClA) (R : Bool → D → Prop) (env : List Sl) (e : Er) : Prop := ∃ Ng : List Str, Ng.length = env.length ∧ CaughtP K Ng l (R false) e
theorem sx_try (h : ∀ W : WX, SX ⟨⟨X.c.K, X.c.T, X.c.B, X.c.W0, X.c.G0, WE W⟩, CaughtR X.c.K l R⟩ env (tb W) N R Bk Ct) : SX X env (fun D σ H => tb (wManyA X.c.K W0 D l) D σ H) N R Bk Ct := fun gd W G σ H Z S L => by
  refine h (wManyA X.c.K W0 Z l) gd W G σ H Z ⟨S.t, S.b0, S.es, S.w0, S.wb, S.tb, S.len, S.sl, fun i p o z => ⟨(S.ow i p o z).w, (S.ow i p o z).g, (S.ow i p o z).b, (S.ow i p o z).at_⟩, S.nd, S.gh⟩ ⟨fun env W G σ H k S => L.nx env W G σ H k ⟨S.t, S.b0, S.es, S.w0, S.wb, S.tb, S.len, S.sl, fun i p o z => ⟨(S.ow i p o z).w, (S.ow i p o z).g, (S.ow i p o z).b, (S.ow i p o z).at_⟩, S.nd, S.gh⟩, L.rt, fun env W G σ H k S => L.bk env W G σ H k ⟨S.t, S.b0, S.es, S.w0, S.wb, S.tb, S.len, S.sl, fun i p o z => ⟨(S.ow i p o z).w, (S.ow i p o z).g, (S.ow i p o z).b, (S.ow i p o z).at_⟩, S.nd, S.gh⟩, fun env W G σ H k S => L.ct env W G σ H k ⟨S.t, S.b0, S.es, S.w0, S.wb, S.tb, S.len, S.sl, fun i p o z => ⟨(S.ow i p o z).w, (S.ow i p o z).g, (S.ow i p o z).b, (S.ow i p o z).at_⟩, S.nd, S.gh⟩, ?_⟩
  intro env2 e W2 G2 σ2 H2 d ⟨Ng, hn, vs, ds, hw, hd, hp⟩ S2 hx
  refine hw _ _ σ2 H2 d (by rw [S2.len, hn]) hx fun t H3 nt ex ht => ?_
  have e3 : ES X.c.T W2 G2 H2 W2 G2 H3 := .ofEx S2.t ex
  have e2 : ES X.c.T X.c.W0 X.c.G0 X.c.B (wg X.c.W0 G2) G2 H2 := S2.es
  have e4 : ES X.c.T (wg X.c.W0 G2) G2 H2 (wg X.c.W0 G2) G2 H3 := .ofEx e2.t ex
  exact L.rt false (.tup ds) _ _ (.ref t) H3 hp (e2.trans e4) (.tup (wo_some.mpr ⟨bf fun z => e2.t.wd t z (nn_of nt), ht⟩) (hd _ _ _)) fun z => by cases z
end
/-! ### sorted rows -/
@[reducible] def rwD (x : List Int) : D := .lst (x.map D.int)
instance en_rw : En rwD 1 := (en_int.lst : En (fun xs : List Int => D.lst (xs.map D.int)) 1)
theorem rwD_inj {a b : List Int} (h : rwD a = rwD b) : a = b := by
  unfold rwD at h
  injection h with h
  exact (List.map_inj_right (fun x y z => by injection z)).mp h
section
variable {K : PySem.W.Frag} {W G : Addr → Bool} {H : Hp}
theorem dva_pairs : ∀ {vs : List V} {rs : List (List Int)}, DvA K W G H vs (rs.map rwD) → ∃ bs : List Srk.Rw, bs.map (·.1) = vs ∧ bs.map (·.2) = rs ∧ ∀ b ∈ bs, Dv K W G H b.1 (rwD b.2)
  | [], [], .nil => ⟨[], rfl, rfl, fun b hb => (List.not_mem_nil hb).elim⟩
  | v :: vs, r :: rs, .cons a q => by
    obtain ⟨bs, h1, h2, h3⟩ := dva_pairs q
    refine ⟨(v, r) :: bs, by rw [List.map_cons, h1], by rw [List.map_cons, h2], fun b hb => ?_⟩
    rcases List.mem_cons.mp hb with rfl | hb
    · exact a
    · exact h3 b hb
theorem pairs_dva : ∀ {bs : List Srk.Rw}, (∀ b ∈ bs, Dv K W G H b.1 (rwD b.2)) → DvA K W G H (bs.map (·.1)) ((bs.map (·.2)).map rwD)
  | [], _ => .nil
  | b :: bs, h => .cons (h b List.mem_cons_self) (pairs_dva fun c hc => h c (List.mem_cons_of_mem _ hc))
end
theorem toPys_int : ∀ x : List Int, toPys (x.map D.int) = x.map PyData.int
  | [] => rfl
  | a :: x => by rw [List.map_cons, toPys, toPy, toPys_int x]; rfl
theorem cf_sortRw {c : Cp} {Pl : List D → Prop} {rs : List (List Int)} (hl : rs.length ≤ 1000000) (h : ∀ L : List (List Int), L.Perm rs → L.Pairwise (fun a b => a ≤ b) → Pl (L.map rwD)) : CF c (Srk.rSortRw c.K) [.lst (rs.map rwD)] Pl := fun W G H vs Q w0 tb a0 q => by
  obtain ⟨v, rfl, a⟩ := dva1 a0
  cases a with
  | @lst p vs _ e a =>
    obtain ⟨bs, rfl, rfl, hb⟩ := dva_pairs a
    have pm := List.mergeSort_perm bs Srk.leRw
    have tr : ∀ a b c : Srk.Rw, Srk.leRw a b = true → Srk.leRw b c = true → Srk.leRw a c = true := fun a b c h1 h2 => decide_eq_true (List.le_trans (of_decide_eq_true h1) (of_decide_eq_true h2))
    have to : ∀ a b : Srk.Rw, (Srk.leRw a b || Srk.leRw b a) = true := fun a b => by
      unfold Srk.leRw
      rcases List.le_total a.2 b.2 with z | z
      · rw [decide_eq_true z]; rfl
      · rw [decide_eq_true z, Bool.or_true]
    have sorted : (bs.mergeSort Srk.leRw).Pairwise (fun a b => Srk.leRw a b = true) := List.pairwise_mergeSort tr to bs
    refine ⟨p, bs, rfl, L2.SqL.of (wo_some.mp e).2, fun b hm => ?_, by rw [List.length_map] at hl; exact hl, fun p2 hp => ?_⟩
    · have := (hb b hm).py (en_rw.p b.2)
      unfold rwD at this
      rw [toPy, toPys_int] at this
      exact this
    · have d2 : DvA c.K W G H ((bs.mergeSort Srk.leRw).map (·.1)) (((bs.mergeSort Srk.leRw).map (·.2)).map rwD) := pairs_dva fun b hm => hb b (pm.mem_iff.mp hm)
      exact q W G _ _ _ (h _ (pm.map _) (List.pairwise_map.mpr (sorted.imp fun h => of_decide_eq_true h))) (.ofEx w0 (Ex.new hp)) (fr_new w0 hp d2)
theorem cb_sortRw {c : Cp} {P : D → Prop} {rs : List (List Int)} (hl : rs.length ≤ 1000000) (h : ∀ L : List (List Int), L.Perm rs → L.Pairwise (fun a b => a ≤ b) → P (.lst (L.map rwD))) : BI c (Srk.rSortRw c.K) [.lst (rs.map rwD)] P := fun W G H vs Q w0 tb a0 q =>
  cf_sortRw (Pl := fun ds => P (.lst ds)) hl h W G H vs Q w0 tb a0 fun W' G' z H' ds p e f => q W' G' z H' _ p e f.dv
/-- a comprehension that picks -/
theorem ef_lcF {X : Cx} {env : List Sl} {Pl : List D → Prop} {wi : TI} {g : TG} {tt : TT} {te : TE} {vs : List Nat} {α : Type} (xs : List α) (h0 : α → D) (p : α → Bool) (hv : GM vs g) (h : IT X env wi fun ds => ds = xs.map h0 ∧ xs.length ≤ 16000000 ∧ (∀ (i : Nat) (x : α), xs[i]? = some x → GPW X vs env g (h0 x) fun e => TV X e tt fun b => b = p x ∧ EV X e te fun d => d = h0 x) ∧ Pl ((xs.filter p).map h0)) : EF X env (tLc wi g tt te vs) Pl := by
  refine ef_lc (fun i acc => acc = ((xs.take i).filter p).map h0) hv fun gd W G σ H R S er k => h gd W G σ H R S er fun W' G' H' J ds gd' ⟨e1, e2, e3, e4⟩ e wk hg => k W' G' H' J ds gd' ?_ e wk hg
  subst e1
  refine ⟨by rw [List.length_map]; exact e2, rfl, fun i d acc hd ha => ?_, fun acc ha => ?_⟩
  · rw [List.getElem?_map] at hd
    cases hx : xs[i]? with
    | none => rw [hx] at hd; cases hd
    | some x =>
      rw [hx] at hd
      cases hd
      refine fun gd W G σ H v Q S dv q => e3 i x hx gd W G σ H v Q S dv fun env' σ' he S' => q env' σ' ?_ S'
      refine fun gd W G σ H Q S er q => he gd W G σ H Q S er fun W' G' b H' ⟨hb, hv⟩ e => q W' G' b H' ?_ e
      have st : (xs.take (i + 1)).filter p = (xs.take i).filter p ++ (if p x = true then [x] else []) := by
        rw [List.take_add_one, hx, List.filter_append]
        congr 1
        simp only [Option.toList, List.filter_cons, List.filter_nil]
      rw [st]
      cases b with
      | true =>
        dsimp only
        rw [if_pos rfl, if_pos hb.symm]
        refine fun gd W G σ H Q S er q => hv gd W G σ H Q S er fun W' G' v H' d hd e dv => q W' G' v H' d ?_ e dv
        rw [hd, ha, List.map_append]
        rfl
      | false =>
        dsimp only
        rw [if_neg (by decide), if_neg (by rw [← hb]; decide), List.append_nil]
        exact ha
  · rw [List.length_map, List.take_length] at ha
    rw [ha]
    exact e4
/-- a comprehension, each thing by its own -/
theorem ef_lcRel {X : Cx} {env : List Sl} {Pl : List D → Prop} {wi : TI} {g : TG} {te : TE} {vs : List Nat} {α β : Type} (xs : List α) (h0 : α → D) (f : β → D) (rel : α → β → Prop) (hv : GM vs g) (h : IT X env wi fun ds => ds = xs.map h0 ∧ xs.length ≤ 16000000 ∧ (∀ (i : Nat) (x : α), xs[i]? = some x → GPW X vs env g (h0 x) fun e => EV X e te fun d => ∃ y, d = f y ∧ rel x y) ∧ ∀ ys : List β, ys.length = xs.length → (∀ (i : Nat) x y, xs[i]? = some x → ys[i]? = some y → rel x y) → Pl (ys.map f)) : EF X env (tLc wi g tYes te vs) Pl := by
  refine ef_lc (fun i acc => ∃ ys : List β, acc = ys.map f ∧ ys.length = i ∧ ∀ (j : Nat) x y, xs[j]? = some x → ys[j]? = some y → rel x y) hv fun gd W G σ H R S er k => h gd W G σ H R S er fun W' G' H' J ds gd' ⟨e1, e2, e3, e4⟩ e wk hg => k W' G' H' J ds gd' ?_ e wk hg
  subst e1
  refine ⟨by rw [List.length_map]; exact e2, ⟨[], rfl, rfl, fun j x y _ h => by simp at h⟩, fun i d acc hd ⟨ys, ha, hl, hr⟩ => ?_, fun acc ⟨ys, ha, hl, hr⟩ => ?_⟩
  · rw [List.getElem?_map] at hd
    cases hx : xs[i]? with
    | none => rw [hx] at hd; cases hd
    | some x =>
      rw [hx] at hd
      cases hd
      refine fun gd W G σ H v Q S dv q => e3 i x hx gd W G σ H v Q S dv fun env' σ' he S' => q env' σ' (tv_yes ?_) S'
      rw [if_pos rfl]
      refine fun gd W G σ H Q S er q => he gd W G σ H Q S er fun W' G' v H' d ⟨y, hd, hy⟩ e dv => q W' G' v H' d ⟨ys ++ [y], by rw [hd, ha, List.map_append]; rfl, by rw [List.length_append, hl]; rfl, fun j x' y' h1 h2 => ?_⟩ e dv
      by_cases c : j < ys.length
      · rw [List.getElem?_append_left c] at h2
        exact hr j x' y' h1 h2
      · rw [List.getElem?_append_right (by omega)] at h2
        by_cases c2 : j = ys.length
        · rw [c2, Nat.sub_self] at h2
          rw [c2, hl, hx] at h1
          cases h1
          cases h2
          exact hy
        · rw [List.getElem?_eq_none (by simp only [List.length_singleton]; omega)] at h2
          cases h2
  · rw [List.length_map] at hl
    rw [ha]
    exact e4 ys hl hr
theorem cutI_to {t : List Int} {a : Nat} (h : a ≤ t.length) : cutD (t.map D.int) none (some (a : Int)) = (t.take a).map D.int := by rw [cutD_to (by rw [List.length_map]; exact h), ← List.map_take]
theorem cutI_from {t : List Int} {a : Nat} (h : a ≤ t.length) : cutD (t.map D.int) (some (a : Int)) none = (t.drop a).map D.int := by rw [cutD_from (by rw [List.length_map]; exact h), ← List.map_drop]
/-! ### counting down -/
def dnD (n : Nat) : List D := (List.range n).map fun i : Nat => .int ((n : Int) - 1 + (i : Int) * (-1))
section
variable {X : Cx} {env : List Sl} {Pl : List D → Prop} {tr : TA} {te : TE}
theorem walks_dn {c : Cp} {lo : Int} {n : Nat} (h : lo = (n : Int) - 1) : Walks c (Itc lo (-1) n) (dnD n) [] := fun W G H w tb hg => by
  subst h
  refine ⟨fun i x hx => ?_, fun i hi => by unfold dnD at hi; rw [List.length_map, List.length_range] at hi; exact hi⟩
  unfold dnD at hx
  rw [List.getElem?_map] at hx
  by_cases hi : i < n
  · rw [List.getElem?_range hi] at hx
    cases hx
    refine ⟨hi, fun v H' y => ?_⟩
    obtain ⟨rfl, rfl⟩ := y
    exact ⟨.refl w, .int _⟩
  · rw [List.getElem?_eq_none (by simpa using hi)] at hx
    cases hx
theorem rgs_dn {n : Nat} : Builtin.Range.rangeSize ((n : Int) - 1) (-1) (-1) = n := by
  unfold Builtin.Range.rangeSize
  rw [if_neg (by decide)]
  split
  · rw [show (- -1 : Int) = 1 from rfl, Int.ediv_one]
    omega
  · omega
theorem rgc_dn {n : Nat} (h : n ≤ 1000000) : RgC ((n : Int) - 1) (-1) (-1) n := by
  refine ⟨by decide, by decide, ?_, rgs_dn⟩
  unfold Builtin.Range.small
  rw [rgs_dn]
  rw [if_neg (by decide)]
  unfold Builtin.Range.rangeFitsLong
  simp only [Bool.and_eq_true, Bool.or_eq_true, decide_eq_true_eq]
  refine ⟨⟨⟨⟨?_, ?_⟩, ?_⟩, ?_⟩, .inr ?_⟩ <;> omega
/-- for j in range(n - 1, -1, -1) -/
theorem it_rng3 (h : EA X env tr fun ds => ∃ n : Nat, ds = [.int ((n : Int) - 1), .int (-1), .int (-1)] ∧ n ≤ 1000000 ∧ Pl (dnD n)) : IT X env (iRng3 tr) Pl := fun gd W G σ H R S er q =>
  h gd W G σ H _ S er fun W1 G1 vs H1 ds ⟨n, e, h1, hp⟩ e1 d0 => by
    subst e
    cases d0 with
    | cons a r =>
      obtain ⟨v, w, rfl, d1, d2⟩ := dva2 r
      cases a; cases d1; cases d2
      exact ⟨_, _, _, n, rfl, rgc_dn h1, q W1 G1 H1 _ (dnD n) [] hp e1 (walks_dn rfl) fun q hq => (List.not_mem_nil hq).elim⟩
/-- for j in reversed(range(n)) -/
theorem it_revR (h : EV X env te fun d => ∃ n : Nat, d = .int n ∧ n ≤ 1000000 ∧ Pl (dnD n)) : IT X env (iRevR (tRg1 te)) Pl := fun gd W G σ H R S er q =>
  h gd W G σ H _ S er fun W1 G1 v H1 d ⟨n, e, h1, hp⟩ e1 d0 => by
    subst e
    cases d0
    refine ⟨_, rfl, by omega, by omega, by omega, by omega, ?_⟩
    rw [show ((n : Int) - 0).toNat = n by omega]
    exact q W1 G1 H1 _ (dnD n) [] hp e1 (walks_dn (by omega)) fun q hq => (List.not_mem_nil hq).elim
variable {N : List Sl → Prop} {R : Bool → D → Prop} {g : TG} {ts : TS}
theorem eachDn {n : Nat} (I : Nat → List Sl → Prop) (h0 : I n env) (hs : ∀ j e, j < n → I (j + 1) e → GX X e g (.int (j : Nat)) fun e' => SX X e' ts (I j) R N (I j)) (hn : ∀ e, I 0 e → N e) : ∃ J : Nat → List Sl → Prop, J 0 env ∧ (∀ i x e, (dnD n)[i]? = some x → J i e → GX X e g x fun e' => SX X e' ts (J (i + 1)) R N (J (i + 1))) ∧ ∀ e, J (dnD n).length e → N e := by
  refine ⟨fun i e => I (n - i) e, by simpa using h0, fun i d e hx hi' => ?_, fun e h => hn e ?_⟩
  · unfold dnD at hx
    rw [List.getElem?_map] at hx
    by_cases c : i < n
    · rw [List.getElem?_range c] at hx
      cases hx
      have := hs (n - (i + 1)) e (by omega) (by rw [show n - (i + 1) + 1 = n - i by omega]; exact hi')
      rw [show (((n - (i + 1) : Nat) : Int)) = (n : Int) - 1 + (i : Int) * (-1) by omega] at this
      exact this
    · rw [List.getElem?_eq_none (by simpa using c)] at hx; cases hx
  · unfold dnD at h
    simp only [List.length_map, List.length_range, Nat.sub_self] at h
    exact h
end
end Pu
/-! the pure layer: objects without __init__, lists that are made and changed at once -/
namespace Pu
open PySem PySem.Spec PyProof.Rows L2 Evl Lay
theorem gm_sq {vs : List Nat} {K : PySem.W.Frag} {n : Nat} {gs : TGs} (b : GMs vs gs) : GM vs (Pu.gSq K n gs) :=
  ⟨fun v σ H Q h => h.imp (fun q => (gm_tup b).w v σ H Q q) fun q => (gm_unl b).w v σ H Q q, fun v σ H Q Q' k h => h.imp (fun q => (gm_tup b).m v σ H Q Q' k q) fun q => (gm_unl b).m v σ H Q Q' k q⟩
section
variable {X : Cx} {env : List Sl} {P : D → Prop} {N Bk Ct : List Sl → Prop} {R : Bool → D → Prop} {te ta : TE} {C : Addr}
/-- C(), C without __init__ -/
theorem ev_mk00 (h : P (.obj C [])) : EV X env (tMk00 C) P := fun gd W G σ H Q S er q x dx nx nd ne => by
  have E1 : Ex H (upd (upd H dx (.own x)) x (.ins C dx [])) := fun b o hb => by
    rw [upd_ne (ne_of_none hb nx), upd_ne (ne_of_none hb nd)]
    exact hb
  exact q W G (.ref x) _ _ h (.ofEx S.t E1) (.obj (wo_some.mpr ⟨bf fun z => S.t.wd x z (nn_of nx), upd_same⟩) .nil)
/-- e.append(x), e a new list -/
theorem sx_appF (h : EF X env te fun ds => EV X env ta fun _ => ds.length < 16000000 ∧ N env) : SX X env (tDrop (tBM X.c.K "list" rAppend te (tCons ta tNil))) N R Bk Ct := fun gd W G σ H Z S L => by
  refine h gd W G σ H _ S L.er fun W1 G1 v H1 ds hd e1 fr => ?_
  obtain ⟨p, vs, ds', rfl, e', h1, h2, h3, h4⟩ := fr
  cases e'
  refine ⟨.inl ⟨rfl, _, L2.SqL.of h3⟩, ?_⟩
  refine hd gd W1 G1 σ H1 _ (S.step e1) L.er fun W2 G2 u H2 d ⟨hl, hn⟩ e2 d2 => ?_
  have g1 : G1 p = false := bf fun z => tf (e1.t.gw p z) h2
  have g2 : G2 p = false := bf fun z => (e2.gn p z).elim (fun q => tf q g1) fun q => sn q h3 nt_l
  have h5 : H2 p = some (.lst vs) := e2.xg.ex p _ g1 h3 nt_l
  have e3 := e1.trans e2
  have same : ∀ b, b ≠ p → upd H2 p (.lst (vs ++ [u])) b = H2 b := fun b n => upd_ne n
  have nnb : ∀ b, nn (upd H2 p (.lst (vs ++ [u]))) b → nn H2 b := fun b h => by
    by_cases z : b = p
    · subst z
      exact (sn h upd_same nt_l)
    · intro o ho
      exact h o (by rw [same b z]; exact ho)
  have pur : ∀ a, G2 a = true → Pur H2 a → Pur (upd H2 p (.lst (vs ++ [u]))) a := fun a g h => pur_upd h (fun z => tf g (z ▸ g2))
  have e4 : ES X.c.T W G H W2 G2 (upd H2 p (.lst (vs ++ [u]))) := ⟨e3.s, ⟨fun a o g ho n => by
      have na : a ≠ p := fun z => sn h1 (z ▸ ho) n
      rw [same a na]
      exact e3.xg.ex a o g ho n, fun a g ho => pur a (e3.g a g) (e3.xg.pu a g ho), fun t => Tabs.exb (e3.xg.tb t) (fun a o n ho => by rw [same a n]; exact ho) (.inl ⟨_, h5⟩)⟩, e3.w, e3.g, e3.wn, e3.gn,
      ⟨e3.t.gw, fun a hw hz => e3.t.wd a hw (nnb a hz), fun a g => pur a g (e3.t.gp a g)⟩⟩
  have hlen : vs.length = ds.length := h4.len
  exact ⟨p, vs, u, rfl, rfl, h5, by rw [hlen, PySem.sizeLine_eq]; omega, L.nx _ W2 G2 σ _ hn (S.step e4)⟩
/-- what is owned is read, a new list of ints is made -/
theorem ef_frzI {Pl : List D → Prop} {env' : List Sl} [f : FrzC env env'] (h : EF X env' te fun ds => ∃ ns : List Int, ds = ns.map D.int ∧ Pl ds) : EF X env te Pl := fun gd W G σ H Q S er q => by
  rw [← f.eq] at h
  obtain ⟨W', le, S'⟩ := S.frz
  refine h gd W' G σ H Q S' er fun W1 G1 v H1 ds ⟨ns, e0, hd⟩ e1 fr => ?_
  obtain ⟨p, vs, ds', rfl, e', h1, h2, h3, h4⟩ := fr
  cases e'
  subst e0
  refine q (wg W G1) G1 (.ref p) H1 _ hd (e1.re S.t) ⟨p, vs, _, rfl, rfl, h1, bf fun z => (wg_t.mp z).elim (fun k => S.t.wd p k h1) fun k => tf (e1.t.gw p k) h2, h3, ?_⟩
  rw [h4.ints]
  exact DvA.ofInts _
theorem gx_mono {g : TG} {x : D} {N' : List Sl → Prop} (h : GX X env g x N) (k : ∀ e, N e → N' e) : GX X env g x N' := fun gd W G σ H v Q S er dv q => h gd W G σ H v Q S er dv fun env' W' G' σ' H' hn S' => q env' W' G' σ' H' (k _ hn) S'
theorem gp_mono {g : TG} {x : D} {N' : List Sl → Prop} (h : GP X env g x N) (k : ∀ e, N e → N' e) : GP X env g x N' := fun gd W G σ H v Q S dv q => h gd W G σ H v Q S dv fun env' σ' hn S' => q env' σ' (k _ hn) S'
end
section
variable {P : Program} {w : World} {K : PySem.W.Frag} {mg : Str → Option Value} {base : Heap} {T : List (Addr × Str)}
/-- __init__, the last parameters by their defaults -/
theorem initID {x : Str} {C : Addr} {qual : Str} {st : Stmt} {N ps : List Str} {dvs : List V} {k : Nat} {f : List D → (List (Str × D) → Prop) → (Er → Prop) → Prop} (F : AtID K mg x C qual st ps dvs) (S : FnScope N ps (defScope st)) (hN : 1 ≤ N.length) (len : ∀ ds R er, f ds R er → ds.length + 1 = ps.length)
    (hb : ∀ (f0 : Addr) (cdv : Value) (A : Around) (outer : List Env) (s : Shared) (H : Hp) (vs : List V) (Q : VK) (E : XK), Room k (A.deeper (envOfC qual (defScope st) s.heap.objs.size f0 cdv)) → ∃ t, PSs (cxOf (L2.CX P w) P w K mg base N qual (defScope st) f0 cdv A outer s H E) (defBody st) t ∧ BodyI K T C N t f E) : DID P w K mg base x C (k + 1) ps dvs (spI K T C f) := by
  refine DI.dflt F S (fun vs H Q E ⟨_, _, ws, _, _, ds, _, _, e, _, _, _, a, hf, _⟩ => by rw [e, ← len _ _ _ hf, ← a.len]; rfl) fun f0 cdv A outer s H vs Q E hr h => ?_
  obtain ⟨t, ht, hbody⟩ := hb f0 cdv A outer s H vs Q E hr
  exact ⟨t, ht, bodyI_run hN hbody h⟩
end
end Pu
/-! the pure layer: at the law's own level (nothing is held by a caller): a list inside a list is changed -/
namespace Pu
open PySem PySem.Spec PyProof.Rows L2 Evl Lay
/-! ### statements, no ghosts -/
def SX0 (X : Cx) (env : List Sl) (ts : TS) (N : List Sl → Prop) (R : Bool → D → Prop) (Bk Ct : List Sl → Prop) : Prop := ∀ W G σ H (Z : Ends), StW X.c [] W G env σ H → LiftE X [] N R Bk Ct Z → ts Z σ H
section
variable {X : Cx} {env : List Sl} {N Bk Ct : List Sl → Prop} {R : Bool → D → Prop} {ts tu : TS} {g : TG} {tr : TA}
theorem sx0_of (h : SX X env ts N R Bk Ct) : SX0 X env ts N R Bk Ct := fun W G σ H Z S L => h [] W G σ H Z S L
theorem sx0_seq (h : SX X env ts (fun e => SX0 X e tu N R Bk Ct) R Bk Ct) : SX0 X env (tSeq ts tu) N R Bk Ct := fun W G σ H Z S L => h [] W G σ H _ S (L.with fun e W G σ H hu S => hu W G σ H Z S L)
theorem sx0_seq0 (h : SX0 X env ts (fun e => SX0 X e tu N R Bk Ct) R Bk Ct) : SX0 X env (tSeq ts tu) N R Bk Ct := fun W G σ H Z S L => h W G σ H _ S (L.with fun e W G σ H hu S => hu W G σ H Z S L)
theorem sx0_mono {N' : List Sl → Prop} (h : SX0 X env ts N' R Bk Ct) (k : ∀ e, N' e → N e) : SX0 X env ts N R Bk Ct := fun W G σ H Z S L => h W G σ H Z S ⟨fun e W G σ H hn => L.nx e W G σ H (k e hn), L.rt, L.bk, L.ct, L.er⟩
theorem sx0_forget {n : Nat} (h : SX0 X (env.set n .no) ts N R Bk Ct) : SX0 X env ts N R Bk Ct := fun W G σ H Z S L => by
  have S' := S.setN (n := n) (σ[n]?.getD none)
  have e : σ.set n (σ[n]?.getD none) = σ := by
    apply List.ext_getElem?
    intro i
    by_cases hi : n = i
    · subst hi
      by_cases hl : n < σ.length
      · rw [List.getElem?_set_self hl, List.getElem?_eq_getElem hl]; rfl
      · rw [List.getElem?_eq_none (by simpa using hl), List.getElem?_eq_none (by omega)]
    · rw [List.getElem?_set_ne hi]
  rw [e] at S'
  exact h W G σ H Z S' L
theorem sx0_forget' (n : Nat) {env' : List Sl} [l : SetC n .no env env'] (h : SX0 X env' ts N R Bk Ct) : SX0 X env ts N R Bk Ct := sx0_forget (by rw [l.eq]; exact h)
/-- for .. in range(j) -/
theorem sx0_rng (h : EA X env tr fun ds => ∃ j : Nat, ds = [.int j] ∧ j ≤ 1000000000 ∧ ∃ I : Nat → List Sl → Prop, I 0 env ∧ (∀ i e, i < j → I i e → GX X e g (.int i) fun e' => SX0 X e' ts (I (i + 1)) R N (I (i + 1))) ∧ ∀ e, I j e → N e) : SX0 X env (tFor (iRng1 tr) g ts) N R Bk Ct := fun W G σ H Z S L =>
  h [] W G σ H _ S L.er fun W1 G1 vs H1 ds ⟨j, e, h1, I, h0, hs, hn⟩ e1 d0 => by
    subst e
    obtain ⟨v, rfl, d1⟩ := dva1 d0
    cases d1
    refine ⟨(j : Int), rfl, by omega, by omega, ?_⟩
    have wk : Walks X.c (Itr 0 (j : Int).toNat) ((List.range (j : Int).toNat).map fun i : Nat => .int ((0 : Int) + i)) [] := walks_range
    rw [Int.toNat_natCast] at wk ⊢
    refine ⟨fun i m σ H => m = j - i ∧ i ≤ j ∧ ∃ e W G, I i e ∧ StW X.c [] W G e σ H, ⟨j, by simp, Nat.zero_le _, env, W1, G1, h0, S.step e1⟩, ?_⟩
    rintro i m σ H ⟨rfl, hi, e, W, G, hI, S1⟩
    obtain ⟨w1, w2⟩ := wk W G H S1.t S1.tb fun q hq => (List.not_mem_nil hq).elim
    by_cases hlt : i < j
    · have hx : ((List.range j).map fun i : Nat => D.int ((0 : Int) + i))[i]? = some (.int ((0 : Int) + i)) := by
        rw [List.getElem?_map, List.getElem?_range hlt]; rfl
      obtain ⟨go, yl⟩ := w1 i _ hx
      refine .inr ⟨go, fun σ' H' => ∃ e W G, I (i + 1) e ∧ StW X.c [] W G e σ' H', fun σ' H' ⟨e, W, G, hI, S⟩ => ⟨j - (i + 1), by omega, rfl, hlt, e, W, G, hI, S⟩, fun v H' y => ?_⟩
      obtain ⟨e2, dv⟩ := yl v H' y
      rw [Int.zero_add] at dv
      refine hs i e hlt hI [] W G σ H' v _ (S1.step e2) L.er dv fun e' W' G' σ' H'' hb S' => ?_
      exact hb W' G' σ' H'' _ S' ⟨fun e W G σ H hI S => ⟨e, W, G, hI, S⟩, L.rt, fun e W G σ H k S => L.nx e W G σ H k S, fun e W G σ H hI S => ⟨e, W, G, hI, S⟩, L.er⟩
    · have ei : i = j := by omega
      subst ei
      exact .inl ⟨w2 _ (by simp), L.nx e W G σ H (hn e hI) S1⟩
end
/-! ### data that no list of lists is part of -/
def hdOk : List D → Bool
  | [] => true | .tup _ :: _ => true | .obj _ _ :: _ => true | _ => false
mutual
def sfD : D → Bool
  | .lst xs => hdOk xs && sfs xs | .tup xs => sfs xs | .obj _ fs => sff fs | .scr _ => false | .pur => true | .raw _ => true | .non => true | .bl _ => true | .int _ => true | .str _ => true
def sfs : List D → Bool
  | [] => true | x :: xs => sfD x && sfs xs
def sff : List (Str × D) → Bool
  | [] => true | (_, x) :: r => sfD x && sff r
end
section
variable {K : PySem.W.Frag} {W G : Addr → Bool} {H H' : Hp} {p x : Addr} {vs0 : List V} {a b : Int}
theorem sf_ne (hp : H p = some (.lst (.ref x :: vs0))) (hx : H x = some (.lst [.int a, .int b])) {q : Addr} {vs : List V} {ds : List D} (e : wo W H q = some (.lst vs)) (av : DvA K W G H vs ds) (h : hdOk ds = true) : q ≠ p ∧ q ≠ x := by
  obtain ⟨_, hq⟩ := wo_some.mp e
  constructor
  · rintro rfl
    rw [hp] at hq
    cases hq
    cases av with
    | cons d r =>
      cases d with
      | tup e2 _ => have := (wo_some.mp e2).2; rw [hx] at this; cases this
      | obj e2 _ => have := (wo_some.mp e2).2; rw [hx] at this; cases this
      | _ => cases h
  · rintro rfl
    rw [hx] at hq
    cases hq
    cases av with
    | cons d r =>
      cases d with
      | _ => cases h
mutual
theorem Dv.sf (hp : H p = some (.lst (.ref x :: vs0))) (hx : H x = some (.lst [.int a, .int b])) (e : ∀ q o, q ≠ p → q ≠ x → H q = some o → H' q = some o) (g : ∀ q, G q = true → Pur H q → Pur H' q) : ∀ {v : V} {d : D}, Dv K W G H v d → sfD d = true → Dv K W G H' v d
  | _, _, .non, _ => .non
  | _, _, .bl b, _ => .bl b
  | _, _, .int i, _ => .int i
  | _, _, .str s, _ => .str s
  | _, _, .lst e0 av, h => by
    unfold sfD at h
    rw [Bool.and_eq_true] at h
    obtain ⟨n1, n2⟩ := sf_ne hp hx e0 av h.1
    obtain ⟨w1, w2⟩ := wo_some.mp e0
    exact .lst (wo_some.mpr ⟨w1, e _ _ n1 n2 w2⟩) (DvA.sf hp hx e g av h.2)
  | _, _, .tup e0 av, h => by
    unfold sfD at h
    obtain ⟨w1, w2⟩ := wo_some.mp e0
    exact .tup (wo_some.mpr ⟨w1, e _ _ (fun z => by rw [z, hp] at w2; cases w2) (fun z => by rw [z, hx] at w2; cases w2) w2⟩) (DvA.sf hp hx e g av h)
  | _, _, .obj e0 av, h => by
    unfold sfD at h
    obtain ⟨w1, w2⟩ := wo_some.mp e0
    exact .obj (wo_some.mpr ⟨w1, e _ _ (fun z => by rw [z, hp] at w2; cases w2) (fun z => by rw [z, hx] at w2; cases w2) w2⟩) (DvF.sf hp hx e g av h)
  | _, _, .pur a b, _ => .pur a (g _ a b)
  | _, _, .scr s, h => by unfold sfD at h; cases h
  | _, _, .raw v, _ => .raw v
theorem DvA.sf (hp : H p = some (.lst (.ref x :: vs0))) (hx : H x = some (.lst [.int a, .int b])) (e : ∀ q o, q ≠ p → q ≠ x → H q = some o → H' q = some o) (g : ∀ q, G q = true → Pur H q → Pur H' q) : ∀ {v : List V} {d : List D}, DvA K W G H v d → sfs d = true → DvA K W G H' v d
  | _, _, .nil, _ => .nil
  | _, _, .cons a b, h => by
    unfold sfs at h
    rw [Bool.and_eq_true] at h
    exact .cons (Dv.sf hp hx e g a h.1) (DvA.sf hp hx e g b h.2)
theorem DvF.sf (hp : H p = some (.lst (.ref x :: vs0))) (hx : H x = some (.lst [.int a, .int b])) (e : ∀ q o, q ≠ p → q ≠ x → H q = some o → H' q = some o) (g : ∀ q, G q = true → Pur H q → Pur H' q) : ∀ {v : List (Str × V)} {d : List (Str × D)}, DvF K W G H v d → sff d = true → DvF K W G H' v d
  | _, _, .nil, _ => .nil
  | _, _, .cons a b, h => by
    unfold sff at h
    rw [Bool.and_eq_true] at h
    exact .cons (Dv.sf hp hx e g a h.1) (DvF.sf hp hx e g b h.2)
end
end
def sfS : Sl → Bool
  | .no => true | .d d => sfD d | .own _ (.l ds) => sfs ds | .own _ (.o _ fs) => sff fs
section
variable {c : Cp} {env : List Sl} {σ : L2.St} {W G : Addr → Bool} {H H' : Hp} {p x : Addr} {vs0 : List V} {a b : Int}
theorem StW.spoil (S : StW c [] W G env σ H) (hB : ∀ a, nn c.B a) (hp : H p = some (.lst (.ref x :: vs0))) (hx : H x = some (.lst [.int a, .int b])) (wp : W p = false) (wx : W x = false) (e : ∀ q o, q ≠ p → q ≠ x → H q = some o → H' q = some o) (hp' : ∃ us, H' p = some (.lst us)) (hx' : ∃ us, H' x = some (.lst us)) (sf : env.all sfS = true) : StW c [] W G env σ H' := by
  obtain ⟨up, hp'⟩ := hp'
  obtain ⟨ux, hx'⟩ := hx'
  have px : p ≠ x := fun z => by rw [z, hx] at hp; cases hp
  have gp : ∀ q, G q = true → q ≠ p ∧ q ≠ x := fun q hq => ⟨fun z => tf (S.t.gw q hq) (z ▸ wp), fun z => tf (S.t.gw q hq) (z ▸ wx)⟩
  have pur : ∀ q, G q = true → Pur H q → Pur H' q := fun q hq ⟨a, b, c, h⟩ => ⟨a, b, c, e q _ (gp q hq).1 (gp q hq).2 h⟩
  have fr : ∀ q, nn H' q → nn H q := fun q h o ho n => by
    by_cases z : q = p
    · exact sn (z ▸ h) hp' nt_l
    by_cases y : q = x
    · exact sn (y ▸ h) hx' nt_l
    exact sn h (e q o z y ho) n
  have tbs : LamX.Tabs c.T H → LamX.Tabs c.T H' := fun t => by
    have t1 : LamX.Tabs c.T (fun q => if q = p then H p else H' q) := Tabs.exb (p := x) t (fun q o n h => by
      by_cases z : q = p
      · rw [if_pos z, ← z]; exact h
      · rw [if_neg z]; exact e q o z n h) (.inl ⟨_, hx⟩)
    exact Tabs.exb (p := p) t1 (fun q o n h => by rw [if_neg n] at h; exact h) (.inl ⟨_, by rw [if_pos rfl]; exact hp⟩)
  have all := List.all_eq_true.mp sf
  refine ⟨⟨S.t.gw, fun q h z => S.t.wd q h (fr q z), fun q h => pur q h (S.t.gp q h)⟩, S.b0, ⟨S.b0, ⟨fun q o g h n => (hB q o h n).elim, fun q g h => pur q (S.es.g q g) (S.es.xg.pu q g h), fun t => tbs (S.es.xg.tb t)⟩, S.es.w, S.es.g, S.es.wn, S.es.gn, ⟨S.es.t.gw, fun q h z => S.es.t.wd q h (fr q z), fun q h => pur q h (S.t.gp q h)⟩⟩, S.w0, S.wb, tbs S.tb, S.len, fun i s h => ?_, fun i q o h => ?_, S.nd, fun q h => (List.not_mem_nil h).elim⟩
  · have k := S.sl i s h
    have ks := all s (List.mem_of_getElem? h)
    cases s with
    | no => trivial
    | d d =>
      obtain ⟨v, h1, h2⟩ := k
      exact ⟨v, h1, h2.sf hp hx e pur ks⟩
    | own q o => exact k
  · have ow := S.ow i q o h
    have ks := all _ (List.mem_of_getElem? h)
    have n1 : q ≠ p := fun z => tf ow.w (z ▸ wp)
    have n2 : q ≠ x := fun z => tf ow.w (z ▸ wx)
    refine ⟨ow.w, ow.g, ow.b, ?_⟩
    have k := ow.at_
    cases o with
    | l ds =>
      obtain ⟨vs, h1, h2⟩ := k
      exact ⟨vs, e q _ n1 n2 h1, h2.sf hp hx e pur ks⟩
    | o C fs =>
      obtain ⟨dx, vs, h1, h2⟩ := k
      exact ⟨dx, vs, e q _ n1 n2 h1, h2.sf hp hx e pur ks⟩
end
section
variable {X : Cx} {env : List Sl} {N Bk Ct : List Sl → Prop} {R : Bool → D → Prop} {ts : TS} {n : Nat} {a b i j k : Int} {ds : List D}
/-- xs[0][0] = i; xs.append([j, k]); xs is forgotten -/
theorem sx0_spoil (hB : ∀ a, nn X.c.B a) (e : env[n]? = some (.d (.lst (.lst [.int a, .int b] :: ds)))) (hl : ds.length < 1000000) (sf : (env.set n .no).all sfS = true) (h : SX0 X (env.set n .no) ts N R Bk Ct) :
    SX0 X env (tSeq (tAsg (tC (.int i)) (gSub (tOp (rIxL X.c.K) (tVar n) (tC (.int 0))) (tC (.int 0)) rSetL)) (tSeq (tDrop (tBM X.c.K "list" rAppend (tVar n) (tCons (tLst (tCons (tC (.int j)) (tCons (tC (.int k)) tNil))) tNil))) ts)) N R Bk Ct := fun W G σ H Z S L => by
  obtain ⟨v, h1, h2⟩ := S.sl n _ e
  cases h2 with
  | @lst p vs _ ep ap =>
    obtain ⟨wp, hp⟩ := wo_some.mp ep
    have lv := ap.len
    cases ap with
    | @cons v0 vs0 _ _ d0 r0 =>
      cases d0 with
      | @lst x ws _ ex ax =>
        obtain ⟨wx, hx⟩ := wo_some.mp ex
        have ew : ws = [.int a, .int b] := DvA.ints (ns := [a, b]) ax
        subst ew
        have px : p ≠ x := fun z => by rw [z, hx] at hp; cases hp
        show ∃ v, σ[n]? = some (some v) ∧ _
        refine ⟨_, h1, p, V.ref x :: vs0, 0, V.ref x, rfl, rfl, L2.SqL.of hp, by simp [atI, ixN], ?_⟩
        refine ⟨x, [.int a, .int b], 0, 0, rfl, rfl, hx, by simp [ixN], ?_⟩
        show ∃ v, σ[n]? = some (some v) ∧ _
        refine ⟨_, h1, ?_, ?_⟩
        · exact .inl ⟨rfl, _, L2.SqL.of (xs := V.ref x :: vs0) (by rw [upd_ne px]; exact hp)⟩
        refine ⟨by rw [PySem.sizeLine_eq]; simp, fun q hq => ?_⟩
        have nq : ∀ c, H c ≠ none → c ≠ x → c ≠ q := fun c hc hcx z => hc (by rw [z]; rw [z] at hcx; rw [upd_ne hcx] at hq; exact hq)
        have pq : p ≠ q := nq p (by rw [hp]; exact fun z => by cases z) px
        have xq : x ≠ q := fun z => by rw [← z, upd_same] at hq; cases hq
        refine ⟨p, V.ref x :: vs0, _, rfl, rfl, by rw [upd_ne pq, upd_ne px]; exact hp, by rw [PySem.sizeLine_eq]; simp only [List.length_cons] at lv ⊢; omega, ?_⟩
        have S0 := S.setN (n := n) (σ[n]?.getD none)
        have es : σ.set n (σ[n]?.getD none) = σ := by
          apply List.ext_getElem?
          intro i
          by_cases hi : n = i
          · subst hi
            by_cases hl : n < σ.length
            · rw [List.getElem?_set_self hl, List.getElem?_eq_getElem hl]; rfl
            · rw [List.getElem?_eq_none (by simpa using hl), List.getElem?_eq_none (by omega)]
          · rw [List.getElem?_set_ne hi]
        rw [es] at S0
        refine h W G σ _ Z (S0.spoil hB hp hx wp wx (fun c o n1 n2 hc => ?_) ⟨_, upd_same⟩ ⟨_, by rw [upd_ne px.symm, upd_ne xq, upd_same]⟩ sf) L
        rw [upd_ne n1, upd_ne (nq c (by rw [hc]; exact fun z => by cases z) n2), upd_ne n2]
        exact hc
end
/-! ### the law: no caller holds anything -/
theorem bodyL_run {K : PySem.W.Frag} {T : List (Addr × Str)} {cs : List (Addr × Addr)} {N : List Str} {t : TS} {E : XK} (h : ∀ (B : Hp) (W0 G0 : Addr → Bool), (∀ a, nn B a) → ∀ ns : List Int, ns.length ≤ 63 → SX0 ⟨⟨K, T, B, W0, G0, fun _ => E⟩, fun _ _ => False⟩ ([.d (.scr ns)] ++ List.replicate (N.length - 1) .no) t NoE (fun _ d => d = .bl true) NoE NoE) {vs : List V} {H : Hp} {Q : VK} (hT : ∀ p ∈ T, ∃ c, (c, p.1) ∈ cs) (s : spLawT K cs vs H Q E) : t { nx := fun _ H' => Q .non H', rt := Q, bk := fun _ _ => False, ct := fun _ _ => False } (start N vs) H := by
  obtain ⟨a, ns, rfl, hs, hl, tt, q⟩ := s
  have tb : LamX.Tabs T H := fun p hp => by
    obtain ⟨c, hc⟩ := hT p hp
    exact LamX.TabS.nil (tt _ hc)
  let W : Addr → Bool := fun _ => false
  have w : WG W W H := ⟨fun _ h => (by cases h), fun _ h => (by cases h), fun _ h => (by cases h)⟩
  have av : DvA K W W H [.ref a] [.scr ns] := .cons (.scr (sq_tr (fun b o h _ => wo_some.mpr ⟨rfl, h⟩) hs)) .nil
  let B : Hp := fun a => match H a with
    | some (.tbl ps) => some (.tbl ps) | _ => none
  have hB : ∀ a, nn B a := fun a o ho nt => by
    have : (match H a with
      | some (.tbl ps) => some (HO.tbl ps) | _ => none) = some o := ho
    split at this
    · cases this; exact nt _ rfl
    · cases this
  have S := st_start (E := fun _ => E) w tb av N.length
  have S2 : StW ⟨K, T, B, W, W, fun _ => E⟩ [] W W ([Sl.d (.scr ns)] ++ List.replicate (N.length - 1) .no) ([some (V.ref a)] ++ List.replicate (N.length - 1) none) H := by
    refine { S with b0 := ⟨fun _ h => (by cases h), fun _ h => (by cases h), fun _ h => (by cases h)⟩, es := ⟨⟨fun _ h => (by cases h), fun _ h => (by cases h), fun _ h => (by cases h)⟩, ⟨fun a o _ ho nt => (hB a o ho nt).elim, fun _ h => (by cases h), fun _ => tb⟩, fun _ h => (by cases h), fun _ h => (by cases h), fun _ h => (by cases h), fun _ h => (by cases h), ⟨fun _ h => (by cases h), fun _ h => (by cases h), fun _ h => (by cases h)⟩⟩, w0 := fun _ h => (by cases h), wb := fun _ h => (by cases h), ow := fun i p o hh => ?_ }
    have ow := S.ow i p o hh
    exact absurd ow.w (by decide)
  refine h B W W hB ns hl W W _ H _ S2 ⟨fun _ _ _ _ _ k _ => k.elim, fun b d W' G' v H' k e dv _ => ?_, fun _ _ _ _ _ k => k.elim, fun _ _ _ _ _ k => k.elim, fun env e W G σ H d he => he.elim⟩
  subst k
  cases dv
  exact q H'
end Pu
/-! the pure layer: repr; x is True; a list whose lists are changed one by one -/
namespace Pu
open PySem PySem.Spec PyProof.Rows L2 Evl Lay
/-! ### defs that know that nothing is being shown -/
section
variable {P : Program} {w : World} {K : PySem.W.Frag} {mg : Str → Option Value} {base : Heap} {T : List (Addr × Str)}
theorem defPG {x : Str} {st : Stmt} {N ps : List Str} {k : Nat} {f : PF} (F : At K mg x st ps) (S : FnScope N ps (defScope st)) (len : ∀ ds R er, f ds R er → ds.length = ps.length)
    (hb : ∀ (f0 : Addr) (cdv : Value) (A : Around) (outer : List Env) (s : Shared) (H : Hp) (vs : List V) (Q : VK) (E : XK), (A.deeper (envOfC x (defScope st) s.heap.objs.size f0 cdv)).guards = some [] → Room k (A.deeper (envOfC x (defScope st) s.heap.objs.size f0 cdv)) → ∃ t, PSs (cxOf (L2.CX P w) P w K mg base N x (defScope st) f0 cdv A outer s H E) (defBody st) t ∧ BodyP K T N t f E) : DefG P w K mg base x (k + 1) ps (spP K T f) := by
  refine DefG.mk' F S (fun vs H Q E ⟨_, _, ds, R, er, _, _, a, hf, _⟩ => a.len.trans (len _ _ _ hf)) fun f0 cdv A outer s H vs Q E hG hr h => ?_
  obtain ⟨t, ht, hbody⟩ := hb f0 cdv A outer s H vs Q E hG hr
  exact ⟨t, ht, bodyP_run hbody h⟩
end
/-! ### where a walk halts -/
section
variable {X : Cx} {env : List Sl} {te : TE} {N Bk Ct : List Sl → Prop} {R : Bool → D → Prop} {n : Nat} {wi : TI} {g : TG} {ts : TS}
theorem stop_ret (h : SX X env (tRet te) N R Bk Ct) : SX X env (tRet te) N R Bk Ct := h
theorem stop_drop (h : SX X env (tDrop te) N R Bk Ct) : SX X env (tDrop te) N R Bk Ct := h
theorem stop_asg (h : SX X env (tAsg te g) N R Bk Ct) : SX X env (tAsg te g) N R Bk Ct := h
end
/-! ### repr -/
/-- may be shown -/
structure Sh (d : D) : Prop where
  l : ∃ xs, d = .lst xs
  p : pl d = true
  t : dpt d ≤ 60
  s : (toPy d).showable = true
  z : (toPy d).shown.length ≤ sizeLine
def shD (d : D) : Str := (toPy d).shown
section
variable {c : Cp} {P : D → Prop} {d : D} {a b : Bool}
theorem cb_repr (h : Sh d) (k : P (.str (shD d))) : BI c (rRepr c.K) [d] P := fun W G H vs Q w0 tb a0 q => by
  obtain ⟨v, rfl, a⟩ := dva1 a0
  obtain ⟨xs, rfl⟩ := h.l
  cases id a with
  | lst e1 e2 => exact ⟨_, _, rfl, a.py h.p, h.s, PyData.hasDict_of_canLay _ (lay_of _ h.p), h.z, Nat.le_trans (dep_of _) h.t, q W G _ H _ k (.refl w0) (.str _)⟩
theorem op_isB (k : P (.bl (decide (a = b)))) : OP c (rIsB false) (.bl a) (.bl b) P := fun W G H v w Q w0 tb d1 d2 q => by
  cases d1; cases d2
  exact ⟨a, b, rfl, rfl, q W G _ H _ k (.refl w0) (.bl _)⟩
theorem op_notB (k : P (.bl (!decide (a = b)))) : OP c (rIsB true) (.bl a) (.bl b) P := fun W G H v w Q w0 tb d1 d2 q => by
  cases d1; cases d2
  exact ⟨a, b, rfl, rfl, q W G _ H _ k (.refl w0) (.bl _)⟩
end
section
variable {c : Cp} {P : D → Prop} {i j : Int}
/-- max, min of two ints in a tuple -/
theorem cb_maxT2 (k : P (.int (if j > i then j else i))) : BI c (rMaxT c.K) [.tup [.int i, .int j]] P := fun W G H vs Q w0 tb a0 q => by
  obtain ⟨v, rfl, a⟩ := dva1 a0
  cases a with
  | tup e1 e2 =>
    have ev := DvA.ints (ns := [i, j]) e2
    subst ev
    refine ⟨_, [i, j], rfl, L2.SqT.of (wo_some.mp e1).2, by simp, fun m hm hle => q W G _ H _ ?_ (.refl w0) (.int _)⟩
    have h1 := hle i (by simp)
    have h2 := hle j (by simp)
    have : m = if j > i then j else i := by
      simp only [List.mem_cons, List.not_mem_nil, or_false] at hm
      split <;> omega
    rw [this]
    exact k
theorem cb_minT2 (k : P (.int (if j < i then j else i))) : BI c (rMinT c.K) [.tup [.int i, .int j]] P := fun W G H vs Q w0 tb a0 q => by
  obtain ⟨v, rfl, a⟩ := dva1 a0
  cases a with
  | tup e1 e2 =>
    have ev := DvA.ints (ns := [i, j]) e2
    subst ev
    refine ⟨_, [i, j], rfl, L2.SqT.of (wo_some.mp e1).2, by simp, fun m hm hle => q W G _ H _ ?_ (.refl w0) (.int _)⟩
    have h1 := hle i (by simp)
    have h2 := hle j (by simp)
    have : m = if j < i then j else i := by
      simp only [List.mem_cons, List.not_mem_nil, or_false] at hm
      split <;> omega
    rw [this]
    exact k
end
/-! lists of ints shown -/
theorem shown_ints : ∀ x : List Int, PyData.shownAll (x.map PyData.int) = x.map fun i => (PyData.int i).shown
  | [] => rfl
  | a :: x => by rw [List.map_cons, PyData.shownAll, shown_ints x]; rfl
theorem showable_ints : ∀ {x : List Int}, (∀ i ∈ x, i.natAbs < 1000000000000) → PyData.showableAll (x.map PyData.int) = true
  | [], _ => rfl
  | a :: x, h => by
    rw [List.map_cons, PyData.showableAll, showable_ints fun i hi => h i (List.mem_cons_of_mem _ hi)]
    have ha := h a List.mem_cons_self
    have : a.natAbs.log2 < 1920 := by
      by_cases z : a.natAbs = 0
      · rw [z]; decide
      · exact Nat.lt_trans ((Nat.log2_lt (k := 40) z).mpr (Nat.lt_trans ha (by decide))) (by decide)
    simp [PyData.showable, this]
theorem sum_le {B : Nat} : ∀ {x : List Nat}, (∀ i ∈ x, i ≤ B) → x.sum ≤ x.length * B
  | [], _ => by simp
  | a :: x, h => by
    have h1 := h a List.mem_cons_self
    have h2 := sum_le (B := B) (x := x) fun i hi => h i (List.mem_cons_of_mem _ hi)
    rw [List.sum_cons, List.length_cons, Nat.add_mul]
    omega
theorem pls_ints : ∀ x : List Int, pls (x.map D.int) = true
  | [] => rfl
  | a :: x => by rw [List.map_cons, pls, pls_ints x]; rfl
theorem dpts_ints : ∀ x : List Int, dpts (x.map D.int) = 0
  | [] => rfl
  | a :: x => by rw [List.map_cons, dpts, dpts_ints x]; rfl
theorem sh_ints {x : List Int} (h : ∀ i ∈ x, i.natAbs < 1000000000000) (l : x.length ≤ 1000000) : Sh (.lst (x.map D.int)) where
  l := ⟨_, rfl⟩
  p := by rw [pl]; exact pls_ints x
  t := by rw [dpt, dpts_ints]; decide
  s := by rw [toPy, toPys_int, PyData.showable]; exact showable_ints h
  z := by
    rw [toPy, toPys_int, PyData.shown, shown_ints]
    have a := listText_len_le (x.map fun i => (PyData.int i).shown)
    have b : ((x.map fun i => (PyData.int i).shown).map (·.length)).sum ≤ ((x.map fun i => (PyData.int i).shown).map (·.length)).length * 14 := sum_le fun n hn => by
      rw [List.map_map] at hn
      obtain ⟨i, hi, rfl⟩ := List.mem_map.mp hn
      have := h i hi
      show (Str.ofString (toString i)).length ≤ 14
      rw [PySem.ofString_length]
      exact Nat.le_trans (int_text_length_le10 (k := 12) (by decide) this) (by decide)
    rw [List.length_map, List.length_map] at b
    rw [List.length_map] at a
    rw [sizeLine_eq]
    omega
/-! ### ranges, comprehensions over them -/
def rgL (lo hi : Int) : List Int := (List.range (hi - lo).toNat).map fun k : Nat => lo + k
theorem rgD_map {lo hi : Int} : rgD lo hi = (rgL lo hi).map D.int := by
  unfold rgD rgL
  rw [List.map_map]
  rfl
theorem mem_rgL {lo hi x : Int} : x ∈ rgL lo hi ↔ lo ≤ x ∧ x < hi := by
  unfold rgL
  rw [List.mem_map]
  constructor
  · rintro ⟨k, hk, rfl⟩
    have := List.mem_range.mp hk
    omega
  · intro h
    exact ⟨(x - lo).toNat, List.mem_range.mpr (by omega), by omega⟩
theorem rgL_len {lo hi : Int} : (rgL lo hi).length = (hi - lo).toNat := by unfold rgL; rw [List.length_map, List.length_range]
section
variable {X : Cx} {env : List Sl} {Pl : List D → Prop} {wi : TI} {g : TG} {tt : TT} {te : TE} {vs : List Nat}
theorem ef_lcRM (lo hi : Int) (f : Int → D) (hv : GM vs g) (h : IT X env wi fun ds => ds = rgD lo hi ∧ hi - lo ≤ 16000000 ∧ (∀ j : Int, lo ≤ j → j < hi → GPW X vs env g (.int j) fun e => EV X e te fun d => d = f j) ∧ Pl ((rgL lo hi).map f)) : EF X env (tLc wi g tYes te vs) Pl :=
  ef_lcM (rgL lo hi) D.int f hv fun gd W G σ H R S er k => h gd W G σ H R S er fun W' G' H' J ds gd' ⟨e1, e2, e3, e4⟩ e wk hg => k W' G' H' J ds gd' ⟨e1.trans rgD_map, by rw [rgL_len]; omega, fun i x hx => by
    have hm := mem_rgL.mp (List.mem_of_getElem? hx)
    exact e3 x hm.1 hm.2, e4⟩ e wk hg
end
section
variable {c : Cp} {P : D → Prop} {k : Int} {ns : List Int}
theorem op_inI (h : P (.bl (decide (k ∈ ns)))) : OP c (rIn c.K false) (.int k) (.lst (ns.map D.int)) P := by
  refine op_inL rfl ?_ ?_
  · rw [List.all_map, List.all_eq_true]
    intro _ _
    rfl
  · rw [if_neg (by decide), inD_int]
    exact h
end
/-! ### ranges with a step -/
def stD (lo c : Int) (n : Nat) : List D := (List.range n).map fun i : Nat => .int (lo + (i : Int) * c)
section
variable {X : Cx} {env : List Sl} {Pl : List D → Prop} {tr : TA} {te : TE}
theorem walks_st {cp : Cp} {lo c : Int} {n : Nat} : Walks cp (Itc lo c n) (stD lo c n) [] := fun W G H w tb hg => by
  refine ⟨fun i x hx => ?_, fun i hi => by unfold stD at hi; rw [List.length_map, List.length_range] at hi; exact hi⟩
  unfold stD at hx
  rw [List.getElem?_map] at hx
  by_cases hi : i < n
  · rw [List.getElem?_range hi] at hx
    cases hx
    refine ⟨hi, fun v H' y => ?_⟩
    obtain ⟨rfl, rfl⟩ := y
    exact ⟨.refl w, .int _⟩
  · rw [List.getElem?_eq_none (by simpa using hi)] at hx
    cases hx
/-- for j in range(lo, hi, c) -/
theorem it_rngC (h : EA X env tr fun ds => ∃ (lo hi c : Int) (n : Nat), ds = [.int lo, .int hi, .int c] ∧ RgC lo hi c n ∧ Pl (stD lo c n)) : IT X env (iRng3 tr) Pl := fun gd W G σ H R S er q =>
  h gd W G σ H _ S er fun W1 G1 vs H1 ds ⟨lo, hi, c, n, e, h1, hp⟩ e1 d0 => by
    subst e
    cases d0 with
    | cons a r =>
      obtain ⟨v, w, rfl, d1, d2⟩ := dva2 r
      cases a; cases d1; cases d2
      exact ⟨_, _, _, n, rfl, h1, q W1 G1 H1 _ (stD lo c n) [] hp e1 walks_st fun q hq => (List.not_mem_nil hq).elim⟩
variable {N : List Sl → Prop} {R : Bool → D → Prop} {g : TG} {ts : TS}
theorem eachSt {lo c : Int} {n : Nat} (I : Nat → List Sl → Prop) (h0 : I 0 env) (hs : ∀ j e, j < n → I j e → GX X e g (.int (lo + (j : Nat) * c)) fun e' => SX X e' ts (I (j + 1)) R N (I (j + 1))) (hn : ∀ e, I n e → N e) : ∃ J : Nat → List Sl → Prop, J 0 env ∧ (∀ i x e, (stD lo c n)[i]? = some x → J i e → GX X e g x fun e' => SX X e' ts (J (i + 1)) R N (J (i + 1))) ∧ ∀ e, J (stD lo c n).length e → N e := by
  refine ⟨I, h0, fun i d e hx hi' => ?_, fun e h => hn e ?_⟩
  · unfold stD at hx
    rw [List.getElem?_map] at hx
    by_cases hc : i < n
    · rw [List.getElem?_range hc] at hx
      cases hx
      exact hs i e hc hi'
    · rw [List.getElem?_eq_none (by simpa using hc)] at hx; cases hx
  · unfold stD at h
    rw [List.length_map, List.length_range] at h
    exact h
end
/-- a comprehension that picks and makes -/
theorem ef_lcFM {X : Pu.Cx} {env : List Sl} {Pl : List D → Prop} {wi : TI} {g : TG} {tt : TT} {te : TE} {vs : List Nat} {α : Type} (xs : List α) (h0 : α → D) (p : α → Bool) (f : α → D) (hv : GM vs g) (h : IT X env wi fun ds => ds = xs.map h0 ∧ xs.length ≤ 16000000 ∧ (∀ (i : Nat) (x : α), xs[i]? = some x → GPW X vs env g (h0 x) fun e => TV X e tt fun b => b = p x ∧ EV X e te fun d => d = f x) ∧ Pl ((xs.filter p).map f)) : EF X env (tLc wi g tt te vs) Pl := by
  refine ef_lc (fun i acc => acc = ((xs.take i).filter p).map f) hv fun gd W G σ H R S er k => h gd W G σ H R S er fun W' G' H' J ds gd' ⟨e1, e2, e3, e4⟩ e wk hg => k W' G' H' J ds gd' ?_ e wk hg
  subst e1
  refine ⟨by rw [List.length_map]; exact e2, rfl, fun i d acc hd ha => ?_, fun acc ha => ?_⟩
  · rw [List.getElem?_map] at hd
    cases hx : xs[i]? with
    | none => rw [hx] at hd; cases hd
    | some x =>
      rw [hx] at hd
      cases hd
      refine fun gd W G σ H v Q S dv q => e3 i x hx gd W G σ H v Q S dv fun env' σ' he S' => q env' σ' ?_ S'
      refine fun gd W G σ H Q S er q => he gd W G σ H Q S er fun W' G' b H' ⟨hb, hv⟩ e => q W' G' b H' ?_ e
      have st : (xs.take (i + 1)).filter p = (xs.take i).filter p ++ (if p x = true then [x] else []) := by
        rw [List.take_add_one, hx, List.filter_append]
        congr 1
        simp only [Option.toList, List.filter_cons, List.filter_nil]
      rw [st]
      cases b with
      | true =>
        dsimp only
        rw [if_pos rfl, if_pos hb.symm]
        refine fun gd W G σ H Q S er q => hv gd W G σ H Q S er fun W' G' v H' d hd e dv => q W' G' v H' d ?_ e dv
        rw [hd, ha, List.map_append]
        rfl
      | false =>
        dsimp only
        rw [if_neg (by decide), if_neg (by rw [← hb]; decide), List.append_nil]
        exact ha
  · rw [List.length_map, List.take_length] at ha
    rw [ha]
    exact e4
/-! ### try: a clause returns a bool -/
section
variable {X : Cx} {env : List Sl} {N Bk Ct : List Sl → Prop} {R : Bool → D → Prop} {l : List ClA} {W0 : WX} {tb : WX → TS}
def CaughtI (K : PySem.W.Frag) (l : List ClA) (R : Bool → D → Prop) (env : List Sl) (e : Er) : Prop := ∃ b : Bool, R false (.bl b) ∧ ∀ (W0 : WX) (D : Ends) (σ : L2.St) (H : Hp) (d : Addr), σ.length = env.length → H d = some (.xd e.fs) → (∀ H', Ex H H' → D.rt (.bl b) H') → wManyA K W0 D l (.ref e.c) (some d) σ H
theorem sx_tryB (h : ∀ W : WX, SX ⟨⟨X.c.K, X.c.T, X.c.B, X.c.W0, X.c.G0, WE W⟩, CaughtI X.c.K l R⟩ env (tb W) N R Bk Ct) : SX X env (fun D σ H => tb (wManyA X.c.K W0 D l) D σ H) N R Bk Ct := fun gd W G σ H Z S L => by
  refine h (wManyA X.c.K W0 Z l) gd W G σ H Z ⟨S.t, S.b0, S.es, S.w0, S.wb, S.tb, S.len, S.sl, fun i p o z => ⟨(S.ow i p o z).w, (S.ow i p o z).g, (S.ow i p o z).b, (S.ow i p o z).at_⟩, S.nd, S.gh⟩ ⟨fun env W G σ H k S => L.nx env W G σ H k ⟨S.t, S.b0, S.es, S.w0, S.wb, S.tb, S.len, S.sl, fun i p o z => ⟨(S.ow i p o z).w, (S.ow i p o z).g, (S.ow i p o z).b, (S.ow i p o z).at_⟩, S.nd, S.gh⟩, L.rt, fun env W G σ H k S => L.bk env W G σ H k ⟨S.t, S.b0, S.es, S.w0, S.wb, S.tb, S.len, S.sl, fun i p o z => ⟨(S.ow i p o z).w, (S.ow i p o z).g, (S.ow i p o z).b, (S.ow i p o z).at_⟩, S.nd, S.gh⟩, fun env W G σ H k S => L.ct env W G σ H k ⟨S.t, S.b0, S.es, S.w0, S.wb, S.tb, S.len, S.sl, fun i p o z => ⟨(S.ow i p o z).w, (S.ow i p o z).g, (S.ow i p o z).b, (S.ow i p o z).at_⟩, S.nd, S.gh⟩, ?_⟩
  intro env2 e W2 G2 σ2 H2 d ⟨b, hp, hw⟩ S2 hx
  refine hw _ _ σ2 H2 d S2.len hx fun H3 ex => ?_
  have e2 : ES X.c.T X.c.W0 X.c.G0 X.c.B (wg X.c.W0 G2) G2 H2 := S2.es
  have e4 : ES X.c.T (wg X.c.W0 G2) G2 H2 (wg X.c.W0 G2) G2 H3 := .ofEx e2.t ex
  exact L.rt false (.bl b) _ _ (.bl b) H3 hp (e2.trans e4) (.bl b) fun z => by cases z
end
end Pu
/-! the pure layer: a list of new lists, each of which may be changed by its own -/
namespace Pu
open PySem PySem.Spec PyProof.Rows L2 Evl Lay
/-- lists that are owned by no slot -/
structure AsL (c : Cp) (W G : Addr → Bool) (H : Hp) (env : List Sl) (L : List (Addr × List D)) : Prop where
  ow : ∀ q ∈ L, OwOk c W G H q.1 (.l q.2)
  nd : (L.map (·.1)).Nodup
  ne : ∀ q ∈ L, ∀ (i : Nat) (o : Oc), env[i]? ≠ some (.own q.1 o)
/-- the list p of the lists qs -/
abbrev rawL (qs : List (Addr × List D)) : List D := qs.map fun q => D.raw (.ref q.1)
abbrev tree (p : Addr) (qs : List (Addr × List D)) : List (Addr × List D) := (p, rawL qs) :: qs
theorem set_at {α : Type} {xs : List α} {n : Nat} {x : α} (h : xs[n]? = some x) : xs.set n x = xs := by
  apply List.ext_getElem?
  intro i
  by_cases e : n = i
  · subst e
    rw [List.getElem?_set_self (List.getElem?_eq_some_iff.mp h).1, h]
  · rw [List.getElem?_set_ne e]
section
variable {c : Cp} {gd : List (V × D)} {W G W' G' : Addr → Bool} {env : List Sl} {σ : L2.St} {H H' : Hp} {L : List (Addr × List D)} {v : V} {ds : List D} {k : Nat}
theorem AsL.nil : AsL c W G H env [] := ⟨fun q h => (List.not_mem_nil h).elim, List.nodup_nil, fun q h => (List.not_mem_nil h).elim⟩
theorem AsL.es (w : WG W G H) (e : ES c.T W G H W' G' H') (h : AsL c W G H env L) : AsL c W' G' H' env L := ⟨fun q hq => (h.ow q hq).es w e, h.nd, h.ne⟩
theorem AsL.set {n : Nat} {s : Sl} (hs : ∀ p o, s ≠ .own p o) (h : AsL c W G H env L) : AsL c W G H (env.set n s) L := ⟨h.ow, h.nd, fun q hq i o z => by
  rcases set_look z with ⟨_, e⟩ | ⟨_, e⟩
  · exact hs _ _ e.symm
  · exact h.ne q hq i o e⟩
theorem AsL.perm {L' : List (Addr × List D)} (p : L.Perm L') (h : AsL c W G H env L) : AsL c W G H env L' := ⟨fun q hq => h.ow q (p.mem_iff.mpr hq), (p.map _).nodup_iff.mp h.nd, fun q hq => h.ne q (p.mem_iff.mpr hq)⟩
theorem AsL.add (S : StW c gd W G env σ H) (h : AsL c W G H env L) (e : ES c.T W G H W' G' H') (f : Fr c.K W' G' H H' v (.lst ds)) : ∃ p W2, v = .ref p ∧ StW c gd W2 G' env σ H' ∧ AsL c W2 G' H' env ((p, ds) :: L) := by
  obtain ⟨p, vs, ds', rfl, e', h1, h2, h3, h4⟩ := f
  cases e'
  have hg : G' p = false := bf fun z => tf (e.t.gw p z) h2
  have e2 : ES c.T W G H (hd p W') G' H' := ⟨S.t, e.xg, fun a h => hd_le a (e.w a h), e.g, fun a h => (hd_t.mp h).elim (e.wn a) fun q => .inr (q ▸ h1), e.gn,
    ⟨fun a h => hd_le a (e.t.gw a h), fun a h => (hd_t.mp h).elim (e.t.wd a) fun q z => sn z (q ▸ h3) nt_l, e.t.gp⟩⟩
  refine ⟨p, hd p W', rfl, S.step e2, ⟨fun q hq => ?_, ?_, fun q hq i o z => ?_⟩⟩
  · rcases List.mem_cons.mp hq with rfl | hq
    · exact ⟨hd_t.mpr (.inr rfl), hg, S.es.fr p h1, vs, h3, h4⟩
    · exact (h.ow q hq).es S.t e2
  · rw [List.map_cons, List.nodup_cons]
    refine ⟨fun hm => ?_, h.nd⟩
    obtain ⟨q, hq, e⟩ := List.mem_map.mp hm
    obtain ⟨u, hu, nu⟩ := (h.ow q hq).at_.some
    have e : q.1 = p := e
    exact sn h1 (e ▸ hu) nu
  · rcases List.mem_cons.mp hq with rfl | hq
    · obtain ⟨u, hu, nu⟩ := (S.ow i _ o z).at_.some
      exact sn h1 hu nu
    · exact h.ne q hq i o z
/-- all of them read as data -/
theorem AsL.seen (S : StW c gd W G env σ H) (h : AsL c W G H env L) : ∃ W', (∀ a, W' a = true → W a = true) ∧ StW c gd W' G env σ H ∧ ∀ q ∈ L, ∃ vs, wo W' H q.1 = some (.lst vs) ∧ DvA c.K W' G H vs q.2 := by
  open Classical in
  let W' : Addr → Bool := fun a => W a && !decide (∃ q ∈ L, q.1 = a)
  have w1 : ∀ a, W' a = true ↔ W a = true ∧ ¬ ∃ q ∈ L, q.1 = a := fun a => by
    show (W a && !decide _) = true ↔ _
    simp only [Bool.and_eq_true, Bool.not_eq_true', decide_eq_false_iff_not]
  have le : ∀ a, W' a = true → W a = true := fun a h => ((w1 a).mp h).1
  have ng : ∀ a, G a = true → W' a = true := fun a hg => (w1 a).mpr ⟨S.t.gw a hg, fun ⟨q, hq, e⟩ => tf (e ▸ hg) (h.ow q hq).g⟩
  have nb : ∀ a, c.W0 a = true → W' a = true := fun a ha => (w1 a).mpr ⟨S.w0 a ha, fun ⟨q, hq, e⟩ => S.b0.wd a ha (e ▸ (h.ow q hq).b)⟩
  refine ⟨W', le, ⟨⟨ng, fun a h => S.t.wd a (le a h), S.t.gp⟩, S.b0, S.es, nb, fun a h => S.wb a (le a h), S.tb, S.len, fun i s hs => ?_, fun i p o hp => ?_, S.nd, fun q hq => (S.gh q hq).less le⟩, fun q hq => ?_⟩
  · have k := S.sl i s hs
    cases s with
    | no => trivial
    | d d =>
      obtain ⟨v, e1, e2⟩ := k
      exact ⟨v, e1, e2.less le⟩
    | own p o => exact k
  · have ow := S.ow i p o hp
    refine ⟨(w1 p).mpr ⟨ow.w, fun ⟨q, hq, e⟩ => h.ne q hq i o (e ▸ hp)⟩, ow.g, ow.b, ?_⟩
    cases o with
    | l ds =>
      obtain ⟨vs, e1, e2⟩ := ow.at_
      exact ⟨vs, e1, e2.less le⟩
    | o C fs =>
      obtain ⟨dx, vs, e1, e2⟩ := ow.at_
      exact ⟨dx, vs, e1, e2.less le⟩
  · obtain ⟨vs, e1, e2⟩ := (h.ow q hq).at_
    exact ⟨vs, wo_some.mpr ⟨bf fun z => ((w1 q.1).mp z).2 ⟨q, hq, rfl⟩, e1⟩, e2.less le⟩
theorem raw_dva : ∀ {vs : List V} {qs : List (Addr × List D)}, DvA c.K W G H vs (rawL qs) → vs = qs.map fun q => .ref q.1
  | [], [], .nil => rfl
  | v :: vs, q :: qs, .cons a r => by
    cases a
    rw [raw_dva r]
    rfl
theorem dva_raw : ∀ qs : List (Addr × List D), DvA c.K W G H (qs.map fun q => .ref q.1) (rawL qs)
  | [] => .nil
  | q :: qs => .cons (.raw _) (dva_raw qs)
theorem dva_all : ∀ {qs : List (Addr × List D)}, (∀ q ∈ qs, ∃ vs, wo W H q.1 = some (.lst vs) ∧ DvA c.K W G H vs q.2) → DvA c.K W G H (qs.map fun q => .ref q.1) (qs.map fun q => .lst q.2)
  | [], _ => .nil
  | q :: qs, h => by
    obtain ⟨vs, e1, e2⟩ := h q List.mem_cons_self
    exact .cons (.lst e1 e2) (dva_all fun z hz => h z (List.mem_cons_of_mem _ hz))
theorem AsL.view {p : Addr} {qs : List (Addr × List D)} (S : StW c gd W G env σ H) (h : AsL c W G H env (tree p qs)) (hk : env[k]? = some (.d (.raw (.ref p)))) :
    ∃ W', (∀ a, W' a = true → W a = true) ∧ StW c gd W' G (env.set k (.d (.lst (qs.map fun q => .lst q.2)))) σ H ∧ StW c gd W' G (env.set k (.d (.lst (rawL qs)))) σ H := by
  obtain ⟨W', le, S', all⟩ := h.seen S
  obtain ⟨v, hv, dv⟩ := S.sl k _ hk
  cases dv
  obtain ⟨vs, e1, e2⟩ := all _ List.mem_cons_self
  have e3 := raw_dva e2
  subst e3
  have two : ∀ d, Dv c.K W' G H (.ref p) d → StW c gd W' G (env.set k (.d d)) σ H := fun d hd => by
    have := StW.setD (X := ⟨c, fun _ _ => False⟩) (n := k) S' hd
    rw [set_at hv] at this
    exact this
  exact ⟨W', le, two _ (.lst e1 (dva_all fun q hq => all q (List.mem_cons_of_mem _ hq))), two _ (.lst e1 (dva_raw qs))⟩
/-- one of them changes -/
theorem AsL.mut {q : Addr} {ds' : List D} (S : StW c gd W G env σ H) (h : AsL c W G H env L) (hq : (q, ds) ∈ L) (e : ExB q H H') (o2 : OcAt c.K W G H' q (.l ds')) : StW c gd W G env σ H' ∧ AsL c W G H' env (L.map fun x => if x.1 = q then (q, ds') else x) := by
  have ow := h.ow _ hq
  obtain ⟨us, hu, _⟩ := ow.at_
  obtain ⟨us', hu', _⟩ := id o2
  have fr : ∀ a, nn H' a → nn H a := fun a h x q1 n => by
    by_cases hp : a = q
    · exact sn h (hp ▸ hu') nt_l
    · exact sn h (e a x hp q1) n
  have pur : ∀ a, G a = true → Pur H a → Pur H' a := fun a g h => h.upd e fun z => tf (z ▸ g) ow.g
  have fz : ∀ a x, wo W H a = some x → NT x → wo W H' a = some x := fun a x h _ => by
    obtain ⟨h1, h2⟩ := wo_some.mp h
    exact wo_some.mpr ⟨h1, e a x (fun z => tf ow.w (z ▸ h1)) h2⟩
  have tbs : ∀ {T : List (Addr × Str)}, LamX.Tabs T H → LamX.Tabs T H' := fun {T} t => Tabs.exb t e (.inl ⟨_, hu⟩)
  have keep : ∀ {p : Addr} {o : Oc}, p ≠ q → OcAt c.K W G H p o → OcAt c.K W G H' p o := fun {p o} np k => by
    cases o with
    | l ds =>
      obtain ⟨vs, e1, e2⟩ := k
      exact ⟨vs, e _ _ np e1, e2.tr fz fun a b c => ⟨b, pur a b c⟩⟩
    | o C fs =>
      obtain ⟨dx, vs, e1, e2⟩ := k
      exact ⟨dx, vs, e _ _ np e1, e2.tr fz fun a b c => ⟨b, pur a b c⟩⟩
  refine ⟨⟨⟨S.t.gw, fun a h z => S.t.wd a h (fr a z), fun a h => pur a h (S.t.gp a h)⟩, S.b0, ⟨S.b0, ⟨fun a x g h n => e a x (fun z => sn ow.b (z ▸ h) n) (S.es.xg.ex a x g h n), fun a g h => pur a (S.es.g a g) (S.es.xg.pu a g h), fun t => tbs (S.es.xg.tb t)⟩,
    S.es.w, S.es.g, S.es.wn, S.es.gn, ⟨S.es.t.gw, fun a h z => S.es.t.wd a h (fr a z), fun a h => pur a h (S.t.gp a h)⟩⟩, S.w0, S.wb, tbs S.tb, S.len, fun j t ht => ?_, fun j p x hp => ?_, S.nd, fun q h => (S.gh q h).tr fz fun a b c => ⟨b, pur a b c⟩⟩, ⟨fun x hx => ?_, ?_, fun x hx i o z => ?_⟩⟩
  · have k := S.sl j t ht
    cases t with
    | no => trivial
    | d d =>
      obtain ⟨v, e1, e2⟩ := k
      exact ⟨v, e1, e2.tr fz fun a b c => ⟨b, pur a b c⟩⟩
    | own q x => exact k
  · have k := S.ow j p x hp
    exact ⟨k.w, k.g, k.b, keep (fun z => h.ne _ hq j x (by rw [← z]; exact hp)) k.at_⟩
  · obtain ⟨y, hy, rfl⟩ := List.mem_map.mp hx
    have k := h.ow y hy
    by_cases c : y.1 = q
    · rw [if_pos c]
      exact ⟨ow.w, ow.g, ow.b, o2⟩
    · rw [if_neg c]
      exact ⟨k.w, k.g, k.b, keep c k.at_⟩
  · have : (L.map fun x => if x.1 = q then (q, ds') else x).map (·.1) = L.map (·.1) := by
      rw [List.map_map]
      refine List.map_congr_left fun x _ => ?_
      show (if x.1 = q then (q, ds') else x).1 = x.1
      split
      · rename_i e; exact e.symm
      · rfl
    rw [this]
    exact h.nd
  · obtain ⟨y, hy, rfl⟩ := List.mem_map.mp hx
    refine h.ne y hy i o ?_
    revert z
    split
    · rename_i e; intro z; rw [e]; exact z
    · exact id
end
theorem stop_sq {X : Cx} {env : List Sl} {tr : TA} {g : TG} {tu : TS} {N Bk Ct : List Sl → Prop} {R : Bool → D → Prop} (h : SX X env (tSeq (tAsg (tLst tr) g) tu) N R Bk Ct) : SX X env (tSeq (tAsg (tLst tr) g) tu) N R Bk Ct := h
/-! ### statements beside such lists -/
section
variable (X : Cx)
structure LiftA (gd : List (V × D)) (N : List Sl → List (Addr × List D) → Prop) (R : Bool → D → Prop) (Z : Ends) : Prop where
  nx : ∀ env L W G σ H, N env L → StW X.c gd W G env σ H → AsL X.c W G H env L → Z.nx σ H
  rt : ∀ b d W' G' v H, R b d → ES X.c.T X.c.W0 X.c.G0 X.c.B W' G' H → Dv X.c.K W' G' H v d → (b = true → Fr X.c.K W' G' X.c.B H v d) → Z.rt v H
  er : ErrOk X.c X.er gd
def SXA (env : List Sl) (L : List (Addr × List D)) (ts : TS) (N : List Sl → List (Addr × List D) → Prop) (R : Bool → D → Prop) : Prop := ∀ gd W G σ H (Z : Ends), StW X.c gd W G env σ H → AsL X.c W G H env L → LiftA X gd N R Z → ts Z σ H
end
section
variable {X : Cx} {env : List Sl} {L : List (Addr × List D)} {ts tu : TS} {N : List Sl → List (Addr × List D) → Prop} {R : Bool → D → Prop} {te ta tb tc : TE} {tt : TT} {n k m : Nat} {p q : Addr} {qs : List (Addr × List D)} {ds : List D}
theorem sxa_seq (h : SXA X env L ts (fun e L => SXA X e L tu N R) R) : SXA X env L (tSeq ts tu) N R := fun gd W G σ H Z S A F =>
  h gd W G σ H _ S A ⟨fun e L W G σ H hu S A => hu gd W G σ H Z S A F, F.rt, F.er⟩
theorem sxa_next (h : N env L) : SXA X env L tNext N R := fun gd W G σ H Z S A F => F.nx env L W G σ H h S A
theorem sxa_mid (N' : List Sl → List (Addr × List D) → Prop) (h : SXA X env L ts N' R) (k : ∀ e L, N' e L → N e L) : SXA X env L ts N R := fun gd W G σ H Z S A F => h gd W G σ H Z S A ⟨fun e L W G σ H hn => F.nx e L W G σ H (k e L hn), F.rt, F.er⟩
theorem sxa_set (h : EV X env te fun d => SetN n (.d d) env fun e => N e L) : SXA X env L (tAsg te (gName n)) N R := fun gd W G σ H Z S A F =>
  h gd W G σ H _ S F.er fun W1 G1 v H1 d hn e1 d1 => F.nx _ L W1 G1 _ H1 hn ((S.step e1).setD d1) ((A.es S.t e1).set fun p o z => by cases z)
/-- an answer that is no part of them -/
theorem sxa_setI (hk : env[k]? = some (.d (.raw (.ref p)))) (h : EV X (env.set k (.d (.lst (rawL qs)))) te fun d => d.imm ∧ SetN n (.d d) env fun e => N e (tree p qs)) (he : ∀ e, X.er (env.set k (.d (.lst (rawL qs)))) e → X.er (env.set k (.d (.lst (rawL qs)))) e := fun _ h => h) : SXA X env (tree p qs) (tAsg te (gName n)) N R := fun gd W G σ H Z S A F => by
  obtain ⟨W', le, _, S'⟩ := A.view S hk
  exact h gd W' G σ H _ S' F.er fun W1 G1 v H1 d ⟨hi, hn⟩ e1 d1 => F.nx _ _ (wg W G1) G1 _ H1 hn ((S.step (e1.re S.t)).setD (d1.ofImm hi)) ((A.es S.t (e1.re S.t)).set fun p o z => by cases z)
/-- if not ..: return False, where it is not so -/
theorem sxa_no (hk : env[k]? = some (.d (.raw (.ref p)))) (h : TV X (env.set k (.d (.lst (qs.map fun q => .lst q.2)))) tt fun b => b = false ∧ N env (tree p qs)) : SXA X env (tree p qs) (tIfS tt ts tNext) N R := fun gd W G σ H Z S A F => by
  obtain ⟨W', le, S', _⟩ := A.view S hk
  exact h gd W' G σ H _ S' F.er fun W1 G1 b H1 ⟨hb, hn⟩ e1 => by
    subst hb
    exact F.nx _ _ (wg W G1) G1 _ H1 hn (S.step (e1.re S.t)) (A.es S.t (e1.re S.t))
theorem sxa_app (e : env[n]? = some (.d (.raw (.ref q)))) (hq : (q, ds) ∈ L) (h : EV X env te fun d => ds.length < 16000000 ∧ N env (L.map fun x => if x.1 = q then (q, ds ++ [d]) else x)) : SXA X env L (tDrop (tBM X.c.K "list" rAppend (tVar n) (tCons te tNil))) N R := fun gd W G σ H Z S A F => by
  obtain ⟨vs0, q1, _⟩ := (A.ow _ hq).at_
  obtain ⟨v0, hv, dv⟩ := S.sl n _ e
  cases dv
  refine ⟨_, hv, .inl ⟨rfl, _, L2.SqL.of q1⟩, ?_⟩
  refine h gd W G σ H _ S F.er fun W1 G1 v H1 d ⟨hl, hn⟩ e1 d1 => ?_
  have S1 := S.step e1
  have A1 := A.es S.t e1
  have ow := A1.ow _ hq
  obtain ⟨vs, o1, o2⟩ := ow.at_
  have e3 : ∀ a o, wo W1 H1 a = some o → NT o → wo W1 (upd H1 q (.lst (vs ++ [v]))) a = some o := fun a o h _ => by
    obtain ⟨h1, h2⟩ := wo_some.mp h
    exact wo_some.mpr ⟨h1, by rw [upd_ne (ne_w ow.w h1)]; exact h2⟩
  have pu : ∀ a, G1 a = true → Pur H1 a → G1 a = true ∧ Pur (upd H1 q (.lst (vs ++ [v]))) a := fun a g h => ⟨g, pur_upd h (ne_g g (ow.g))⟩
  obtain ⟨S2, A2⟩ := A1.mut S1 hq (H' := upd H1 q (.lst (vs ++ [v]))) (ds' := ds ++ [d]) (fun a o n h => by rw [upd_ne n]; exact h) ⟨_, upd_same, (o2.tr e3 pu).app (.cons (d1.tr e3 pu) .nil)⟩
  exact ⟨q, vs, v, rfl, rfl, o1, by rw [o2.len, PySem.sizeLine_eq]; show ds.length < _; omega, F.nx _ _ W1 G1 σ _ hn S2 A2⟩
/-- x = [a, b, c], new lists -/
theorem sxa_begin {N : List Sl → Prop} {Bk Ct : List Sl → Prop} (h : EF X env ta fun a => EF X env tb fun b => EF X env tc fun c => ∀ p q r s, SetN k (.d (.raw (.ref p))) env fun e => [p, q, r, s].Nodup → SXA X e (tree p [(q, a), (r, b), (s, c)]) tu (fun e _ => N e) R) : SX X env (tSeq (tAsg (tLst (tCons ta (tCons tb (tCons tc tNil)))) (gName k)) tu) N R Bk Ct := fun gd W G σ H Z S F => by
  refine h gd W G σ H _ S F.er fun W1 G1 v1 H1 a ha e1 f1 => ?_
  obtain ⟨q, W1', rfl, S1, A1⟩ := (AsL.nil (c := X.c)).add S e1 f1
  refine ha gd W1' G1 σ H1 _ S1 F.er fun W2 G2 v2 H2 b hb e2 f2 => ?_
  obtain ⟨r, W2', rfl, S2, A2⟩ := A1.add S1 e2 f2
  refine hb gd W2' G2 σ H2 _ S2 F.er fun W3 G3 v3 H3 c hc e3 f3 => ?_
  obtain ⟨s, W3', rfl, S3, A3⟩ := A2.add S2 e3 f3
  refine ⟨by rw [PySem.sizeLine_eq]; simp, fun p hp => ?_⟩
  have fr : Fr X.c.K W3' G3 H3 (upd H3 p (.lst [.ref q, .ref r, .ref s])) (.ref p) (.lst (rawL [(q, a), (r, b), (s, c)])) := fr_new S3.t hp (dva_raw (c := X.c) [(q, a), (r, b), (s, c)])
  obtain ⟨p', W4, ep, S4, A4⟩ := A3.add S3 (.ofEx S3.t (Ex.new hp)) fr
  cases ep
  have A5 : AsL X.c W4 G3 (upd H3 p (.lst [.ref q, .ref r, .ref s])) env (tree p [(q, a), (r, b), (s, c)]) := A4.perm (.cons _ (by
    exact ((List.Perm.swap _ _ _).trans ((List.Perm.swap _ _ _).cons _)).trans (List.Perm.swap _ _ _)))
  have nd := A5.nd
  exact hc p q r s nd gd W4 G3 _ _ _ (S4.setD (.raw _)) (A5.set fun p o z => by cases z) ⟨fun e L W G σ H hn S A => F.nx e W G σ H hn S, F.rt, F.er⟩
/-- for x in range(j) -/
theorem sxa_rng {j : Nat} (hj : j ≤ 1000000) (I : Nat → List Sl → List (Addr × List D) → Prop) (h0 : I 0 env L) (hs : ∀ i e L, i < j → I i e L → SetN m (.d (.int i)) e fun e' => SXA X e' L ts (I (i + 1)) R) (hn : ∀ e L, I j e L → N e L) : SXA X env L (tFor (iRng1 (tCons (tC (.int j)) tNil)) (gName m) ts) N R := fun gd W G σ H Z S A F => by
  refine ⟨(j : Int), rfl, by omega, by omega, ?_⟩
  have wk : Walks X.c (Itr 0 (j : Int).toNat) ((List.range (j : Int).toNat).map fun i : Nat => .int ((0 : Int) + i)) [] := walks_range
  rw [Int.toNat_natCast] at wk ⊢
  refine ⟨fun i m σ H => m = j - i ∧ i ≤ j ∧ ∃ e L W G, I i e L ∧ StW X.c gd W G e σ H ∧ AsL X.c W G H e L, ⟨j, by simp, Nat.zero_le _, env, L, W, G, h0, S, A⟩, ?_⟩
  rintro i m' σ H ⟨rfl, hi, e, L, W, G, hI, S1, A1⟩
  obtain ⟨w1, w2⟩ := wk W G H S1.t S1.tb fun q hq => (List.not_mem_nil hq).elim
  by_cases hlt : i < j
  · have hx : ((List.range j).map fun i : Nat => D.int ((0 : Int) + i))[i]? = some (.int ((0 : Int) + i)) := by
      rw [List.getElem?_map, List.getElem?_range hlt]; rfl
    obtain ⟨go, yl⟩ := w1 i _ hx
    refine .inr ⟨go, fun σ' H' => ∃ e L W G, I (i + 1) e L ∧ StW X.c gd W G e σ' H' ∧ AsL X.c W G H' e L, fun σ' H' ⟨e, L, W, G, hI, S, A⟩ => ⟨j - (i + 1), by omega, rfl, hlt, e, L, W, G, hI, S, A⟩, fun v H' y => ?_⟩
    obtain ⟨e2, dv⟩ := yl v H' y
    rw [Int.zero_add] at dv
    exact hs i e L hlt hI gd W G _ H' _ ((S1.step e2).setD dv) ((A1.es S1.t e2).set fun p o z => by cases z) ⟨fun e L W G σ H hI S A => ⟨e, L, W, G, hI, S, A⟩, F.rt, F.er⟩
  · have ei : i = j := by omega
    subst ei
    exact .inl ⟨w2 _ (by simp), F.nx e L W G σ H (hn e L hI) S1 A1⟩
/-- they are left alone from here on -/
theorem sxa_end {N : List Sl → Prop} (h : SX X env ts N R NoE NoE) : SXA X env L ts (fun e _ => N e) R := fun gd W G σ H Z S A F => h gd W G σ H Z S ⟨fun e W G σ H hn S => by
    exact F.nx e [] W G σ H hn S AsL.nil, F.rt, fun _ _ _ _ _ h => h.elim, fun _ _ _ _ _ h => h.elim, F.er⟩
end
end Pu
local macro_rules | `(tactic| walk_at "hp") => `(tactic| first
  | assumption
  | (refine' Lay.ex_at (by assumption) ?a1; (case a1 => walk_at "hp"))
  | (refine' Lay.exb_at (by assumption) ?a1 ?a2; (case a1 => walk_at "ne"); (case a2 => walk_at "hp")))
local macro_rules | `(tactic| walk_at "hpe") => `(tactic| first
  | assumption
  | (refine' Lay.ex_at (by assumption) ?a1; (case a1 => walk_at "hpe")))
local macro_rules | `(tactic| walk_at "ne") => `(tactic| first
  | assumption
  | exact Ne.symm (by assumption)
  | (refine' L2.ne_of_none (H := ?hh) (o := ?oo) ?a1 ?a2; (case a2 => assumption); (case a1 => walk_at "hp"))
  | (refine' Ne.symm (L2.ne_of_none (H := ?hh) (o := ?oo) ?a1 ?a2); (case a2 => assumption); (case a1 => walk_at "hp"))
  | (refine' Lay.ne_pur (H := ?hh) ?a1 ?a2; (case a2 => assumption); (case a1 => walk_at "pu"))
  | (refine' Ne.symm (Lay.ne_pur (H := ?hh) ?a1 ?a2); (case a2 => assumption); (case a1 => walk_at "pu"))
  | (refine' L2.ne_of (H := ?hh) (o := ?oo) (u := ?uu) ?a1 ?a2 ?a3; (case a1 => assumption); (case a2 => assumption); (case a3 => (intro z; cases z))))
local macro_rules | `(tactic| walk_at "sq") => `(tactic| first
  | assumption
  | (refine' L2.SqL.of ?a1; (case a1 => walk_at "hp"))
  | (refine' Evl.ex_l (by assumption) ?a1; (case a1 => walk_at "sq"))
  | (refine' Lay.exb_l (by assumption) ?a1 ?a2; (case a1 => walk_at "ne"); (case a2 => walk_at "sq"))
  | (refine' Lay.exb_lI (by assumption) ?a1 ?a2; (case a1 => walk_at "hp"); (case a2 => walk_at "sq")))
local macro_rules | `(tactic| walk_at "ex") => `(tactic| first
  | assumption
  | exact Evl.Ex.refl _
  | exact Lay.ExB.refl _ _
  | exact Lay.Ex.b (by assumption)
  | (refine' Evl.Ex.trans ?a1 ?a2; (case a2 => assumption); (case a1 => walk_at "ex"))
  | (refine' Lay.ExB.ex ?a1 ?a2 ?a3; (case a2 => assumption); (case a1 => walk_at "ex"); (case a3 => walk_at "fr"))
  | (refine' Lay.ExB.trans ?a1 ?a2; (case a2 => assumption); (case a1 => walk_at "ex"))
  | (refine' Lay.ExB.trans ?a1 (Lay.Ex.b ?a2); (case a2 => assumption); (case a1 => walk_at "ex"))
  | (refine' Lay.ExB.exB ?a1 ?a2 ?a3; (case a2 => assumption); (case a1 => walk_at "ex"); (case a3 => walk_at "fr")))
local macro_rules | `(tactic| walk_at "fr") => `(tactic| first
  | assumption
  | (refine' Evl.fresh_back ?a1 ?a2; (case a2 => assumption); (case a1 => walk_at "ex"))
  | (refine' Lay.freshB ?a1 ?a2 ?a3; (case a3 => assumption); (case a1 => walk_at "ex"); (case a2 => walk_at "ne")))
local macro_rules | `(tactic| walk_at "pu") => `(tactic| first
  | assumption
  | (refine' Lay.Pur.ex ?a1 ?a2; (case a2 => assumption); (case a1 => walk_at "pu"))
  | (refine' Lay.Pur.upd ?a1 ?a2 ?a3; (case a2 => assumption); (case a1 => walk_at "pu"); (case a3 => walk_at "ne")))
local macro_rules | `(tactic| walk_at "ln") => `(tactic| first
  | omega
  | (simp only [List.length_append, List.length_map, List.length_cons, List.length_nil, List.length_replicate, List.length_set, List.length_reverse, List.length_take, List.length_drop]; omega))
local macro_rules | `(tactic| walk_at "st") => `(tactic| first
  | assumption
  | (refine' L2.SqT.of ?a1; (case a1 => walk_at "hp"))
  | (refine' Lay.ext ?a1 ?a2; (case a1 => assumption); (case a2 => walk_at "st"))
  | (refine' Lay.exb_t ?a1 ?a2 ?a3; (case a1 => assumption); (case a2 => walk_at "ne"); (case a3 => walk_at "st")))
local macro_rules | `(tactic| walk_at "go1") => `(tactic| first
  | with_reducible refine' Lay.r_seq ?_
  | with_reducible refine' Lay.r_set ?_
  | with_reducible refine' Lay.r_sub ?_
  | ((with_reducible refine' Lay.r_aug (x := ?vv) ?ee ?_); (case ee => exact rfl))
  | with_reducible refine' Lay.r_ipI ?_
  | with_reducible refine' Lay.r_drop ?_
  | with_reducible refine' Lay.r_ret ?_
  | with_reducible refine' Lay.r_retN ?_
  | with_reducible refine' Lay.r_if ?_
  | with_reducible refine' Lay.r_next ?_
  | with_reducible refine' Lay.r_brk ?_
  | with_reducible refine' Lay.r_cont ?_
  | ((with_reducible refine' Lay.r_var (v := ?vv) ?ee ?_); (case ee => exact rfl))
  | with_reducible refine' Lay.r_c ?_
  | with_reducible refine' Lay.r_op ?_
  | with_reducible refine' Lay.r_un ?_
  | with_reducible refine' Lay.r_I0 ?_
  | with_reducible refine' Lay.r_U ?_
  | with_reducible refine' Lay.r_eqI ?_
  | with_reducible refine' Lay.r_neI ?_
  | with_reducible refine' Lay.r_eqB ?_
  | with_reducible refine' Lay.r_neB ?_
  | with_reducible refine' Lay.r_eqS ?_
  | with_reducible refine' Lay.r_neS ?_
  | with_reducible refine' Lay.r_isN ?_
  | with_reducible refine' Lay.r_notN ?_
  | with_reducible refine' Lay.r_test ?_
  | with_reducible refine' Lay.r_tB ?_
  | with_reducible refine' Lay.r_bl ?_
  | with_reducible refine' Lay.r_and ?_
  | with_reducible refine' Lay.r_or ?_
  | with_reducible refine' Lay.r_not ?_
  | with_reducible refine' Lay.r_andV ?_
  | with_reducible refine' Lay.r_orV ?_
  | with_reducible refine' Lay.r_notV ?_
  | with_reducible refine' Lay.r_nil ?_
  | with_reducible refine' Lay.r_cons ?_
  | with_reducible refine' Lay.r_call ?_
  | with_reducible refine' Lay.r_cb ?_
  | with_reducible refine' Lay.r_lst ?_
  | with_reducible refine' Lay.r_tup ?_
  | with_reducible refine' Lay.r_augS ?_
  | with_reducible refine' Lay.r_for ?_
  | with_reducible refine' Lay.r_lc ?_
  | with_reducible refine' Lay.r_iList ?_
  | with_reducible refine' Lay.r_iTup ?_
  | with_reducible refine' Lay.r_iRng1 ?_
  | with_reducible refine' Lay.r_iRng2 ?_
  | with_reducible refine' Lay.r_iEnum ?_
  | with_reducible refine' Lay.r_raise ?_
  | with_reducible refine' Lay.r_sl ?_
  | with_reducible refine' Lay.r_noP ?_
  | with_reducible refine' Lay.r_part ?_
  | with_reducible refine' Lay.r_in ?_
  | with_reducible refine' Lay.r_int ?_
  | with_reducible refine' Lay.r_abs ?_
  | with_reducible refine' Lay.r_mx2 ?_
  | with_reducible refine' Lay.r_mn2 ?_
  | with_reducible refine' Lay.r_asg ?_
  | with_reducible refine' Lay.r_gCons ?_
  | with_reducible refine' Lay.r_gNil ?_
  | with_reducible refine' Lay.r_gName ?_
  | ((with_reducible refine' Lay.r_gTup (xs := ?vv) ?a1 ?a2 ?_); (case a1 => walk_at "st"); (case a2 => exact rfl))
  | ((with_reducible refine' Lay.r_gUnl (xs := ?vv) ?a1 ?a2 ?_); (case a1 => walk_at "sq"); (case a2 => exact rfl))
  | ((with_reducible refine' Lay.r_isTT (xs := ?vv) ?ee ?_); (case ee => walk_at "hp"))
  | ((with_reducible refine' Lay.r_isTL (xs := ?vv) ?ee ?_); (case ee => walk_at "hp"))
  | ((with_reducible refine' Lay.r_isLT (xs := ?vv) ?ee ?_); (case ee => walk_at "hp"))
  | with_reducible refine' Lay.r_fld ?_
  | ((with_reducible refine' Lay.r_rfld (C := ?cc) (dx := ?dd) (fs := ?ff) (x := ?xx) (ff := ?gg) (v := ?vv) ?a1 ?a2 ?a3 ?a4 ?_); (case a1 => walk_at "hp"); (case a2 => assumption); (case a3 => decide); (case a4 => exact rfl))
  | with_reducible refine' Lay.r_bmG ?_
  | ((with_reducible refine' Lay.r_bmR (xs := ?vv) ?a1 ?_); (case a1 => walk_at "sq"))
  | with_reducible refine' Lay.r_fst ?_
  | with_reducible refine' Lay.r_mth ?_
  | with_reducible refine' Lay.r_make ?_
  | with_reducible refine' Lay.r_par ?_
  | with_reducible refine' Lay.r_rpar ?_
  | with_reducible refine' Lay.r_isII ?_
  | with_reducible refine' Lay.r_isIB ?_
  | ((with_reducible refine' Lay.r_isLL (xs := ?vv) ?ee ?_); (case ee => walk_at "hp"))
  | ((with_reducible refine' Lay.r_I ?_ ?_); first | exact (by decide) | exact (.inl (by omega)) | exact (.inr (by omega)) | exact (by omega) | exact (And.intro (by omega) (by omega)))
  | ((with_reducible refine' Lay.r_lenP (ps := ?vv) (sp := ?ww) ?a1 ?_); (case a1 => assumption))
  | ((with_reducible refine' Lay.r_ixP (ps := ?vv) (sp := ?ww) ?a1 ?a2 ?a3 ?_); (case a1 => assumption); (case a2 => omega); (case a3 => omega); (intro _))
  | ((with_reducible refine' Lay.r_lenI (ns := ?vv) ?ee ?_); (case ee => walk_at "sq"))
  | ((with_reducible refine' Lay.r_ix0 (v := ?vv) ?a1 ?_); (case a1 => walk_at "sq"))
  | ((with_reducible refine' Lay.r_ix1 (v := ?vv) ?a1 ?_); (case a1 => walk_at "sq"))
  | ((with_reducible refine' Lay.r_ix2 (v := ?vv) ?a1 ?_); (case a1 => walk_at "sq"))
  | ((with_reducible refine' Lay.r_ixI (ns := ?vv) ?a1 ?a2 ?a3 ?_); (case a1 => walk_at "sq"); (case a2 => omega); (case a3 => omega))
  | ((with_reducible refine' Lay.r_ixT0 (v := ?vv) ?a1 ?_); (case a1 => walk_at "st"))
  | ((with_reducible refine' Lay.r_ixT1 (v := ?vv) ?a1 ?_); (case a1 => walk_at "st"))
  | ((with_reducible refine' Lay.r_ixT2 (v := ?vv) ?a1 ?_); (case a1 => walk_at "st"))
  | ((with_reducible refine' Lay.r_strI ?a1 ?a2 ?_); (case a1 => omega); (case a2 => omega))
  | with_reducible refine' Lay.r_chain ?_
  | with_reducible refine' Lay.r_iteC ?_
  | with_reducible refine' Lay.r_tIfI ?_
  | with_reducible refine' Lay.r_nT ?_
  | with_reducible refine' Lay.r_nF ?_
  | with_reducible refine L2.iteT ?_
  | with_reducible refine L2.iteF ?_)
local macro_rules | `(tactic| walk_at "go") => `(tactic| repeat (walk_at "go1"))
local macro_rules | `(tactic| walk_at "go0") => `(tactic| ((try dsimp only [L2.cxOf]); walk_at "go"))
local macro_rules | `(tactic| walk_at "gn1") => `(tactic| first
  | walk_at "go1"
  | ((with_reducible refine' Lay.r_newI0 ?_); (intro _ _ _ _ _))
  | ((with_reducible refine' Lay.r_newI1 ?_); (intro _ _ _ _ _))
  | ((with_reducible refine' Lay.r_newI2 ?_); (intro _ _ _ _ _))
  | ((with_reducible refine' Lay.r_newI3 ?_); (intro _ _ _ _ _))
  | ((with_reducible refine' Lay.r_newI4 ?_); (intro _ _ _ _ _))
  | ((with_reducible refine' Lay.r_newL (Lay.len3 rfl) ?_); (intro _ _ _ _ _))
  | ((with_reducible refine' Lay.r_newT (Lay.len3 rfl) ?_); (intro _ _ _ _ _))
  | ((with_reducible refine' Lay.r_listI (ns := ?vv) ?a1 ?_); (case a1 => walk_at "sq"); (intro _ _ _ _ _))
  | ((with_reducible refine' Lay.r_catI (ns := ?vv) (ms := ?ww) ?a1 ?a2 ?a3 ?_); (case a1 => walk_at "hp"); (case a2 => walk_at "hp"); (case a3 => walk_at "ln"); (intro _ _ _ _ _)))
local macro_rules | `(tactic| walk_at "gn") => `(tactic| repeat (walk_at "gn1"))
local macro_rules | `(tactic| walk_at "gn0") => `(tactic| ((try dsimp only [L2.cxOf]); walk_at "gn"))
local macro_rules | `(tactic| walk_at "pu1") => `(tactic| first
  | with_reducible refine' Pu.sx_seq ?_
  | ((with_reducible refine' Pu.ev_var (d := ?dd) ?ee ?_); (case ee => exact rfl))
  | with_reducible refine' Pu.ev_int ?_
  | ((with_reducible refine' Pu.ev_ixOLast (p := ?pp) (ds := ?dd) (d := ?d0) ?ee ?_); (case ee => exact rfl))
  | ((with_reducible refine' Pu.ev_ixOI (p := ?pp) (ns := ?xx) ?ee ?_); (case ee => exact rfl))
  | with_reducible refine' Pu.ev_op ?_
  | with_reducible refine' Pu.ev_cb ?_
  | with_reducible refine' Pu.ea_cons ?_
  | with_reducible refine' Pu.ea_nil ?_
  | with_reducible refine' Pu.op_I0 ?_
  | with_reducible refine' Pu.op_B0 ?_
  | with_reducible refine' Pu.sx_if' ?_
  | with_reducible refine' Pu.tvf ?_
  | with_reducible refine' Pu.gpw ?_
  | with_reducible refine' Pu.tv_test ?_
  | with_reducible refine' Pu.tv_B ?_
  | with_reducible refine' Pu.isB ?_
  | with_reducible refine' Pu.isI ?_
  | with_reducible refine' Pu.isL ?_
  | with_reducible refine' Pu.isT ?_
  | with_reducible refine' Pu.isI1 ?_
  | with_reducible refine' Pu.isI2 ?_
  | with_reducible refine' Pu.isL1 ?_
  | with_reducible refine' Pu.isP2 ?_
  | with_reducible refine' Pu.tv_and ?_
  | with_reducible refine' Pu.tv_or ?_
  | with_reducible refine' Pu.tv_not ?_
  | with_reducible refine' Pu.tv_yes ?_
  | with_reducible refine' Pu.ev_call ?_
  | with_reducible refine' Pu.ev_call0 ?_
  | with_reducible refine' Pu.ev_callN ?_
  | with_reducible refine' Pu.ev_callN0 ?_
  | with_reducible refine' Pu.ev_callB ?_
  | with_reducible refine' Pu.ev_methN (fun _ => rfl) ?_
  | with_reducible refine' Pu.ev_meth (fun _ => rfl) ?_
  | with_reducible refine' Pu.ev_mk (fun _ => rfl) ?_
  | with_reducible refine' Pu.ev_str ?_
  | with_reducible refine' Pu.ev_bl ?_
  | with_reducible refine' Pu.ev_non ?_
  | with_reducible refine' Pu.ev_un ?_
  | with_reducible refine' Pu.up_I ?_
  | ((with_reducible refine' Pu.op_I ?_ ?_); first | exact (by decide) | exact (.inl (by omega)) | exact (.inr (by omega)) | exact (by omega) | exact (And.intro (by omega) (by omega)))
  | with_reducible refine' Pu.op_isN ?_
  | with_reducible refine' Pu.op_notN ?_
  | with_reducible refine' Pu.op_eqI ?_
  | with_reducible refine' Pu.op_neI ?_
  | with_reducible refine' Pu.op_eqB ?_
  | with_reducible refine' Pu.op_neB ?_
  | with_reducible refine' Pu.op_eqS ?_
  | with_reducible refine' Pu.op_neS ?_
  | with_reducible refine' Pu.cp_eqNil0 ?_
  | ((with_reducible refine' Pu.cp_eqNilC ?ee ?_); (case ee => exact rfl))
  | ((with_reducible refine' Pu.cp_eqNilA ?ee ?_); (case ee => exact rfl))
  | ((with_reducible refine' Pu.cp_eqNilM ?ee ?_); (case ee => exact rfl))
  | with_reducible refine' Pu.cp_neNil0 ?_
  | ((with_reducible refine' Pu.cp_neNilC ?ee ?_); (case ee => exact rfl))
  | ((with_reducible refine' Pu.cp_neNilA ?ee ?_); (case ee => exact rfl))
  | ((with_reducible refine' Pu.cp_neNilM ?ee ?_); (case ee => exact rfl))
  | with_reducible refine' Pu.op_ixT0 ?_
  | with_reducible refine' Pu.op_ixT1 ?_
  | with_reducible refine' Pu.op_ixT2 ?_
  | with_reducible refine' Pu.op_ixL0 ?_
  | with_reducible refine' Pu.op_ixL1 ?_
  | with_reducible refine' Pu.op_ixL2 ?_
  | with_reducible refine' Pu.op_ixLast ?_
  | ((with_reducible refine' Pu.op_ixLm ?h0 ?h1 ?_); (case h0 => omega); (case h1 => omega))
  | ((with_reducible refine' Pu.op_ixLc (x := ?dd) ?ee ?_); (case ee => exact rfl))
  | with_reducible refine' Pu.ev_lst ?_
  | with_reducible refine' Pu.ev_sl ?_
  | with_reducible refine' Pu.sl_F ?_
  | ((with_reducible refine' Pu.op_cat ?l ?_); (case l => walk_at "ln"))
  | ((with_reducible refine' Pu.of_cat ?l ?_); (case l => walk_at "ln"))
  | with_reducible refine' Pu.cb_listL ?_
  | with_reducible refine' Pu.cf_listL ?_
  | with_reducible refine' Pu.cb_listT ?_
  | with_reducible refine' Pu.cf_listT ?_
  | with_reducible refine' Pu.cb_lenLm ?_
  | with_reducible refine' Pu.cb_lenL ?_
  | with_reducible refine' Pu.cb_lenT ?_
  | with_reducible refine' Pu.cb_int ?_
  | with_reducible refine' Pu.cb_abs ?_
  | with_reducible refine' Pu.cb_mx2 ?_
  | with_reducible refine' Pu.cb_mn2 ?_
  | with_reducible refine' Pu.cb_tupleL ?_
  | with_reducible refine' Pu.cb_tupleT ?_
  | with_reducible refine' Pu.cb_sum ?_
  | with_reducible refine' Pu.ev_tup ?_
  | with_reducible refine' Pu.tupN rfl ?_
  | with_reducible refine' Pu.ev_fld ?_
  | with_reducible refine' Pu.ev_chain ?_
  | with_reducible refine' Pu.ev_andV ?_
  | with_reducible refine' Pu.ev_orV ?_
  | with_reducible refine' Pu.ev_notV ?_
  | with_reducible refine' Pu.ev_if ?_
  | with_reducible refine' Pu.sx_next ?_
  | with_reducible refine' Pu.sx_brk ?_
  | with_reducible refine' Pu.sx_cont ?_
  | ((with_reducible refine' Pu.sx_retO (p := ?pp) (ds := ?dd) ?ee ?_); (case ee => exact rfl))
  | ((with_reducible refine' Pu.stop_retN ?_); (with_reducible refine' Pu.sx_retF ?_); first | with_reducible refine' Pu.ef_call ?_ | with_reducible refine' Pu.ef_lst ?_ | with_reducible refine' Pu.ef_cb ?_ | with_reducible refine' Pu.ef_op ?_ | with_reducible refine' Pu.ef_sl ?_ | with_reducible refine' Pu.ef_meth (fun _ => rfl) ?_)
  | ((fail_if_success (with_reducible refine' Pu.stop_retN ?_)); (with_reducible refine' Pu.sx_ret ?_))
  | with_reducible refine' Pu.retN_ok ?_
  | with_reducible refine' Pu.sx_retN ?_
  | ((with_reducible refine' Pu.sx_app' (p := ?pp) (ds := ?dd) ?ee ?_); (case ee => exact rfl))
  | ((with_reducible refine' Pu.sx_augI' (k := ?kk) ?ee ?_); (case ee => exact rfl))
  | with_reducible refine' Pu.sx_par' ?_
  | with_reducible refine' Pu.setN ?_
  | ((fail_if_success (with_reducible refine' Pu.stop_lst ?_)); (fail_if_success (with_reducible refine' Pu.stop_lc ?_)); (fail_if_success (with_reducible refine' Pu.stop_sl ?_)); (fail_if_success (with_reducible refine' Pu.stop_cb ?_)); (fail_if_success (with_reducible refine' Pu.stop_ct ?_)); (fail_if_success (with_reducible refine' Pu.stop_rp ?_)); (with_reducible refine' Pu.sx_set' ?_))
  | ((fail_if_success (with_reducible refine' Pu.stop_nm ?_)); (with_reducible refine' Pu.sx_asg ?_))
  | with_reducible refine' Pu.sx_drop ?_
  | ((with_reducible refine' Pu.gx_subLast (p := ?pp) (ds := ?dd) ?ee ?_); (case ee => exact rfl))
  | ((with_reducible refine' Pu.gx_subI (p := ?pp) (ns := ?xx) ?ee ?_); (case ee => exact rfl))
  | with_reducible refine' Pu.gx_gp ?_
  | with_reducible refine' Pu.gp_name' ?_
  | with_reducible refine' Pu.gp_tup rfl ?_
  | with_reducible refine' Pu.gp_sqT rfl ?_
  | with_reducible refine' Pu.gp_sqL rfl ?_
  | with_reducible refine' Pu.gp_unl rfl ?_
  | with_reducible refine' Pu.gp_cons ?_
  | with_reducible refine' Pu.gp_nil ?_
  | with_reducible refine' Pu.ov_no ?_
  | with_reducible refine' Pu.ov_some ?_
  | with_reducible refine' Lay.r_nT ?_
  | with_reducible refine' Lay.r_nF ?_
  | with_reducible refine Pu.iteT' ?_
  | with_reducible refine Pu.iteF' ?_
  | ((with_reducible refine' Pu.ev_raw ?_)))
local macro_rules | `(tactic| walk_at "pu") => `(tactic| repeat (walk_at "pu1"))
local macro_rules | `(tactic| walk_at "pu0") => `(tactic| ((try dsimp only [L2.cxOf]); (try simp only [List.map_cons, List.map_nil, List.length_cons, List.length_nil, List.cons_append, List.nil_append, List.replicate, Nat.reduceAdd, Nat.reduceSub, Nat.zero_add]); walk_at "pu"))
local macro_rules | `(tactic| walk_at "own") => `(tactic| ((with_reducible refine' Pu.sx_own' ?_); first | with_reducible refine' Pu.ef_lst ?_ | with_reducible refine' Pu.ef_cb ?_ | with_reducible refine' Pu.ef_op ?_ | with_reducible refine' Pu.ef_sl ?_ | with_reducible refine' Pu.ef_callB ?_ | with_reducible refine' Pu.ef_call ?_ | skip))
local macro_rules | `(tactic| walk_at "set") => `(tactic| ((with_reducible refine' Pu.sx_set' ?_); first | (with_reducible refine' Pu.ev_ofF (Pu.ef_lst ?_)) | (with_reducible refine' Pu.ev_ofF (Pu.ef_cb ?_)) | (with_reducible refine' Pu.ev_ofF (Pu.ef_op ?_)) | (with_reducible refine' Pu.ev_ofF (Pu.ef_sl ?_)) | skip))
local macro_rules | `(tactic| walk_at "ps") => `(tactic| repeat ((fail_if_success (with_reducible refine' Pu.stop_if ?_)); (fail_if_success (with_reducible refine' Pu.stop_eif ?_)); (walk_at "pu1")))
local macro_rules | `(tactic| walk_at "po") => `(tactic| repeat (first
  | walk_at "pu1"
  | ((with_reducible refine' Pu.iteYes ?hh ?_); (case hh => omega))
  | ((with_reducible refine' Pu.iteNo ?hh ?_); (case hh => omega))
  | ((with_reducible refine' Pu.iteYesN ?hh ?_); (case hh => omega))
  | ((with_reducible refine' Pu.iteNoN ?hh ?_); (case hh => omega))))
local macro_rules | `(tactic| walk_at "pt") => `(tactic| repeat ((fail_if_success (with_reducible refine' Pu.stop_aif ?_)); (walk_at "pu1")))
local macro_rules | `(tactic| walk_at "pr") => `(tactic| repeat ((fail_if_success (with_reducible refine' Pu.stop_ret ?_)); (walk_at "pu1")))
local macro_rules | `(tactic| walk_at "pd") => `(tactic| repeat ((fail_if_success (with_reducible refine' Pu.stop_drop ?_)); (walk_at "pu1")))
local macro_rules | `(tactic| walk_at "pg") => `(tactic| repeat ((fail_if_success (with_reducible refine' Pu.stop_asg ?_)); (walk_at "pu1")))
local macro_rules | `(tactic| walk_at "pq") => `(tactic| repeat ((fail_if_success (with_reducible refine' Pu.stop_sq ?_)); (walk_at "pu1")))
/-! arcs: sets of lines as sorted lists of (first, last or none) -/
namespace WA
abbrev Arc := Int × Option Int
/-- the line x lies in the arc -/
def inA (a : Arc) (x : Int) : Prop := a.1 ≤ x ∧ ∀ e, a.2 = some e → x ≤ e
def hit (xs : List Arc) (x : Int) : Prop := ∃ a ∈ xs, inA a x
def ok (a : Arc) : Prop := ∀ e, a.2 = some e → a.1 ≤ e
def gap (a b : Arc) : Prop := ∃ e, a.2 = some e ∧ e + 1 < b.1
/-- sorted, apart by a line or more, none empty -/
structure NF (xs : List Arc) : Prop where
  o : ∀ a ∈ xs, ok a
  g : xs.Pairwise gap
theorem NF.nil : NF [] := ⟨fun _ h => (List.not_mem_nil h).elim, List.Pairwise.nil⟩
theorem NF.tail {a : Arc} {xs : List Arc} (h : NF (a :: xs)) : NF xs := ⟨fun b hb => h.o b (List.mem_cons_of_mem _ hb), (List.pairwise_cons.mp h.g).2⟩
theorem hit_nil {x : Int} : ¬ hit [] x := fun ⟨_, h, _⟩ => (List.not_mem_nil h).elim
theorem hit_cons {a : Arc} {xs : List Arc} {x : Int} : hit (a :: xs) x ↔ inA a x ∨ hit xs x := by
  constructor
  · rintro ⟨b, hb, h⟩
    rcases List.mem_cons.mp hb with rfl | hb
    · exact .inl h
    · exact .inr ⟨b, hb, h⟩
  · rintro (h | ⟨b, hb, h⟩)
    · exact ⟨a, List.mem_cons_self, h⟩
    · exact ⟨b, List.mem_cons_of_mem _ hb, h⟩
theorem hit_app {xs ys : List Arc} {x : Int} : hit (xs ++ ys) x ↔ hit xs x ∨ hit ys x := by
  constructor
  · rintro ⟨b, hb, h⟩
    exact (List.mem_append.mp hb).imp (fun z => ⟨b, z, h⟩) fun z => ⟨b, z, h⟩
  · rintro (⟨b, hb, h⟩ | ⟨b, hb, h⟩)
    · exact ⟨b, List.mem_append_left _ hb, h⟩
    · exact ⟨b, List.mem_append_right _ hb, h⟩
theorem hit_one {a : Arc} {x : Int} : hit [a] x ↔ inA a x := by rw [hit_cons]; exact ⟨fun h => h.elim id fun z => (hit_nil z).elim, .inl⟩
theorem hit_perm {xs ys : List Arc} (h : xs.Perm ys) {x : Int} : hit xs x ↔ hit ys x := ⟨fun ⟨a, ha, q⟩ => ⟨a, h.mem_iff.mp ha, q⟩, fun ⟨a, ha, q⟩ => ⟨a, h.mem_iff.mpr ha, q⟩⟩
theorem inA_first {a : Arc} (h : ok a) : inA a a.1 := ⟨Int.le_refl _, h⟩
/-- what lies behind the first arc -/
theorem behind {a : Arc} {xs : List Arc} (h : NF (a :: xs)) {x : Int} (hx : hit xs x) : ∃ e, a.2 = some e ∧ e + 1 < x := by
  obtain ⟨b, hb, q⟩ := hx
  obtain ⟨e, h1, h2⟩ := (List.pairwise_cons.mp h.g).1 b hb
  exact ⟨e, h1, by have := q.1; omega⟩
/-- one set, one list -/
theorem uniq : ∀ {xs ys : List Arc}, NF xs → NF ys → (∀ x, hit xs x ↔ hit ys x) → xs = ys
  | [], [], _, _, _ => rfl
  | [], b :: ys, _, h2, h => absurd ((h b.1).mpr ⟨b, List.mem_cons_self, inA_first (h2.o b List.mem_cons_self)⟩) hit_nil
  | a :: xs, [], h1, _, h => absurd ((h a.1).mp ⟨a, List.mem_cons_self, inA_first (h1.o a List.mem_cons_self)⟩) hit_nil
  | a :: xs, b :: ys, h1, h2, h => by
    have oa := h1.o a List.mem_cons_self
    have ob := h2.o b List.mem_cons_self
    have lo : ∀ {c : Arc} {zs : List Arc}, NF (c :: zs) → ∀ x, hit (c :: zs) x → c.1 ≤ x := fun {c zs} hn x hx => by
      rcases hit_cons.mp hx with q | q
      · exact q.1
      · obtain ⟨e, e1, e2⟩ := behind hn q
        have := hn.o c List.mem_cons_self e e1
        omega
    have f1 : b.1 ≤ a.1 := lo h2 _ ((h _).mp ⟨a, List.mem_cons_self, inA_first oa⟩)
    have f2 : a.1 ≤ b.1 := lo h1 _ ((h _).mpr ⟨b, List.mem_cons_self, inA_first ob⟩)
    have f : a.1 = b.1 := by omega
    -- the line behind an end is no hit
    have out : ∀ {c : Arc} {zs : List Arc} {e : Int}, NF (c :: zs) → c.2 = some e → ¬ hit (c :: zs) (e + 1) := fun {c zs e} hn hc hx => by
      rcases hit_cons.mp hx with q | q
      · have := q.2 e hc
        omega
      · obtain ⟨e', e1, e2⟩ := behind hn q
        rw [hc] at e1
        cases e1
        omega
    have l : a.2 = b.2 := by
      cases ha : a.2 with
      | none =>
        cases hb : b.2 with
        | none => rfl
        | some e =>
          refine absurd ((h _).mp ?_) (out h2 hb)
          have := ob e hb
          exact ⟨a, List.mem_cons_self, by omega, fun e' z => by rw [ha] at z; cases z⟩
      | some e =>
        cases hb : b.2 with
        | none =>
          refine absurd ((h _).mpr ?_) (out h1 ha)
          have := oa e ha
          exact ⟨b, List.mem_cons_self, by omega, fun e' z => by rw [hb] at z; cases z⟩
        | some e' =>
          have q1 := oa e ha
          have q2 := ob e' hb
          by_cases c : e = e'
          · rw [c]
          · by_cases c2 : e < e'
            · refine absurd ((h _).mpr ?_) (out h1 ha)
              exact ⟨b, List.mem_cons_self, by omega, fun z hz => by rw [hb] at hz; cases hz; omega⟩
            · refine absurd ((h _).mp ?_) (out h2 hb)
              exact ⟨a, List.mem_cons_self, by omega, fun z hz => by rw [ha] at hz; cases hz; omega⟩
    have ab : a = b := Prod.ext f l
    subst ab
    congr 1
    refine uniq h1.tail h2.tail fun x => ?_
    have side : ∀ {zs ws : List Arc}, NF (a :: zs) → (∀ x, hit (a :: zs) x → hit (a :: ws) x) → hit zs x → hit ws x := fun {zs ws} hn k hx => by
      obtain ⟨e, e1, e2⟩ := behind hn hx
      rcases hit_cons.mp (k x (hit_cons.mpr (.inr hx))) with q | q
      · have := q.2 e e1
        omega
      · exact q
    exact ⟨side h1 fun x => (h x).mp, side h2 fun x => (h x).mpr⟩
/-! ### gathered -/
def gstep (made : List Arc) (x : Arc) : List Arc := match made.getLast? with
  | none => made ++ [x]
  | some (b, e) => match e with
    | none => made
    | some e' => if x.1 > e' + 1 then made ++ [x] else match x.2 with
      | none => made.dropLast ++ [(b, none)]
      | some l => if l > e' then made.dropLast ++ [(b, some l)] else made
def gfold (rows : List Arc) : List Arc := rows.foldl gstep []
/-- the last arc made begins no later than what comes -/
structure GI (made : List Arc) (lo : Int) : Prop where
  n : NF made
  l : ∀ a ∈ made, a.1 ≤ lo
theorem GI.step {made : List Arc} {x : Arc} {lo : Int} (h : GI made lo) (hx : lo ≤ x.1) (ox : ok x) : GI (gstep made x) x.1 ∧ ∀ y, hit (gstep made x) y ↔ hit made y ∨ inA x y := by
  unfold gstep
  cases hm : made.getLast? with
  | none =>
    have e : made = [] := List.getLast?_eq_none_iff.mp hm
    subst e
    refine ⟨⟨⟨fun a ha => ?_, List.pairwise_singleton _ _⟩, fun a ha => ?_⟩, fun y => ?_⟩
    · rw [List.mem_singleton.mp ha]; exact ox
    · rw [List.mem_singleton.mp ha]; exact Int.le_refl _
    · show hit [x] y ↔ _
      rw [hit_one]
      exact ⟨.inr, fun z => z.elim (fun z => (hit_nil z).elim) id⟩
  | some be =>
    obtain ⟨ini, e⟩ : ∃ ini, made = ini ++ [be] := by
      obtain ⟨ini, hi⟩ := List.getLast?_eq_some_iff.mp hm
      exact ⟨ini, hi⟩
    obtain ⟨b, e'⟩ := be
    subst e
    have op := List.pairwise_append.mp h.n.g
    have hb : b ≤ lo := h.l (b, e') (List.mem_append_right _ List.mem_cons_self)
    have obe := h.n.o (b, e') (List.mem_append_right _ List.mem_cons_self)
    have sub : ∀ y, inA x y → e' = none ∨ (∃ e, e' = some e ∧ ¬ x.1 > e + 1 ∧ ∃ l, x.2 = some l ∧ ¬ l > e) → inA (b, e') y := fun y hy k => by
      refine ⟨by have := hy.1; show b ≤ y; omega, fun e he => ?_⟩
      rcases k with k | ⟨e2, k1, k2, l, k3, k4⟩
      · rw [k] at he; cases he
      · have he : e' = some e := he
        rw [k1] at he
        cases he
        have := hy.2 l k3
        omega
    have keep : (∀ y, inA x y → inA (b, e') y) → GI (ini ++ [(b, e')]) x.1 ∧ ∀ y, hit (ini ++ [(b, e')]) y ↔ hit (ini ++ [(b, e')]) y ∨ inA x y := fun k =>
      ⟨⟨h.n, fun a ha => by have := h.l a ha; omega⟩, fun y => ⟨.inl, fun z => z.elim id fun q => hit_app.mpr (.inr (hit_one.mpr (k y q)))⟩⟩
    -- the last arc's end is moved
    have move : ∀ l : Option Int, (∀ e, e' = some e → ¬ x.1 > e + 1 ∧ ∀ l', l = some l' → l' > e) → (l = x.2) → (∃ e, e' = some e) → GI ((ini ++ [(b, e')]).dropLast ++ [(b, l)]) x.1 ∧ ∀ y, hit ((ini ++ [(b, e')]).dropLast ++ [(b, l)]) y ↔ hit (ini ++ [(b, e')]) y ∨ inA x y := fun l hl el ⟨e, he⟩ => by
      obtain ⟨h1, h2⟩ := hl e he
      rw [List.dropLast_concat]
      have obl : ok (b, l) := fun l' z => by
        have z : l = some l' := z
        have := h2 l' z
        have := obe e he
        show b ≤ l'
        have : b ≤ e := obe e he
        omega
      refine ⟨⟨⟨fun a ha => ?_, List.pairwise_append.mpr ⟨op.1, List.pairwise_singleton _ _, fun a ha c hc => ?_⟩⟩, fun a ha => ?_⟩, fun y => ?_⟩
      · rcases List.mem_append.mp ha with ha | ha
        · exact h.n.o a (List.mem_append_left _ ha)
        · rw [List.mem_singleton.mp ha]; exact obl
      · rw [List.mem_singleton.mp hc]
        exact op.2.2 a ha (b, e') List.mem_cons_self
      · rcases List.mem_append.mp ha with ha | ha
        · have := h.l a (List.mem_append_left _ ha)
          omega
        · rw [List.mem_singleton.mp ha]; show b ≤ x.1; omega
      · rw [hit_app, hit_app, hit_one, hit_one, or_assoc]
        refine or_congr Iff.rfl ⟨fun q => ?_, fun q => ?_⟩
        · by_cases c : y ≤ e
          · exact .inl ⟨q.1, fun z hz => by have hz : e' = some z := hz; rw [he] at hz; cases hz; exact c⟩
          · refine .inr ⟨by omega, fun z hz => q.2 z (by show l = some z; rw [el]; exact hz)⟩
        · rcases q with q | q
          · refine ⟨q.1, fun z hz => ?_⟩
            have hz : l = some z := hz
            have := h2 z hz
            have := q.2 e he
            omega
          · refine ⟨by have := q.1; show b ≤ y; omega, fun z hz => ?_⟩
            have hz : l = some z := hz
            exact q.2 z (by rw [← el]; exact hz)
    cases he : e' with
    | none =>
      subst he
      exact keep fun y hy => sub y hy (.inl rfl)
    | some e =>
      subst he
      show GI (if x.1 > e + 1 then _ else _) _ ∧ _
      by_cases c : x.1 > e + 1
      · simp only [if_pos c]
        refine ⟨⟨⟨fun a ha => ?_, List.pairwise_append.mpr ⟨h.n.g, List.pairwise_singleton _ _, fun a ha d hd => ?_⟩⟩, fun a ha => ?_⟩, fun y => by rw [hit_app, hit_one]⟩
        · rcases List.mem_append.mp ha with ha | ha
          · exact h.n.o a ha
          · rw [List.mem_singleton.mp ha]; exact ox
        · rw [List.mem_singleton.mp hd]
          rcases List.mem_append.mp ha with ha | ha
          · obtain ⟨z, z1, z2⟩ := op.2.2 a ha (b, some e) List.mem_cons_self
            exact ⟨z, z1, by have z2 : z + 1 < b := z2; omega⟩
          · rw [List.mem_singleton.mp ha]; exact ⟨e, rfl, by omega⟩
        · rcases List.mem_append.mp ha with ha | ha
          · have := h.l a ha; omega
          · rw [List.mem_singleton.mp ha]; exact Int.le_refl _
      · simp only [if_neg c]
        cases hx2 : x.2 with
        | none =>
          exact move none (fun e0 z => ⟨by cases z; exact c, fun l' z => by cases z⟩) hx2.symm ⟨e, rfl⟩
        | some l =>
          by_cases d : l > e
          · simp only [if_pos d]
            exact move (some l) (fun e0 z => ⟨by cases z; exact c, fun l' z2 => by cases z; cases z2; exact d⟩) hx2.symm ⟨e, rfl⟩
          · simp only [if_neg d]
            exact keep fun y hy => sub y hy (.inr ⟨e, rfl, c, l, hx2, d⟩)
theorem gfold_ok : ∀ (rows made : List Arc) (lo : Int), GI made lo → (∀ x ∈ rows, lo ≤ x.1) → rows.Pairwise (fun x y => x.1 ≤ y.1) → (∀ x ∈ rows, ok x) → NF (rows.foldl gstep made) ∧ ∀ y, hit (rows.foldl gstep made) y ↔ hit made y ∨ hit rows y
  | [], made, lo, h, _, _, _ => ⟨h.n, fun y => ⟨.inl, fun z => z.elim id fun q => (hit_nil q).elim⟩⟩
  | x :: rows, made, lo, h, h1, h2, h3 => by
    obtain ⟨g, k⟩ := h.step (h1 x List.mem_cons_self) (h3 x List.mem_cons_self)
    have p := List.pairwise_cons.mp h2
    obtain ⟨n, q⟩ := gfold_ok rows (gstep made x) x.1 g p.1 p.2 fun z hz => h3 z (List.mem_cons_of_mem _ hz)
    refine ⟨n, fun y => ?_⟩
    rw [List.foldl_cons, q y, k y, hit_cons, or_assoc]
/-- the set of rows, as arcs -/
def norm (rows : List Arc) : List Arc := gfold (rows.mergeSort fun a b => decide (a.1 ≤ b.1))
theorem norm_ok {rows : List Arc} (h : ∀ x ∈ rows, ok x) : NF (norm rows) ∧ ∀ y, hit (norm rows) y ↔ hit rows y := by
  have pm := List.mergeSort_perm rows fun a b : Arc => decide (a.1 ≤ b.1)
  have ps := List.pairwise_mergeSort (le := fun a b : Arc => decide (a.1 ≤ b.1)) (fun a b c h1 h2 => by simp at *; omega) (fun a b => by simp; omega) rows
  have hr : ∀ x ∈ rows.mergeSort fun a b : Arc => decide (a.1 ≤ b.1), ok x := fun x hx => h x (pm.mem_iff.mp hx)
  have ps' : (rows.mergeSort fun a b : Arc => decide (a.1 ≤ b.1)).Pairwise fun x y => x.1 ≤ y.1 := ps.imp fun h => by simpa using h
  unfold norm gfold
  cases hs : rows.mergeSort fun a b : Arc => decide (a.1 ≤ b.1) with
  | nil =>
    rw [hs] at pm
    have : rows = [] := List.Perm.eq_nil pm.symm
    subst this
    exact ⟨NF.nil, fun y => Iff.rfl⟩
  | cons x xs =>
    rw [hs] at ps' hr pm
    obtain ⟨a, b⟩ := gfold_ok (x :: xs) [] x.1 ⟨NF.nil, fun a h => (List.not_mem_nil h).elim⟩ (fun z hz => (List.mem_cons.mp hz).elim (fun q => by rw [q]; exact Int.le_refl _) fun q => (List.pairwise_cons.mp ps').1 z q) ps' hr
    refine ⟨a, fun y => ?_⟩
    rw [b y, hit_perm pm]
    exact ⟨fun z => z.elim (fun q => (hit_nil q).elim) id, .inr⟩
/-- any sorted order gives the same -/
theorem gfold_norm {rows ys : List Arc} (h : ∀ x ∈ rows, ok x) (p : ys.Perm rows) (s : ys.Pairwise fun x y => x.1 ≤ y.1) : gfold ys = norm rows := by
  obtain ⟨n, k⟩ := norm_ok h
  unfold gfold
  cases ys with
  | nil =>
    have : rows = [] := List.Perm.eq_nil p.symm
    subst this
    exact uniq NF.nil n fun x => (k x).symm
  | cons x xs =>
    obtain ⟨a, b⟩ := gfold_ok (x :: xs) [] x.1 ⟨NF.nil, fun a h => (List.not_mem_nil h).elim⟩ (fun z hz => (List.mem_cons.mp hz).elim (fun q => by rw [q]; exact Int.le_refl _) fun q => (List.pairwise_cons.mp s).1 z q) s fun z hz => h z (p.mem_iff.mp hz)
    refine uniq a n fun y => ?_
    rw [b y, k y, hit_perm p]
    exact ⟨fun z => z.elim (fun q => (hit_nil q).elim) id, .inr⟩
theorem norm_nf {xs : List Arc} (h : NF xs) : norm xs = xs := by
  obtain ⟨n, k⟩ := norm_ok h.o
  exact uniq n h k
/-! ### meet, other, minus -/
def lesser : Option Int → Option Int → Option Int
  | none, y => y
  | some x, none => some x
  | some x, some y => if x < y then some x else some y
def mx (a b : Int) : Int := if b > a then b else a
def meet1 (a b : Arc) : List Arc := match lesser a.2 b.2 with
  | none => [(mx a.1 b.1, none)]
  | some e => if mx a.1 b.1 ≤ e then [(mx a.1 b.1, some e)] else []
def meet : List Arc → List Arc → List Arc
  | [], _ => []
  | _ :: _, [] => []
  | a :: r, b :: s => meet1 a b ++ if lesser a.2 b.2 = none then [] else if a.2 = lesser a.2 b.2 then meet r (b :: s) else meet (a :: r) s
termination_by r s => r.length + s.length
theorem meet_nil {r : List Arc} : meet r [] = [] := by cases r <;> simp [meet]
theorem inA_meet1 {a b : Arc} {x : Int} : hit (meet1 a b) x ↔ inA a x ∧ inA b x := by
  unfold meet1 inA mx
  obtain ⟨f, l⟩ := a
  obtain ⟨g, k⟩ := b
  cases l with
  | none =>
    cases k with
    | none =>
      simp only [lesser, hit_one, inA]
      refine ⟨fun h => ⟨⟨by have := h.1; split at this <;> omega, fun e z => by cases z⟩, ⟨by have := h.1; split at this <;> omega, fun e z => by cases z⟩⟩, fun h => ⟨by have := h.2.1; have := h.1.1; split <;> omega, fun e z => by cases z⟩⟩
    | some e =>
      simp only [lesser]
      by_cases c : (if g > f then g else f) ≤ e
      · simp only [if_pos c, hit_one, inA, Option.some.injEq, reduceCtorEq, false_implies, implies_true, and_true, forall_eq']
        split <;> omega
      · simp only [if_neg c, reduceCtorEq, false_implies, implies_true, and_true, Option.some.injEq, forall_eq']
        refine ⟨fun h => (hit_nil h).elim, fun h => absurd ?_ c⟩
        split <;> omega
  | some d =>
    cases k with
    | none =>
      simp only [lesser]
      by_cases c : (if g > f then g else f) ≤ d
      · simp only [if_pos c, hit_one, inA, Option.some.injEq, reduceCtorEq, false_implies, implies_true, and_true, forall_eq']
        split <;> omega
      · simp only [if_neg c, reduceCtorEq, false_implies, implies_true, and_true, Option.some.injEq, forall_eq']
        refine ⟨fun h => (hit_nil h).elim, fun h => absurd ?_ c⟩
        split <;> omega
    | some e =>
      simp only [lesser]
      by_cases q : d < e
      · simp only [if_pos q]
        by_cases c : (if g > f then g else f) ≤ d
        · simp only [if_pos c, hit_one, inA, Option.some.injEq, forall_eq']
          split <;> omega
        · simp only [if_neg c, Option.some.injEq, forall_eq']
          refine ⟨fun h => (hit_nil h).elim, fun h => absurd ?_ c⟩
          split <;> omega
      · simp only [if_neg q]
        by_cases c : (if g > f then g else f) ≤ e
        · simp only [if_pos c, hit_one, inA, Option.some.injEq, forall_eq']
          split <;> omega
        · simp only [if_neg c, Option.some.injEq, forall_eq']
          refine ⟨fun h => (hit_nil h).elim, fun h => absurd ?_ c⟩
          split <;> omega
theorem lesser_cases {a b : Option Int} : (lesser a b = none ∧ a = none ∧ b = none) ∨ (∃ e, lesser a b = some e ∧ a = some e ∧ ∀ e', b = some e' → e ≤ e') ∨ (∃ e, lesser a b = some e ∧ b = some e ∧ (∀ e', a = some e' → e < e') ) := by
  cases a with
  | none =>
    cases b with
    | none => exact .inl ⟨rfl, rfl, rfl⟩
    | some e => exact .inr (.inr ⟨e, rfl, rfl, fun e' z => by cases z⟩)
  | some d =>
    cases b with
    | none => exact .inr (.inl ⟨d, rfl, rfl, fun e' z => by cases z⟩)
    | some e =>
      show (if d < e then some d else some e) = none ∧ _ ∨ (∃ e_1, (if d < e then some d else some e) = _ ∧ _) ∨ ∃ e_1, (if d < e then some d else some e) = _ ∧ _
      by_cases q : d < e
      · rw [if_pos q]; exact .inr (.inl ⟨d, rfl, rfl, fun e' z => by cases z; omega⟩)
      · rw [if_neg q]
        by_cases w : d = e
        · exact .inr (.inl ⟨e, rfl, by rw [w], fun e' z => by cases z; omega⟩)
        · exact .inr (.inr ⟨e, rfl, rfl, fun e' z => by cases z; omega⟩)
theorem meet1_nf {a b : Arc} : NF (meet1 a b) := by
  unfold meet1
  cases h : lesser a.2 b.2 with
  | none => exact ⟨fun c hc => by rw [List.mem_singleton.mp hc]; exact fun e z => (by cases z), List.pairwise_singleton _ _⟩
  | some e =>
    by_cases c : mx a.1 b.1 ≤ e
    · simp only [if_pos c]
      exact ⟨fun d hd => by rw [List.mem_singleton.mp hd]; exact fun e' z => (by cases z; exact c), List.pairwise_singleton _ _⟩
    · simp only [if_neg c]
      exact NF.nil
theorem meet1_end {a b c : Arc} {e : Int} (h : lesser a.2 b.2 = some e) (hc : c ∈ meet1 a b) : c.2 = some e := by
  unfold meet1 at hc
  simp only [h] at hc
  split at hc
  · rw [List.mem_singleton.mp hc]
  · exact (List.not_mem_nil hc).elim
theorem meet_ok : ∀ (r s : List Arc), NF r → NF s → NF (meet r s) ∧ ∀ x, hit (meet r s) x ↔ hit r x ∧ hit s x
  | [], s, _, _ => by
    rw [meet]
    exact ⟨NF.nil, fun x => ⟨fun h => (hit_nil h).elim, fun h => (hit_nil h.1).elim⟩⟩
  | a :: r, [], _, _ => by
    rw [meet]
    exact ⟨NF.nil, fun x => ⟨fun h => (hit_nil h).elim, fun h => (hit_nil h.2).elim⟩⟩
  | a :: r, b :: s, hr, hs => by
    rw [meet]
    -- what follows lies behind the end
    have join : ∀ {e : Int} {zs : List Arc}, lesser a.2 b.2 = some e → NF zs → (∀ x, hit zs x → e + 1 < x) → NF (meet1 a b ++ zs) := fun {e zs} he hz hb =>
      ⟨fun c hc => (List.mem_append.mp hc).elim (meet1_nf.o c) (hz.o c), List.pairwise_append.mpr ⟨meet1_nf.g, hz.g, fun c hc d hd => ⟨e, meet1_end he hc, hb _ ⟨d, hd, inA_first (hz.o d hd)⟩⟩⟩⟩
    rcases lesser_cases (a := a.2) (b := b.2) with ⟨h, h1, h2⟩ | ⟨e, h, h1, h2⟩ | ⟨e, h, h1, h2⟩
    · rw [if_pos h, List.append_nil]
      refine ⟨meet1_nf, fun x => ?_⟩
      rw [inA_meet1, hit_cons, hit_cons]
      refine ⟨fun q => ⟨.inl q.1, .inl q.2⟩, fun ⟨q1, q2⟩ => ⟨?_, ?_⟩⟩
      · rcases q1 with q | q
        · exact q
        · obtain ⟨e, e1, _⟩ := behind hr q
          rw [h1] at e1; cases e1
      · rcases q2 with q | q
        · exact q
        · obtain ⟨e, e1, _⟩ := behind hs q
          rw [h2] at e1; cases e1
    · rw [if_neg (by rw [h]; exact fun z => by cases z), if_pos (by rw [h, h1])]
      obtain ⟨n, k⟩ := meet_ok r (b :: s) hr.tail hs
      refine ⟨join h n fun x hx => ?_, fun x => ?_⟩
      · obtain ⟨e', e1, e2⟩ := behind hr ((k x).mp hx).1
        rw [h1] at e1; cases e1; exact e2
      · rw [hit_app, inA_meet1, k x, hit_cons (a := a)]
        refine ⟨fun q => q.elim (fun q => ⟨.inl q.1, hit_cons.mpr (.inl q.2)⟩) fun q => ⟨.inr q.1, q.2⟩, fun ⟨q1, q2⟩ => ?_⟩
        rcases q1 with q | q
        · rcases hit_cons.mp q2 with p | p
          · exact .inl ⟨q, p⟩
          · obtain ⟨e', e1, e2⟩ := behind hs p
            have := h2 e' e1
            have := q.2 e h1
            omega
        · exact .inr ⟨q, q2⟩
    · have hne : a.2 ≠ lesser a.2 b.2 := fun z => by
        rw [h] at z
        have := h2 e z
        omega
      rw [if_neg (by rw [h]; exact fun z => by cases z), if_neg hne]
      obtain ⟨n, k⟩ := meet_ok (a :: r) s hr hs.tail
      refine ⟨join h n fun x hx => ?_, fun x => ?_⟩
      · obtain ⟨e', e1, e2⟩ := behind hs ((k x).mp hx).2
        rw [h1] at e1; cases e1; exact e2
      · rw [hit_app, inA_meet1, k x, hit_cons (a := b)]
        refine ⟨fun q => q.elim (fun q => ⟨hit_cons.mpr (.inl q.1), .inl q.2⟩) fun q => ⟨q.1, .inr q.2⟩, fun ⟨q1, q2⟩ => ?_⟩
        rcases q2 with q | q
        · rcases hit_cons.mp q1 with p | p
          · exact .inl ⟨p, q⟩
          · obtain ⟨e', e1, e2⟩ := behind hr p
            have := h2 e' e1
            have := q.2 e h1
            omega
        · exact .inr ⟨q1, q⟩
termination_by r s => r.length + s.length
def otherF : Int → List Arc → List Arc
  | line, [] => [(line, none)]
  | line, a :: r => (if a.1 > line then [(line, some (a.1 - 1))] else []) ++ match a.2 with
    | none => []
    | some e => otherF (e + 1) r
def other (r : List Arc) : List Arc := otherF 0 r
theorem otherF_ok : ∀ (r : List Arc) (line : Int), NF r → (∀ a ∈ r, line ≤ a.1) → NF (otherF line r) ∧ ∀ x, hit (otherF line r) x ↔ line ≤ x ∧ ¬ hit r x
  | [], line, _, _ => by
    rw [otherF]
    refine ⟨⟨fun c hc => by rw [List.mem_singleton.mp hc]; exact fun e z => (by cases z), List.pairwise_singleton _ _⟩, fun x => ?_⟩
    rw [hit_one]
    exact ⟨fun h => ⟨h.1, hit_nil⟩, fun h => ⟨h.1, fun e z => by cases z⟩⟩
  | a :: r, line, hr, hl => by
    rw [otherF]
    have la := hl a List.mem_cons_self
    have oa := hr.o a List.mem_cons_self
    have first : NF (if a.1 > line then [(line, some (a.1 - 1))] else []) ∧ (∀ x, hit (if a.1 > line then [(line, some (a.1 - 1))] else []) x ↔ line ≤ x ∧ x < a.1) ∧ ∀ c ∈ (if a.1 > line then [(line, some (a.1 - 1))] else []), c.2 = some (a.1 - 1) := by
      by_cases c : a.1 > line
      · simp only [if_pos c]
        refine ⟨⟨fun d hd => by rw [List.mem_singleton.mp hd]; exact fun e z => (by cases z; show line ≤ a.1 - 1; omega), List.pairwise_singleton _ _⟩, fun x => ?_, fun d hd => by rw [List.mem_singleton.mp hd]⟩
        rw [hit_one]
        exact ⟨fun h => ⟨h.1, by have := h.2 _ rfl; omega⟩, fun h => ⟨h.1, fun e z => by cases z; omega⟩⟩
      · simp only [if_neg c]
        exact ⟨NF.nil, fun x => ⟨fun h => (hit_nil h).elim, fun h => by omega⟩, fun d hd => (List.not_mem_nil hd).elim⟩
    obtain ⟨f1, f2, f3⟩ := first
    cases ha : a.2 with
    | none =>
      simp only [List.append_nil]
      refine ⟨f1, fun x => (f2 x).trans ⟨fun h => ⟨h.1, fun q => ?_⟩, fun h => ⟨h.1, ?_⟩⟩⟩
      · rcases hit_cons.mp q with q | q
        · have := q.1; omega
        · obtain ⟨e, e1, _⟩ := behind hr q
          rw [ha] at e1; cases e1
      · by_cases c : x < a.1
        · exact c
        · exact absurd (hit_cons.mpr (.inl ⟨by omega, fun e z => by rw [ha] at z; cases z⟩)) h.2
    | some e =>
      have hae := oa e ha
      have hb : ∀ b ∈ r, e + 1 ≤ b.1 := fun b hb => by
        obtain ⟨e', e1, e2⟩ := (List.pairwise_cons.mp hr.g).1 b hb
        rw [ha] at e1; cases e1; omega
      obtain ⟨n, k⟩ := otherF_ok r (e + 1) hr.tail hb
      refine ⟨⟨fun c hc => (List.mem_append.mp hc).elim (f1.o c) (n.o c), List.pairwise_append.mpr ⟨f1.g, n.g, fun c hc d hd => ⟨a.1 - 1, f3 c hc, ?_⟩⟩⟩, fun x => ?_⟩
      · have := ((k d.1).mp ⟨d, hd, inA_first (n.o d hd)⟩).1
        omega
      · rw [hit_app, f2 x, k x, hit_cons]
        constructor
        · rintro (h | h)
          · refine ⟨h.1, fun q => ?_⟩
            rcases q with q | q
            · have := q.1; omega
            · obtain ⟨e', e1, e2⟩ := behind hr q
              rw [ha] at e1; cases e1; omega
          · exact ⟨by omega, fun q => q.elim (fun q => by have := q.2 e ha; omega) h.2⟩
        · rintro ⟨h1, h2⟩
          by_cases c : x < a.1
          · exact .inl ⟨h1, c⟩
          · by_cases d : x ≤ e
            · exact absurd (.inl ⟨by omega, fun e' z => by rw [ha] at z; cases z; exact d⟩) h2
            · exact .inr ⟨by omega, fun q => h2 (.inr q)⟩
/-- no line below 0 -/
def pos (r : List Arc) : Prop := ∀ a ∈ r, 0 ≤ a.1
theorem other_ok {r : List Arc} (h : NF r) (p : pos r) : NF (other r) ∧ ∀ x, hit (other r) x ↔ 0 ≤ x ∧ ¬ hit r x := otherF_ok r 0 h p
theorem pos_of {r : List Arc} (h : NF r) (k : ∀ x, hit r x → 0 ≤ x) : pos r := fun a ha => k _ ⟨a, ha, inA_first (h.o a ha)⟩
theorem pos_hit {r : List Arc} (p : pos r) {x : Int} (h : hit r x) : 0 ≤ x := by
  obtain ⟨a, ha, q⟩ := h
  have := p a ha
  have := q.1
  omega
theorem minus_ok {r s : List Arc} (hr : NF r) (hs : NF s) (pr : pos r) (ps : pos s) : NF (meet r (other s)) ∧ ∀ x, hit (meet r (other s)) x ↔ hit r x ∧ ¬ hit s x := by
  obtain ⟨n, k⟩ := other_ok hs ps
  obtain ⟨m, q⟩ := meet_ok r (other s) hr n
  exact ⟨m, fun x => by rw [q x, k x]; exact ⟨fun h => ⟨h.1, h.2.2⟩, fun h => ⟨h.1, pos_hit pr h.1, h.2⟩⟩⟩
end WA
/-! arcs: widened, joined, pulled -/
namespace WA
def wid1 (low high : Int) (a : Arc) : List Arc := match a.2 with
  | none => [(mx 0 (a.1 + low), none)]
  | some l => if l + high ≥ 0 then [(mx 0 (a.1 + low), some (l + high))] else []
theorem wid1_ok {low high : Int} {a : Arc} (hl : low ≤ high) (ha : ok a) : (∀ b ∈ wid1 low high a, ok b) ∧ ∀ x, hit (wid1 low high a) x ↔ 0 ≤ x ∧ ∃ k, low ≤ k ∧ k ≤ high ∧ inA a (x - k) := by
  obtain ⟨f, l⟩ := a
  unfold wid1 mx
  cases l with
  | none =>
    refine ⟨fun b hb => by rw [List.mem_singleton.mp hb]; exact fun e z => (by cases z), fun x => ?_⟩
    rw [hit_one]
    constructor
    · intro h
      have h1 := h.1
      dsimp only at h1
      refine ⟨by split at h1 <;> omega, low, Int.le_refl _, hl, ?_, fun e z => by cases z⟩
      show f ≤ x - low
      split at h1 <;> omega
    · rintro ⟨h0, k, k1, k2, h1, h2⟩
      refine ⟨?_, fun e z => by cases z⟩
      have : f ≤ x - k := h1
      dsimp only
      split <;> omega
  | some l =>
    have hfl : f ≤ l := ha l rfl
    dsimp only
    by_cases c : l + high ≥ 0
    · rw [if_pos c]
      refine ⟨fun b hb => by rw [List.mem_singleton.mp hb]; exact fun e z => (by cases z; dsimp only; split <;> omega), fun x => ?_⟩
      rw [hit_one]
      constructor
      · intro h
        have h1 := h.1
        have h2 := h.2 _ rfl
        dsimp only at h1
        have h0 : 0 ≤ x := by split at h1 <;> omega
        have h3 : f + low ≤ x := by split at h1 <;> omega
        by_cases d : x - low ≤ l
        · exact ⟨h0, low, Int.le_refl _, hl, by show f ≤ x - low; omega, fun e z => by cases z; exact d⟩
        · exact ⟨h0, x - l, by omega, by omega, by show f ≤ x - (x - l); omega, fun e z => by cases z; omega⟩
      · rintro ⟨h0, k, k1, k2, h1, h2⟩
        have h1 : f ≤ x - k := h1
        have h2 := h2 l rfl
        exact ⟨by dsimp only; split <;> omega, fun e z => by cases z; omega⟩
    · rw [if_neg c]
      refine ⟨fun b hb => (List.not_mem_nil hb).elim, fun x => ⟨fun h => (hit_nil h).elim, ?_⟩⟩
      rintro ⟨h0, k, k1, k2, h1, h2⟩
      have h2 := h2 l rfl
      omega
theorem hit_flat {f : Arc → List Arc} : ∀ {r : List Arc} {x : Int}, hit (r.flatMap f) x ↔ ∃ a ∈ r, hit (f a) x
  | [], x => ⟨fun h => (hit_nil h).elim, fun ⟨_, h, _⟩ => (List.not_mem_nil h).elim⟩
  | a :: r, x => by
    rw [List.flatMap_cons, hit_app, hit_flat]
    constructor
    · rintro (h | ⟨b, hb, h⟩)
      · exact ⟨a, List.mem_cons_self, h⟩
      · exact ⟨b, List.mem_cons_of_mem _ hb, h⟩
    · rintro ⟨b, hb, h⟩
      rcases List.mem_cons.mp hb with rfl | hb
      · exact .inl h
      · exact .inr ⟨b, hb, h⟩
def widen (low high : Int) (r : List Arc) : List Arc := norm (r.flatMap (wid1 low high))
theorem wid_rows {low high : Int} {r : List Arc} (hl : low ≤ high) (h : ∀ a ∈ r, ok a) : ∀ b ∈ r.flatMap (wid1 low high), ok b := fun b hb => by
  obtain ⟨a, ha, q⟩ := List.mem_flatMap.mp hb
  exact (wid1_ok hl (h a ha)).1 b q
theorem widen_ok {low high : Int} {r : List Arc} (hl : low ≤ high) (h : ∀ a ∈ r, ok a) : NF (widen low high r) ∧ ∀ x, hit (widen low high r) x ↔ 0 ≤ x ∧ ∃ k, low ≤ k ∧ k ≤ high ∧ hit r (x - k) := by
  obtain ⟨n, k⟩ := norm_ok (wid_rows (low := low) (high := high) hl h)
  refine ⟨n, fun x => ?_⟩
  unfold widen
  rw [k x, hit_flat]
  constructor
  · rintro ⟨a, ha, q⟩
    obtain ⟨h0, j, j1, j2, j3⟩ := ((wid1_ok hl (h a ha)).2 x).mp q
    exact ⟨h0, j, j1, j2, a, ha, j3⟩
  · rintro ⟨h0, j, j1, j2, a, ha, j3⟩
    exact ⟨a, ha, ((wid1_ok hl (h a ha)).2 x).mpr ⟨h0, j, j1, j2, j3⟩⟩
/-! ### joined -/
/-- the open arc c, holes of pad lines at most filled -/
def joinF (pad : Int) : Arc → List Arc → List Arc
  | c, [] => [c]
  | c, x :: r => match c.2 with
    | none => [c]
    | some e => if x.1 - e - 1 ≤ pad then joinF pad (c.1, x.2) r else c :: joinF pad x r
def joined (pad : Int) : List Arc → List Arc
  | [] => []
  | c :: r => joinF pad c r
/-- between two hits with pad lines at most between them -/
def near (pad : Int) (S : Int → Prop) (x : Int) : Prop := ∃ y z, y ≤ x ∧ x ≤ z ∧ S y ∧ S z ∧ z - y - 1 ≤ pad
theorem joinF_ok {pad : Int} (hp : 0 ≤ pad) : ∀ (r : List Arc) (c : Arc), NF (c :: r) → NF (joinF pad c r) ∧ (∀ a ∈ joinF pad c r, c.1 ≤ a.1 ∧ hit (c :: r) a.1) ∧ ∀ x, hit (joinF pad c r) x ↔ near pad (hit (c :: r)) x
  | [], c, h => by
    rw [joinF]
    have oc := h.o c List.mem_cons_self
    refine ⟨h, fun a ha => by rw [List.mem_singleton.mp ha]; exact ⟨Int.le_refl _, c, List.mem_cons_self, inA_first oc⟩, fun x => ⟨fun q => ⟨x, x, Int.le_refl _, Int.le_refl _, q, q, by omega⟩, ?_⟩⟩
    rintro ⟨y, z, h1, h2, h3, h4, _⟩
    rw [hit_one] at *
    exact ⟨by have := h3.1; omega, fun e he => by have := h4.2 e he; omega⟩
  | x :: r, c, h => by
    obtain ⟨b, e0⟩ := c
    obtain ⟨f, l⟩ := x
    have op := List.pairwise_cons.mp h.g
    obtain ⟨e, he, hgap⟩ := op.1 (f, l) List.mem_cons_self
    have he : e0 = some e := he
    subst he
    have hgap : e + 1 < f := hgap
    have hbe : b ≤ e := h.o (b, some e) List.mem_cons_self e rfl
    have ox : ok (f, l) := h.o _ (List.mem_cons_of_mem _ List.mem_cons_self)
    have htail := h.tail
    rw [joinF]
    dsimp only
    by_cases c : f - e - 1 ≤ pad
    · rw [if_pos c]
      have n2 : NF ((b, l) :: r) := by
        refine ⟨fun a ha => ?_, List.pairwise_cons.mpr ⟨fun a ha => ?_, htail.tail.g⟩⟩
        · rcases List.mem_cons.mp ha with rfl | ha
          · intro e' z
            have := ox e' z
            show b ≤ e'
            have : f ≤ e' := this
            omega
          · exact htail.o a (List.mem_cons_of_mem _ ha)
        · exact (List.pairwise_cons.mp htail.g).1 a ha
      obtain ⟨i1, i2, i3⟩ := joinF_ok hp r (b, l) n2
      -- the merged arc holds the hole
      have sub : ∀ y, hit ((b, some e) :: (f, l) :: r) y → hit ((b, l) :: r) y := fun y hy => by
        rcases hit_cons.mp hy with q | q
        · refine hit_cons.mpr (.inl ⟨q.1, fun e' z => ?_⟩)
          have := q.2 e rfl
          have : f ≤ e' := ox e' z
          omega
        · rcases hit_cons.mp q with q | q
          · exact hit_cons.mpr (.inl ⟨by have : f ≤ y := q.1; show b ≤ y; omega, q.2⟩)
          · exact hit_cons.mpr (.inr q)
      have sup : ∀ y, hit ((b, l) :: r) y → hit ((b, some e) :: (f, l) :: r) y ∨ (e < y ∧ y < f) := fun y hy => by
        rcases hit_cons.mp hy with q | q
        · have q1 : b ≤ y := q.1
          by_cases d : y ≤ e
          · exact .inl (hit_cons.mpr (.inl ⟨q1, fun e' z => by cases z; exact d⟩))
          · by_cases d2 : y < f
            · exact .inr ⟨by omega, d2⟩
            · exact .inl (hit_cons.mpr (.inr (hit_cons.mpr (.inl ⟨by show f ≤ y; omega, q.2⟩))))
        · exact .inl (hit_cons.mpr (.inr (hit_cons.mpr (.inr q))))
      have hite : hit ((b, some e) :: (f, l) :: r) e := hit_cons.mpr (.inl ⟨hbe, fun e' z => by cases z; exact Int.le_refl _⟩)
      have hitf : hit ((b, some e) :: (f, l) :: r) f := hit_cons.mpr (.inr (hit_cons.mpr (.inl (inA_first ox))))
      refine ⟨i1, fun a ha => ⟨(i2 a ha).1, ?_⟩, fun y => (i3 y).trans ⟨?_, fun ⟨u, v, h1, h2, h3, h4, h5⟩ => ⟨u, v, h1, h2, sub u h3, sub v h4, h5⟩⟩⟩
      · rcases sup _ (i2 a ha).2 with q | q
        · exact q
        · -- no arc begins in the hole: it begins with b or behind f
          exfalso
          have q0 : ∀ a ∈ joinF pad (b, l) r, a.1 = b ∨ f ≤ a.1 := by
            intro a ha
            by_cases d : a.1 = b
            · exact .inl d
            · refine .inr ?_
              have key : ∀ (r : List Arc) (c : Arc), NF (c :: r) → (∀ x ∈ r, f ≤ x.1) → ∀ a ∈ joinF pad c r, a.1 = c.1 ∨ f ≤ a.1 := by
                intro r
                induction r with
                | nil =>
                  intro c _ _ a ha
                  rw [joinF] at ha
                  rw [List.mem_singleton.mp ha]
                  exact .inl rfl
                | cons x r ih =>
                  intro c hc hr a ha
                  rw [joinF] at ha
                  obtain ⟨e1, he1, _⟩ := (List.pairwise_cons.mp hc.g).1 x List.mem_cons_self
                  rw [he1] at ha
                  dsimp only at ha
                  have ht := hc.tail
                  have hx := hr x List.mem_cons_self
                  split at ha
                  · have n3 : NF ((c.1, x.2) :: r) := by
                      refine ⟨fun a ha => ?_, List.pairwise_cons.mpr ⟨fun a ha => (List.pairwise_cons.mp ht.g).1 a ha, ht.tail.g⟩⟩
                      rcases List.mem_cons.mp ha with rfl | ha
                      · intro e' z
                        have o1 := ht.o x List.mem_cons_self e' z
                        have o2 := hc.o c List.mem_cons_self e1 he1
                        obtain ⟨e2, he2, hg2⟩ := (List.pairwise_cons.mp hc.g).1 x List.mem_cons_self
                        rw [he1] at he2; cases he2
                        show c.1 ≤ e'
                        omega
                      · exact ht.o a (List.mem_cons_of_mem _ ha)
                    exact ih _ n3 (fun y hy => hr y (List.mem_cons_of_mem _ hy)) a ha
                  · rcases List.mem_cons.mp ha with rfl | ha
                    · exact .inl rfl
                    · rcases ih x ht (fun y hy => hr y (List.mem_cons_of_mem _ hy)) a ha with q | q
                      · exact .inr (by omega)
                      · exact .inr q
              rcases key r (b, l) n2 (fun y hy => by
                obtain ⟨e2, he2, hg2⟩ := (List.pairwise_cons.mp htail.g).1 y hy
                have o := ox e2 he2
                have o : f ≤ e2 := o
                omega) a ha with q | q
              · exact absurd q d
              · exact q
          rcases q0 a ha with d | d <;> omega
      · rintro ⟨u, v, h1, h2, h3, h4, h5⟩
        by_cases hy : e < y ∧ y < f
        · exact ⟨e, f, by omega, by omega, hite, hitf, c⟩
        · rcases sup u h3 with p | p
          · rcases sup v h4 with q | q
            · exact ⟨u, v, h1, h2, p, q, h5⟩
            · exact ⟨u, e, h1, by omega, p, hite, by omega⟩
          · rcases sup v h4 with q | q
            · exact ⟨f, v, by omega, h2, hitf, q, by omega⟩
            · omega
    · rw [if_neg c]
      obtain ⟨i1, i2, i3⟩ := joinF_ok hp r (f, l) htail
      refine ⟨⟨fun a ha => ?_, List.pairwise_cons.mpr ⟨fun a ha => ⟨e, rfl, ?_⟩, i1.g⟩⟩, fun a ha => ?_, fun y => ?_⟩
      · rcases List.mem_cons.mp ha with rfl | ha
        · exact h.o _ List.mem_cons_self
        · exact i1.o a ha
      · have := (i2 a ha).1
        have : f ≤ a.1 := this
        omega
      · rcases List.mem_cons.mp ha with rfl | ha
        · exact ⟨Int.le_refl _, hit_cons.mpr (.inl (inA_first (h.o _ List.mem_cons_self)))⟩
        · have q := i2 a ha
          have q1 : f ≤ a.1 := q.1
          exact ⟨by show b ≤ a.1; omega, hit_cons.mpr (.inr q.2)⟩
      · have lo : ∀ z, hit ((f, l) :: r) z → f ≤ z := fun z hz => by
          rcases hit_cons.mp hz with q | q
          · exact q.1
          · obtain ⟨e2, he2, hb⟩ := behind htail q
            have := ox e2 he2
            have : f ≤ e2 := this
            omega
        rw [hit_cons, i3 y]
        constructor
        · rintro (q | ⟨u, v, h1, h2, h3, h4, h5⟩)
          · exact ⟨y, y, Int.le_refl _, Int.le_refl _, hit_cons.mpr (.inl q), hit_cons.mpr (.inl q), by omega⟩
          · exact ⟨u, v, h1, h2, hit_cons.mpr (.inr h3), hit_cons.mpr (.inr h4), h5⟩
        · rintro ⟨u, v, h1, h2, h3, h4, h5⟩
          rcases hit_cons.mp h3 with p | p
          · rcases hit_cons.mp h4 with q | q
            · exact .inl ⟨by have : b ≤ u := p.1; show b ≤ y; omega, fun e' z => by have := q.2 e' z; omega⟩
            · have := lo v q
              have := p.2 e rfl
              omega
          · rcases hit_cons.mp h4 with q | q
            · have := lo u p
              have := q.2 e rfl
              omega
            · exact .inr ⟨u, v, h1, h2, p, q, h5⟩
theorem joined_ok {pad : Int} (hp : 0 ≤ pad) {r : List Arc} (h : NF r) : NF (joined pad r) ∧ (∀ a ∈ joined pad r, hit r a.1) ∧ ∀ x, hit (joined pad r) x ↔ near pad (hit r) x := by
  cases r with
  | nil =>
    refine ⟨NF.nil, fun a ha => (List.not_mem_nil ha).elim, fun x => ⟨fun q => (hit_nil q).elim, ?_⟩⟩
    rintro ⟨y, z, _, _, q, _, _⟩
    exact (hit_nil q).elim
  | cons c r =>
    obtain ⟨a, b, d⟩ := joinF_ok hp r c h
    exact ⟨a, fun x hx => (b x hx).2, d⟩
/-! ### pulled -/
def pul1 (a b c : Int) (x : Arc) : List Arc := match x.2 with
  | none => [(mx 0 (x.1 - a - c), none)]
  | some l => if l - b ≥ mx 0 (x.1 - a - c) then [(mx 0 (x.1 - a - c), some (l - b))] else []
theorem pul1_ok {a b c : Int} {x : Arc} : (∀ y ∈ pul1 a b c x, ok y) ∧ ∀ z, hit (pul1 a b c x) z ↔ 0 ≤ z ∧ x.1 ≤ z + a + c ∧ ∀ l, x.2 = some l → z + b ≤ l := by
  obtain ⟨f, l⟩ := x
  have hmx : 0 ≤ mx 0 (f - a - c) ∧ f - a - c ≤ mx 0 (f - a - c) ∧ (mx 0 (f - a - c) = 0 ∨ mx 0 (f - a - c) = f - a - c) := by
    unfold mx
    split <;> omega
  unfold pul1
  dsimp only
  generalize mx 0 (f - a - c) = B at hmx ⊢
  cases l with
  | none =>
    refine ⟨fun y hy => by rw [List.mem_singleton.mp hy]; exact fun e z => (by cases z), fun z => ?_⟩
    rw [hit_one]
    constructor
    · intro h
      have h1 : B ≤ z := h.1
      exact ⟨by omega, by omega, fun e z => by cases z⟩
    · rintro ⟨h1, h2, _⟩
      exact ⟨by show B ≤ z; omega, fun e z => by cases z⟩
  | some l =>
    dsimp only
    by_cases q : l - b ≥ B
    · rw [if_pos q]
      refine ⟨fun y hy => by rw [List.mem_singleton.mp hy]; exact fun e z => (by cases z; exact q), fun z => ?_⟩
      rw [hit_one]
      constructor
      · intro h
        have h1 : B ≤ z := h.1
        have h2 := h.2 _ rfl
        exact ⟨by omega, by omega, fun e z => by cases z; omega⟩
      · rintro ⟨h1, h2, h3⟩
        have h3 := h3 l rfl
        exact ⟨by show B ≤ z; omega, fun e z => by cases z; omega⟩
    · rw [if_neg q]
      refine ⟨fun y hy => (List.not_mem_nil hy).elim, fun z => ⟨fun h => (hit_nil h).elim, ?_⟩⟩
      rintro ⟨h1, h2, h3⟩
      have h3 := h3 l rfl
      omega
def pulled (a b c : Int) (r : List Arc) : List Arc := norm ((joined c r).flatMap (pul1 a b c))
/-- the line behind an end is no hit -/
theorem out_end {xs : List Arc} (h : NF xs) {x : Arc} (hx : x ∈ xs) {e : Int} (he : x.2 = some e) : ¬ hit xs (e + 1) := by
  induction xs with
  | nil => exact (List.not_mem_nil hx).elim
  | cons y ys ih =>
    intro q
    rcases List.mem_cons.mp hx with rfl | hx
    · rcases hit_cons.mp q with q | q
      · have := q.2 e he; omega
      · obtain ⟨e', e1, e2⟩ := behind h q
        rw [he] at e1; cases e1; omega
    · rcases hit_cons.mp q with q | q
      · obtain ⟨e', e1, e2⟩ := (List.pairwise_cons.mp h.g).1 x hx
        have := q.2 e' e1
        have := h.tail.o x hx e he
        omega
      · exact ih h.tail hx q
theorem pulled_ok {a b c : Int} {r : List Arc} (hab : a ≤ b) (hc : 0 ≤ c) (h : NF r) : NF (pulled a b c r) ∧ ∀ x, hit (pulled a b c r) x ↔ 0 ≤ x ∧ ∀ l, a ≤ l → l ≤ b → ∃ p, 0 ≤ p ∧ p ≤ c ∧ hit r (x + l + p) := by
  obtain ⟨n, k⟩ := norm_ok (rows := (joined c r).flatMap (pul1 a b c)) fun y hy => by
    obtain ⟨x, hx, q⟩ := List.mem_flatMap.mp hy
    exact pul1_ok.1 y q
  obtain ⟨jn, js, jh⟩ := joined_ok hc h
  refine ⟨n, fun x => ?_⟩
  unfold pulled
  rw [k x, hit_flat]
  constructor
  · rintro ⟨J, hJ, q⟩
    obtain ⟨h0, h1, h2⟩ := (pul1_ok.2 x).mp q
    refine ⟨h0, fun l l1 l2 => ?_⟩
    by_cases d : x + l < J.1
    · exact ⟨J.1 - (x + l), by omega, by omega, by rw [show x + l + (J.1 - (x + l)) = J.1 by omega]; exact js J hJ⟩
    · have hin : hit (joined c r) (x + l) := ⟨J, hJ, by omega, fun e he => by have := h2 e he; omega⟩
      obtain ⟨y, z, y1, y2, y3, y4, y5⟩ := (jh _).mp hin
      by_cases d2 : y = x + l
      · exact ⟨0, Int.le_refl _, hc, by rw [Int.add_zero, ← d2]; exact y3⟩
      · exact ⟨z - (x + l), by omega, by omega, by rw [show x + l + (z - (x + l)) = z by omega]; exact y4⟩
  · rintro ⟨h0, hw⟩
    have key : ∀ n : Nat, a + n ≤ b → ∃ J ∈ joined c r, J.1 ≤ x + a + c ∧ ∃ t, x + (a + n) ≤ t ∧ t ≤ x + (a + n) + c ∧ inA J t ∧ hit r t := by
      intro n
      induction n with
      | zero =>
        intro hn
        obtain ⟨p, p1, p2, p3⟩ := hw a (Int.le_refl _) hab
        have hj : hit (joined c r) (x + a + p) := (jh _).mpr ⟨_, _, Int.le_refl _, Int.le_refl _, p3, p3, by omega⟩
        obtain ⟨J, hJ, q⟩ := hj
        exact ⟨J, hJ, by have := q.1; omega, _, by simp; omega, by simp; omega, q, p3⟩
      | succ n ih =>
        intro hn
        obtain ⟨J, hJ, j1, t, t1, t2, t3, t4⟩ := ih (by omega)
        by_cases d : x + (a + ((n + 1 : Nat) : Int)) ≤ t
        · exact ⟨J, hJ, j1, t, d, by omega, t3, t4⟩
        · obtain ⟨p, p1, p2, p3⟩ := hw (a + ((n + 1 : Nat) : Int)) (by omega) hn
          refine ⟨J, hJ, j1, _, ?_, ?_, ?_, p3⟩
          · omega
          · omega
          · have step : ∀ m : Nat, t + m ≤ x + (a + ((n + 1 : Nat) : Int)) + p → inA J (t + m) := by
              intro m
              induction m with
              | zero => intro _; simpa using t3
              | succ m ihm =>
                intro hm
                have q := ihm (by omega)
                refine ⟨by have := q.1; omega, fun e he => ?_⟩
                by_cases d3 : t + ((m + 1 : Nat) : Int) ≤ e
                · exact d3
                · exfalso
                  have := q.2 e he
                  refine out_end jn hJ he ((jh _).mpr ⟨t, _, ?_, ?_, t4, p3, ?_⟩)
                  · omega
                  · omega
                  · omega
            have := step (x + (a + ((n + 1 : Nat) : Int)) + p - t).toNat (by omega)
            rw [show t + ((x + (a + ((n + 1 : Nat) : Int)) + p - t).toNat : Int) = x + (a + ((n + 1 : Nat) : Int)) + p by omega] at this
            exact this
    obtain ⟨J, hJ, j1, t, t1, t2, t3, t4⟩ := key (b - a).toNat (by omega)
    refine ⟨J, hJ, (pul1_ok.2 x).mpr ⟨h0, j1, fun l hl => ?_⟩⟩
    have := t3.2 l hl
    omega
end WA
/-! arcs against rows of 0 and 1 -/
namespace WA
def inb (x : Int) (a : Arc) : Bool := decide (a.1 ≤ x) && match a.2 with | none => true | some l => decide (x ≤ l)
def hb (r : List Arc) (x : Int) : Bool := r.any (inb x)
theorem inb_iff {x : Int} {a : Arc} : inb x a = true ↔ inA a x := by
  obtain ⟨f, l⟩ := a
  unfold inb inA
  cases l <;> simp
theorem hb_iff {r : List Arc} {x : Int} : hb r x = true ↔ hit r x := by
  unfold hb hit
  rw [List.any_eq_true]
  exact ⟨fun ⟨a, h, q⟩ => ⟨a, h, inb_iff.mp q⟩, fun ⟨a, h, q⟩ => ⟨a, h, inb_iff.mpr q⟩⟩
theorem hb_f {r : List Arc} {x : Int} (h : ¬ hit r x) : hb r x = false := by
  cases q : hb r x with
  | false => rfl
  | true => exact (h (hb_iff.mp q)).elim
theorem hb_eq {r s : List Arc} {x y : Int} (h : hit r x ↔ hit s y) : hb r x = hb s y := Bool.eq_iff_iff.mpr (hb_iff.trans (h.trans hb_iff.symm))
def bi (b : Bool) : Int := if b = true then 1 else 0
theorem bi_inj {a b : Bool} (h : bi a = bi b) : a = b := by cases a <;> cases b <;> first | rfl | (revert h; decide)
theorem bi_one {a : Bool} : bi a = 1 ↔ a = true := by cases a <;> decide
/-! ### 100 lines -/
def thF (f : Nat → Bool) : List Int := (List.range 100).map fun i => bi (f i)
theorem thF_len {f : Nat → Bool} : (thF f).length = 100 := by unfold thF; rw [List.length_map, List.length_range]
theorem thF_congr {f g : Nat → Bool} (h : ∀ i < 100, f i = g i) : thF f = thF g := List.map_congr_left fun i hi => by rw [h i (List.mem_range.mp hi)]
theorem thF_get {f : Nat → Bool} {i : Nat} (h : i < 100) : (thF f)[i]? = some (bi (f i)) := by
  unfold thF
  rw [List.getElem?_map, List.getElem?_range h]
  rfl
theorem thF_set {f : Nat → Bool} {k : Nat} (hk : k < 100) : (thF f).set k 1 = thF fun i => f i || decide (i = k) := by
  apply List.ext_getElem?
  intro i
  by_cases h : i < 100
  · rw [thF_get h]
    by_cases e : k = i
    · subst e
      rw [List.getElem?_set_self (by rw [thF_len]; exact h)]
      simp [bi]
    · rw [List.getElem?_set_ne e, thF_get h]
      have e : ¬ i = k := fun z => e z.symm
      simp [e]
  · rw [List.getElem?_eq_none (by rw [List.length_set, thF_len]; omega), List.getElem?_eq_none (by rw [thF_len]; omega)]
def thOf (base : Int) (r : List Arc) : List Int := thF fun i => hb r (base + i)
def enOf (base : Int) (r : List Arc) : Int := bi (hb r (base + 100))
/-- what the law knows of a set -/
structure KN (base : Int) (r : List Arc) : Prop where
  nf : NF r
  b0 : 0 ≤ base
  b1 : base ≤ 1000000
  lo : ∀ a ∈ r, base ≤ a.1 ∧ a.1 ≤ base + 90
  hi : ∀ a ∈ r, ∀ l, a.2 = some l → l ≤ base + 90
  len : r.length ≤ 7
theorem KN.below {base : Int} {r : List Arc} (h : KN base r) {x : Int} (hx : hit r x) : base ≤ x := by
  obtain ⟨a, ha, q⟩ := hx
  have := (h.lo a ha).1
  have := q.1
  omega
theorem KN.far {base : Int} {r : List Arc} (h : KN base r) {x y : Int} (hx : base + 91 ≤ x) (hy : base + 91 ≤ y) (q : hit r x) : hit r y := by
  obtain ⟨a, ha, q1, q2⟩ := q
  have l := (h.lo a ha).2
  refine ⟨a, ha, by omega, fun e he => ?_⟩
  have := h.hi a ha e he
  have := q2 e he
  omega
theorem KN.farI {base : Int} {r : List Arc} (h : KN base r) {x y : Int} (hx : base + 91 ≤ x) (hy : base + 91 ≤ y) : hit r x ↔ hit r y := ⟨h.far hx hy, h.far hy hx⟩
theorem KN.pos {base : Int} {r : List Arc} (h : KN base r) : WA.pos r := fun a ha => by have := (h.lo a ha).1; have := h.b0; omega
/-- what _law_in tells -/
theorem KN.in_lo {base : Int} {r : List Arc} (h : KN base r) {i : Int} (hi : i < 0) : bi (hb r (base + i)) = 0 := by
  rw [hb_f fun q => by have := h.below q; omega]
  rfl
theorem KN.in_hi {base : Int} {r : List Arc} (h : KN base r) {i : Int} (hi : 100 ≤ i) : bi (hb r (base + i)) = enOf base r := by
  unfold enOf
  rw [hb_eq (h.farI (x := base + i) (y := base + 100) (by omega) (by omega))]
/-! ### a set drawn -/
structure LS (base : Int) (r : List Arc) (line : Int) (j : Int) : Prop where
  nf : NF r
  cl : ∀ a ∈ r, base ≤ a.1 ∧ ∃ l, a.2 = some l ∧ l + 1 < base + line
  len : r.length ≤ j
  l0 : 0 ≤ line
  l1 : line ≤ 3 + 11 * j
theorem LS.nil {base line : Int} (h0 : 0 ≤ line) (h1 : line ≤ 3) : LS base [] line 0 := ⟨NF.nil, fun a h => (List.not_mem_nil h).elim, Int.le_refl _, h0, by omega⟩
theorem LS.step {base line j last d : Int} {r : List Arc} (h : LS base r line j) (h1 : line ≤ last) (h2 : last ≤ line + 5) (h3 : 0 ≤ d) (h4 : d ≤ 4) : LS base (r ++ [(base + line, some (base + last))]) (last + 2 + d) (j + 1) := by
  have := h.l0
  have := h.l1
  refine ⟨⟨fun a ha => ?_, List.pairwise_append.mpr ⟨h.nf.g, List.pairwise_singleton _ _, fun a ha b hb => ?_⟩⟩, fun a ha => ?_, ?_, by omega, by omega⟩
  · rcases List.mem_append.mp ha with ha | ha
    · exact h.nf.o a ha
    · rw [List.mem_singleton.mp ha]
      intro e z
      cases z
      show base + line ≤ base + last
      omega
  · rw [List.mem_singleton.mp hb]
    obtain ⟨_, l, e, q⟩ := h.cl a ha
    exact ⟨l, e, q⟩
  · rcases List.mem_append.mp ha with ha | ha
    · obtain ⟨q1, l, e, q⟩ := h.cl a ha
      exact ⟨q1, l, e, by omega⟩
    · rw [List.mem_singleton.mp ha]
      exact ⟨by show base ≤ base + line; omega, _, rfl, by omega⟩
  · have := h.len
    rw [List.length_append, List.length_singleton]
    omega
theorem hit_snoc {r : List Arc} {a : Arc} {x : Int} : hit (r ++ [a]) x ↔ hit r x ∨ inA a x := by rw [hit_app, hit_one]
/-- the lines told, one arc more -/
theorem LS.th {base line last : Int} {r : List Arc} {f : Nat → Bool} (hf : ∀ i < 100, f i = true ↔ hit r (base + i) ∨ (line ≤ i ∧ (i : Int) < last + 1)) : thF f = thOf base (r ++ [(base + line, some (base + last))]) := thF_congr fun i hi => by
  rw [Bool.eq_iff_iff, hf i hi, hb_iff, hit_snoc]
  refine or_congr Iff.rfl ⟨fun h => ⟨by show base + line ≤ base + i; omega, fun e z => by cases z; omega⟩, fun h => ?_⟩
  have h1 : base + line ≤ base + i := h.1
  have h2 := h.2 _ rfl
  omega
theorem LS.fin {base line j : Int} {r : List Arc} (h : LS base r line j) (hj : j ≤ 7) (b0 : 0 ≤ base) (b1 : base ≤ 1000000) : KN base r ∧ enOf base r = 0 := by
  have l1 := h.l1
  have k : KN base r := ⟨h.nf, b0, b1, fun a ha => by
    obtain ⟨q1, l, e, q⟩ := h.cl a ha
    have := h.nf.o a ha l e
    exact ⟨q1, by omega⟩, fun a ha l e => by
    obtain ⟨q1, l', e', q⟩ := h.cl a ha
    rw [e] at e'
    cases e'
    omega, by have := h.len; omega⟩
  refine ⟨k, ?_⟩
  have no : ¬ hit r (base + 100) := fun ⟨a, ha, q⟩ => by
    obtain ⟨q1, l, e, q2⟩ := h.cl a ha
    have := q.2 l e
    omega
  unfold enOf
  rw [hb_f no]
  rfl
theorem hit_open {r : List Arc} {b l x : Int} (h : b ≤ l) : hit (r ++ [(b, none)]) x ↔ hit (r ++ [(b, some l)]) x ∨ b ≤ x := by
  rw [hit_snoc, hit_snoc]
  constructor
  · rintro (q | q)
    · exact .inl (.inl q)
    · exact .inr q.1
  · rintro ((q | q) | q)
    · exact .inl q
    · exact .inr ⟨q.1, fun e z => by cases z⟩
    · exact .inr ⟨q, fun e z => by cases z⟩
theorem LS.open_ {base line j b l : Int} {r : List Arc} (h : LS base (r ++ [(b, some l)]) line j) (hj : j ≤ 7) (b0 : 0 ≤ base) (b1 : base ≤ 1000000) : b ≤ l ∧ base ≤ b ∧ b ≤ base + 90 ∧ KN base (r ++ [(b, none)]) ∧ enOf base (r ++ [(b, none)]) = 1 := by
  have k := (h.fin hj b0 b1).1
  have m : ((b, some l) : Arc) ∈ r ++ [(b, some l)] := List.mem_append_right _ List.mem_cons_self
  have hbl : b ≤ l := h.nf.o _ m l rfl
  have lo := k.lo _ m
  have lo1 : base ≤ b := lo.1
  have lo2 : b ≤ base + 90 := lo.2
  have op := List.pairwise_append.mp h.nf.g
  have kk : KN base (r ++ [(b, none)]) := by
    refine ⟨⟨fun a ha => ?_, List.pairwise_append.mpr ⟨op.1, List.pairwise_singleton _ _, fun a ha c hc => ?_⟩⟩, b0, b1, fun a ha => ?_, fun a ha e he => ?_, ?_⟩
    · rcases List.mem_append.mp ha with ha | ha
      · exact h.nf.o a (List.mem_append_left _ ha)
      · rw [List.mem_singleton.mp ha]; intro e z; cases z
    · rw [List.mem_singleton.mp hc]
      exact op.2.2 a ha (b, some l) List.mem_cons_self
    · rcases List.mem_append.mp ha with ha | ha
      · exact k.lo a (List.mem_append_left _ ha)
      · rw [List.mem_singleton.mp ha]; exact lo
    · rcases List.mem_append.mp ha with ha | ha
      · exact k.hi a (List.mem_append_left _ ha) e he
      · rw [List.mem_singleton.mp ha] at he; cases he
    · have := k.len
      simp only [List.length_append, List.length_singleton] at this ⊢
      exact this
  refine ⟨hbl, lo1, lo2, kk, ?_⟩
  unfold enOf
  rw [hb_iff.mpr ((hit_open hbl).mpr (.inr (by omega)))]
  rfl
theorem LS.thO {base b l : Int} {r : List Arc} {f : Nat → Bool} (h : b ≤ l) (hf : ∀ i < 100, f i = true ↔ hit (r ++ [(b, some l)]) (base + i) ∨ b - base ≤ i) : thF f = thOf base (r ++ [(b, none)]) := thF_congr fun i hi => by
  rw [Bool.eq_iff_iff, hf i hi, hb_iff, hit_open h]
  refine or_congr Iff.rfl ⟨fun h => by omega, fun h => by omega⟩
/-! ### 160 lines -/
def duF (f : Int → Bool) : List Int := (List.range 160).map fun k : Nat => bi (f ((k : Int) - 40))
theorem duF_len {f : Int → Bool} : (duF f).length = 160 := by unfold duF; rw [List.length_map, List.length_range]
theorem duF_get {f : Int → Bool} {i : Nat} (h : i < 160) : (duF f)[i]? = some (bi (f ((i : Int) - 40))) := by
  unfold duF
  rw [List.getElem?_map, List.getElem?_range h]
  rfl
/-- the row of 0 and 1 tells the set -/
structure Are (base : Int) (r : List Arc) (f : Int → Bool) : Prop where
  nf : NF r
  ps : pos r
  w : ∀ i : Int, -40 ≤ i → i < 120 → 0 ≤ base + i → (f i = true ↔ hit r (base + i))
  lo : ∀ x, hit r x → base - 40 ≤ x
  hi : ∀ x, base + 119 ≤ x → (hit r x ↔ hit r (base + 119))
/-! ### the arcs found in a row -/
def fst1 (found : List Arc) (x : Int) : List Arc := match found.getLast? with
  | none => found ++ [(x, some x)]
  | some a => if a.2 = some (x - 1) then found.dropLast ++ [(a.1, some x)] else found ++ [(x, some x)]
/-- NF, all closed, all behind -/
structure FI (found : List Arc) (x : Int) : Prop where
  nf : NF found
  cl : ∀ a ∈ found, ∃ l, a.2 = some l ∧ l < x
theorem FI.nil {x : Int} : FI [] x := ⟨NF.nil, fun a h => (List.not_mem_nil h).elim⟩
theorem FI.mono {found : List Arc} {x y : Int} (h : FI found x) (l : x ≤ y) : FI found y := ⟨h.nf, fun a ha => by obtain ⟨l, e, q⟩ := h.cl a ha; exact ⟨l, e, by omega⟩⟩
theorem fst1_nil {x : Int} : fst1 [] x = [(x, some x)] := rfl
theorem fst1_snoc {ini : List Arc} {b e x : Int} : fst1 (ini ++ [(b, some e)]) x = if e = x - 1 then ini ++ [(b, some x)] else ini ++ [(b, some e)] ++ [(x, some x)] := by
  unfold fst1
  rw [show (ini ++ [((b, some e) : Arc)]).getLast? = some (b, some e) by simp, List.dropLast_concat]
  simp
theorem FI.step {found : List Arc} {x : Int} (h : FI found x) : FI (fst1 found x) (x + 1) ∧ ∀ y, hit (fst1 found x) y ↔ hit found y ∨ y = x := by
  rcases List.eq_nil_or_concat found with rfl | ⟨ini, a, rfl⟩
  · rw [fst1_nil]
    refine ⟨⟨⟨fun a ha => ?_, List.pairwise_singleton _ _⟩, fun a ha => ?_⟩, fun y => ?_⟩
    · rw [List.mem_singleton.mp ha]; intro e z; cases z; exact Int.le_refl _
    · rw [List.mem_singleton.mp ha]; exact ⟨x, rfl, by omega⟩
    · rw [hit_one]
      refine ⟨fun q => .inr ?_, fun q => q.elim (fun q => (hit_nil q).elim) fun q => ⟨by show x ≤ y; omega, fun e z => by cases z; omega⟩⟩
      have h1 : x ≤ y := q.1
      have := q.2 x rfl
      omega
  · rw [List.concat_eq_append] at h ⊢
    obtain ⟨b, e'⟩ := a
    have m : ((b, e') : Arc) ∈ ini ++ [(b, e')] := List.mem_append_right _ List.mem_cons_self
    obtain ⟨e, he, hex⟩ := h.cl _ m
    have he : e' = some e := he
    subst he
    have hbe : b ≤ e := h.nf.o _ m e rfl
    have op := List.pairwise_append.mp h.nf.g
    rw [fst1_snoc]
    by_cases c : e = x - 1
    · rw [if_pos c]
      refine ⟨⟨⟨fun a ha => ?_, List.pairwise_append.mpr ⟨op.1, List.pairwise_singleton _ _, fun a ha d hd => ?_⟩⟩, fun a ha => ?_⟩, fun y => ?_⟩
      · rcases List.mem_append.mp ha with ha | ha
        · exact h.nf.o a (List.mem_append_left _ ha)
        · rw [List.mem_singleton.mp ha]; intro e1 z; cases z; show b ≤ x; omega
      · rw [List.mem_singleton.mp hd]
        exact op.2.2 a ha (b, some e) List.mem_cons_self
      · rcases List.mem_append.mp ha with ha | ha
        · obtain ⟨l, q1, q2⟩ := h.cl a (List.mem_append_left _ ha)
          exact ⟨l, q1, by omega⟩
        · rw [List.mem_singleton.mp ha]; exact ⟨x, rfl, by omega⟩
      · rw [hit_snoc, hit_snoc, or_assoc]
        refine or_congr Iff.rfl ⟨fun q => ?_, fun q => ?_⟩
        · have h1 : b ≤ y := q.1
          have h2 := q.2 x rfl
          by_cases d : y = x
          · exact .inr d
          · exact .inl ⟨h1, fun e1 z => by cases z; omega⟩
        · rcases q with q | q
          · have h1 : b ≤ y := q.1
            have h2 := q.2 e rfl
            exact ⟨h1, fun e1 z => by cases z; omega⟩
          · exact ⟨by show b ≤ y; omega, fun e1 z => by cases z; omega⟩
    · rw [if_neg c]
      refine ⟨⟨⟨fun a ha => ?_, List.pairwise_append.mpr ⟨h.nf.g, List.pairwise_singleton _ _, fun a ha d hd => ?_⟩⟩, fun a ha => ?_⟩, fun y => ?_⟩
      · rcases List.mem_append.mp ha with ha | ha
        · exact h.nf.o a ha
        · rw [List.mem_singleton.mp ha]; intro e1 z; cases z; exact Int.le_refl _
      · rw [List.mem_singleton.mp hd]
        rcases List.mem_append.mp ha with ha | ha
        · obtain ⟨z, z1, z2⟩ := op.2.2 a ha (b, some e) List.mem_cons_self
          exact ⟨z, z1, by have z2 : z + 1 < b := z2; show z + 1 < x; omega⟩
        · rw [List.mem_singleton.mp ha]; exact ⟨e, rfl, by show e + 1 < x; omega⟩
      · rcases List.mem_append.mp ha with ha | ha
        · obtain ⟨l, q1, q2⟩ := h.cl a ha
          exact ⟨l, q1, by omega⟩
        · rw [List.mem_singleton.mp ha]; exact ⟨x, rfl, by omega⟩
      · rw [hit_snoc]
        refine or_congr Iff.rfl ⟨fun q => ?_, fun q => ⟨by show x ≤ y; omega, fun e1 z => by cases z; omega⟩⟩
        have h1 : x ≤ y := q.1
        have := q.2 x rfl
        omega
/-- found holds the lines of r up to here -/
structure FK (base : Int) (r : List Arc) (found : List Arc) (k : Int) : Prop where
  fi : FI found (base - 40 + k)
  h : ∀ x, hit found x ↔ hit r x ∧ x < base - 40 + k
theorem FK.nil {base : Int} {r : List Arc} {f : Int → Bool} (h : Are base r f) : FK base r [] 0 := ⟨FI.nil, fun x => ⟨fun q => (hit_nil q).elim, fun q => by have := h.lo x q.1; omega⟩⟩
theorem FK.yes {base : Int} {r : List Arc} {f : Int → Bool} {found : List Arc} {k : Int} (h : Are base r f) (q : FK base r found k) (k0 : 0 ≤ k) (k1 : k < 160) (hf : f (k - 40) = true) (p : 0 ≤ base - 40 + k) : FK base r (fst1 found (base - 40 + k)) (k + 1) := by
  obtain ⟨a, b⟩ := q.fi.step
  have hk := (h.w (k - 40) (by omega) (by omega) (by omega)).mp hf
  rw [show base + (k - 40) = base - 40 + k by omega] at hk
  refine ⟨a.mono (by omega), fun x => (b x).trans ?_⟩
  rw [q.h x]
  constructor
  · rintro (z | z)
    · exact ⟨z.1, by omega⟩
    · rw [z]; exact ⟨hk, by omega⟩
  · rintro ⟨z1, z2⟩
    by_cases c : x = base - 40 + k
    · exact .inr c
    · exact .inl ⟨z1, by omega⟩
theorem FK.no {base : Int} {r : List Arc} {f : Int → Bool} {found : List Arc} {k : Int} (h : Are base r f) (q : FK base r found k) (k0 : 0 ≤ k) (k1 : k < 160) (hn : ¬ (f (k - 40) = true ∧ 0 ≤ base - 40 + k)) : FK base r found (k + 1) := by
  refine ⟨q.fi.mono (by omega), fun x => (q.h x).trans ⟨fun z => ⟨z.1, by omega⟩, fun z => ⟨z.1, ?_⟩⟩⟩
  by_cases c : x = base - 40 + k
  · refine (hn ?_).elim
    have p := pos_hit h.ps z.1
    refine ⟨(h.w (k - 40) (by omega) (by omega) (by omega)).mpr ?_, by omega⟩
    rw [show base + (k - 40) = x by omega]
    exact z.1
  · have := z.2
    omega
/-- all found -/
theorem FK.fin {base : Int} {r found : List Arc} {f : Int → Bool} (h : Are base r f) (q : FK base r found 160) (b0 : 0 ≤ base) (hf : f 119 = false) : found = r := by
  refine uniq q.fi.nf h.nf fun x => (q.h x).trans ⟨fun z => z.1, fun z => ⟨z, ?_⟩⟩
  by_cases c : x < base - 40 + 160
  · exact c
  · have := (h.hi x (by omega)).mp z
    have := (h.w 119 (by omega) (by omega) (by omega)).mpr this
    rw [hf] at this
    cases this
theorem FK.finO {base : Int} {r found : List Arc} {f : Int → Bool} (h : Are base r f) (q : FK base r found 160) (b0 : 0 ≤ base) (hf : f 119 = true) : ∃ ini b e, found = ini ++ [(b, some e)] ∧ ini ++ [(b, none)] = r := by
  have last : hit r (base + 119) := (h.w 119 (by omega) (by omega) (by omega)).mp hf
  have lf : hit found (base + 119) := (q.h _).mpr ⟨last, by omega⟩
  rcases List.eq_nil_or_concat found with rfl | ⟨ini, a, rfl⟩
  · exact (hit_nil lf).elim
  · rw [List.concat_eq_append] at q lf ⊢
    obtain ⟨b, e'⟩ := a
    have m : ((b, e') : Arc) ∈ ini ++ [(b, e')] := List.mem_append_right _ List.mem_cons_self
    obtain ⟨e, he, hex⟩ := q.fi.cl _ m
    have he : e' = some e := he
    subst he
    refine ⟨ini, b, e, rfl, ?_⟩
    have hbe : b ≤ e := q.fi.nf.o _ m e rfl
    have op := List.pairwise_append.mp q.fi.nf.g
    have he : e = base + 119 := by
      rcases hit_snoc.mp lf with z | z
      · obtain ⟨c, hc, z⟩ := z
        obtain ⟨g, g1, g2⟩ := op.2.2 c hc (b, some e) List.mem_cons_self
        have := z.2 g g1
        have g2 : g + 1 < b := g2
        omega
      · have := z.2 e rfl
        omega
    refine uniq ⟨fun a ha => ?_, List.pairwise_append.mpr ⟨op.1, List.pairwise_singleton _ _, fun a ha d hd => ?_⟩⟩ h.nf fun x => ?_
    · rcases List.mem_append.mp ha with ha | ha
      · exact q.fi.nf.o a (List.mem_append_left _ ha)
      · rw [List.mem_singleton.mp ha]; intro e1 z; cases z
    · rw [List.mem_singleton.mp hd]
      exact op.2.2 a ha (b, some e) List.mem_cons_self
    · rw [hit_open hbe, q.h x]
      constructor
      · rintro (z | z)
        · exact z.1
        · by_cases c : x ≤ e
          · exact ((q.h x).mp (hit_snoc.mpr (.inr ⟨z, fun e1 z1 => by cases z1; exact c⟩))).1
          · exact (h.hi x (by omega)).mpr last
      · intro z
        by_cases c : x < base - 40 + 160
        · exact .inl ⟨z, c⟩
        · exact .inr (by omega)
end WA
/-! rows of 0 and 1: joined, pulled; the sets of the law -/
namespace WA
theorem duF_congr {f g : Int → Bool} (h : ∀ i, -40 ≤ i → i < 120 → f i = g i) : duF f = duF g := List.map_congr_left fun i hi => by
  have := List.mem_range.mp hi
  rw [h ((i : Int) - 40) (by omega) (by omega)]
theorem duF_set {f : Int → Bool} {k : Nat} (hk : k < 160) : (duF f).set k 1 = duF fun i => f i || decide (i = (k : Int) - 40) := by
  apply List.ext_getElem?
  intro i
  by_cases h : i < 160
  · rw [duF_get h]
    by_cases e : k = i
    · subst e
      rw [List.getElem?_set_self (by rw [duF_len]; exact h)]
      simp [bi]
    · rw [List.getElem?_set_ne e, duF_get h]
      have e : ¬ (i : Int) - 40 = (k : Int) - 40 := fun z => e (by omega)
      simp [e]
  · rw [List.getElem?_eq_none (by rw [List.length_set, duF_len]; omega), List.getElem?_eq_none (by rw [duF_len]; omega)]
/-! ### joined -/
def nk (base pad : Int) (r : List Arc) (k x : Int) : Prop := ∃ y z, y ≤ x ∧ x ≤ z ∧ hit r y ∧ hit r z ∧ z - y - 1 ≤ pad ∧ z < base - 40 + k
structure JI (base pad : Int) (r : List Arc) (k : Int) (g : Int → Bool) (last : Option Int) : Prop where
  g : ∀ i, -40 ≤ i → i < 120 → (g i = true ↔ hit r (base + i) ∨ nk base pad r k (base + i))
  n : last = none → ∀ x, hit r x → base - 40 + k ≤ x
  s : ∀ m, last = some m → 0 ≤ m ∧ m < k ∧ hit r (base - 40 + m) ∧ ∀ x, hit r x → x < base - 40 + k → x ≤ base - 40 + m
theorem JI.nil {base pad : Int} {r : List Arc} (h : KN base r) : JI base pad r 0 (fun i => hb r (base + i)) none where
  g := fun i _ _ => by
    rw [hb_iff]
    refine ⟨.inl, fun q => q.elim id fun ⟨y, z, _, _, _, h2, _, h4⟩ => ?_⟩
    have := h.below h2
    omega
  n := fun _ x hx => by have := h.below hx; omega
  s := fun m z => by cases z
theorem JI.at_ {base pad k : Int} {r : List Arc} {g : Int → Bool} {last : Option Int} (j : JI base pad r k g last) (k0 : 0 ≤ k) (k1 : k < 160) : g (k - 40) = true ↔ hit r (base + (k - 40)) := (j.g (k - 40) (by omega) (by omega)).trans ⟨fun q => q.elim id fun ⟨y, z, _, _, _, _, _, _⟩ => by omega, .inl⟩
theorem JI.no {base pad k : Int} {r : List Arc} {g : Int → Bool} {last : Option Int} (j : JI base pad r k g last) (hn : ¬ hit r (base + (k - 40))) : JI base pad r (k + 1) g last where
  g := fun i i0 i1 => (j.g i i0 i1).trans (or_congr Iff.rfl ⟨fun ⟨y, z, h1, h2, h3, h4, h5, h6⟩ => ⟨y, z, h1, h2, h3, h4, h5, by omega⟩, fun ⟨y, z, h1, h2, h3, h4, h5, h6⟩ => ⟨y, z, h1, h2, h3, h4, h5, by
    by_cases c : z = base + (k - 40)
    · exact (hn (c ▸ h4)).elim
    · omega⟩⟩)
  n := fun e x hx => by
    have := j.n e x hx
    by_cases c : x = base + (k - 40)
    · exact (hn (c ▸ hx)).elim
    · omega
  s := fun m e => by
    obtain ⟨a, b, c, d⟩ := j.s m e
    refine ⟨a, by omega, c, fun x hx h => ?_⟩
    by_cases c : x = base + (k - 40)
    · exact (hn (c ▸ hx)).elim
    · exact d x hx (by omega)
theorem JI.lastOf {base pad k : Int} {r : List Arc} {g : Int → Bool} {last : Option Int} (j : JI base pad r k g last) (k0 : 0 ≤ k) (hy : hit r (base + (k - 40))) : ∀ m, some k = some m → 0 ≤ m ∧ m < k + 1 ∧ hit r (base - 40 + m) ∧ ∀ x, hit r x → x < base - 40 + (k + 1) → x ≤ base - 40 + m := fun m e => by
  cases e
  exact ⟨k0, by omega, by rw [show base - 40 + k = base + (k - 40) by omega]; exact hy, fun x _ h => by omega⟩
theorem JI.far {base pad k : Int} {r : List Arc} {g : Int → Bool} {last : Option Int} (j : JI base pad r k g last) (k0 : 0 ≤ k) (hy : hit r (base + (k - 40))) (hf : ∀ m, last = some m → ¬ k - m - 1 ≤ pad) : JI base pad r (k + 1) g (some k) where
  g := fun i i0 i1 => (j.g i i0 i1).trans ⟨fun q => q.imp_right fun ⟨y, z, h1, h2, h3, h4, h5, h6⟩ => ⟨y, z, h1, h2, h3, h4, h5, by omega⟩, fun q => by
    rcases q with q | ⟨y, z, h1, h2, h3, h4, h5, h6⟩
    · exact .inl q
    · by_cases c : z < base - 40 + k
      · exact .inr ⟨y, z, h1, h2, h3, h4, h5, c⟩
      · have hz : z = base + (k - 40) := by omega
        by_cases d : base + i = z
        · exact .inl (by rw [d]; exact h4)
        · cases hl : last with
          | none =>
            have := j.n hl y h3
            omega
          | some m =>
            obtain ⟨_, _, _, q4⟩ := j.s m hl
            have := q4 y h3 (by omega)
            have := hf m hl
            omega⟩
  n := fun e => by cases e
  s := j.lastOf k0 hy
theorem JI.near_ {base pad k m : Int} {r : List Arc} {g g' : Int → Bool} (j : JI base pad r k g (some m)) (k0 : 0 ≤ k) (hy : hit r (base + (k - 40))) (hf : k - m - 1 ≤ pad) (hg : ∀ i, -40 ≤ i → i < 120 → (g' i = true ↔ g i = true ∨ (m ≤ i + 40 ∧ i + 40 < k))) : JI base pad r (k + 1) g' (some k) where
  g := fun i i0 i1 => by
    obtain ⟨m0, m1, m2, m3⟩ := j.s m rfl
    rw [hg i i0 i1, j.g i i0 i1]
    constructor
    · rintro ((q | ⟨y, z, h1, h2, h3, h4, h5, h6⟩) | ⟨q1, q2⟩)
      · exact .inl q
      · exact .inr ⟨y, z, h1, h2, h3, h4, h5, by omega⟩
      · exact .inr ⟨base - 40 + m, base + (k - 40), by omega, by omega, m2, hy, by omega, by omega⟩
    · rintro (q | ⟨y, z, h1, h2, h3, h4, h5, h6⟩)
      · exact .inl (.inl q)
      · by_cases c : z < base - 40 + k
        · exact .inl (.inr ⟨y, z, h1, h2, h3, h4, h5, c⟩)
        · have hz : z = base + (k - 40) := by omega
          by_cases d : base + i = z
          · exact .inl (.inl (by rw [d]; exact h4))
          · by_cases e : m ≤ i + 40
            · exact .inr ⟨e, by omega⟩
            · exact .inl (.inr ⟨y, base - 40 + m, h1, by omega, h3, m2, by omega, by omega⟩)
  n := fun e => by cases e
  s := j.lastOf k0 hy
theorem JI.fin {base pad : Int} {r : List Arc} {g : Int → Bool} {last : Option Int} (h : KN base r) (hp : 0 ≤ pad) (j : JI base pad r 160 g last) : ∀ i, -40 ≤ i → i < 120 → (g i = true ↔ near pad (hit r) (base + i)) := fun i i0 i1 => (j.g i i0 i1).trans ⟨fun q => by
    rcases q with q | ⟨y, z, h1, h2, h3, h4, h5, h6⟩
    · exact ⟨_, _, Int.le_refl _, Int.le_refl _, q, q, by omega⟩
    · exact ⟨y, z, h1, h2, h3, h4, h5⟩, fun ⟨y, z, h1, h2, h3, h4, h5⟩ => by
    by_cases c : z < base - 40 + 160
    · exact .inr ⟨y, z, h1, h2, h3, h4, h5, c⟩
    · by_cases d : base + 91 ≤ base + i
      · exact .inl (h.far (by omega) d h4)
      · exact .inr ⟨y, base + 91, h1, by omega, h3, h.far (x := z) (by omega) (by omega) h4, by omega, by omega⟩⟩
/-! ### the sets that the law asks for -/
section
variable {base : Int} {r s : List Arc} {f : Int → Bool}
theorem are_self (h : KN base r) (hf : ∀ i, -40 ≤ i → i < 120 → (f i = true ↔ hit r (base + i))) : Are base r f :=
  ⟨h.nf, h.pos, fun i a b _ => hf i a b, fun x hx => by have := h.below hx; omega, fun x hx => h.farI (by omega) (by omega)⟩
theorem are_union (h : KN base r) (k : KN base s) (hf : ∀ i, -40 ≤ i → i < 120 → (f i = true ↔ hit r (base + i) ∨ hit s (base + i))) : Are base (norm (r ++ s)) f := by
  obtain ⟨n, q⟩ := norm_ok (rows := r ++ s) fun a ha => (List.mem_append.mp ha).elim (h.nf.o a) (k.nf.o a)
  have q2 : ∀ x, hit (norm (r ++ s)) x ↔ hit r x ∨ hit s x := fun x => (q x).trans hit_app
  have lo : ∀ x, hit (norm (r ++ s)) x → base ≤ x := fun x hx => ((q2 x).mp hx).elim h.below k.below
  exact ⟨n, pos_of n fun x hx => by have := lo x hx; have := h.b0; omega, fun i a b _ => (hf i a b).trans (q2 _).symm, fun x hx => by have := lo x hx; omega, fun x hx => by
    rw [q2, q2, h.farI (x := x) (y := base + 119) (by omega) (by omega), k.farI (x := x) (y := base + 119) (by omega) (by omega)]⟩
theorem are_meet (h : KN base r) (k : KN base s) (hf : ∀ i, -40 ≤ i → i < 120 → (f i = true ↔ hit r (base + i) ∧ hit s (base + i))) : Are base (meet r s) f := by
  obtain ⟨n, q⟩ := meet_ok r s h.nf k.nf
  have lo : ∀ x, hit (meet r s) x → base ≤ x := fun x hx => h.below ((q x).mp hx).1
  exact ⟨n, pos_of n fun x hx => by have := lo x hx; have := h.b0; omega, fun i a b _ => (hf i a b).trans (q _).symm, fun x hx => by have := lo x hx; omega, fun x hx => by
    rw [q, q, h.farI (x := x) (y := base + 119) (by omega) (by omega), k.farI (x := x) (y := base + 119) (by omega) (by omega)]⟩
theorem are_minus (h : KN base r) (k : KN base s) (hf : ∀ i, -40 ≤ i → i < 120 → (f i = true ↔ hit r (base + i) ∧ ¬ hit s (base + i))) : Are base (meet r (other s)) f := by
  obtain ⟨n, q⟩ := minus_ok h.nf k.nf h.pos k.pos
  have lo : ∀ x, hit (meet r (other s)) x → base ≤ x := fun x hx => h.below ((q x).mp hx).1
  exact ⟨n, pos_of n fun x hx => by have := lo x hx; have := h.b0; omega, fun i a b _ => (hf i a b).trans (q _).symm, fun x hx => by have := lo x hx; omega, fun x hx => by
    rw [q, q, h.farI (x := x) (y := base + 119) (by omega) (by omega), k.farI (x := x) (y := base + 119) (by omega) (by omega)]⟩
theorem are_widen {low high : Int} (h : KN base r) (hl : low ≤ high) (l0 : -9 ≤ low) (h1 : high ≤ 25) (hf : ∀ i, -40 ≤ i → i < 120 → (f i = true ↔ ∃ l, low ≤ l ∧ l ≤ high ∧ hit r (base + i - l))) : Are base (widen low high r) f := by
  obtain ⟨n, q⟩ := widen_ok hl h.nf.o
  refine ⟨n, pos_of n fun x hx => ((q x).mp hx).1, fun i a b p => (hf i a b).trans ((q _).trans ⟨fun z => z.2, fun z => ⟨p, z⟩⟩).symm, fun x hx => ?_, fun x hx => ?_⟩
  · obtain ⟨_, l, a, b, c⟩ := (q x).mp hx
    have := h.below c
    omega
  · have b0 := h.b0
    rw [q, q]
    constructor
    · rintro ⟨_, l, a, b, c⟩
      exact ⟨by omega, l, a, b, h.far (by omega) (by omega) c⟩
    · rintro ⟨_, l, a, b, c⟩
      exact ⟨by omega, l, a, b, h.far (by omega) (by omega) c⟩
theorem are_joined {pad : Int} (h : KN base r) (hp : 0 ≤ pad) (hf : ∀ i, -40 ≤ i → i < 120 → (f i = true ↔ near pad (hit r) (base + i))) : Are base (joined pad r) f := by
  obtain ⟨n, a, q⟩ := joined_ok hp h.nf
  have b0 := h.b0
  refine ⟨n, fun x hx => ?_, fun i i0 i1 _ => (hf i i0 i1).trans (q _).symm, fun x hx => ?_, fun x hx => ?_⟩
  · have := h.below (a x hx)
    omega
  · obtain ⟨y, z, h1, _, h3, _⟩ := (q x).mp hx
    have := h.below h3
    omega
  · rw [q, q]
    constructor
    · rintro ⟨y, z, h1, h2, h3, h4, h5⟩
      have := h.far (x := z) (y := base + 119) (by omega) (by omega) h4
      exact ⟨_, _, Int.le_refl _, Int.le_refl _, this, this, by omega⟩
    · rintro ⟨y, z, h1, h2, h3, h4, h5⟩
      have := h.far (x := z) (y := x) (by omega) (by omega) h4
      exact ⟨_, _, Int.le_refl _, Int.le_refl _, this, this, by omega⟩
theorem are_pulled {a b c : Int} (h : KN base r) (a0 : 0 ≤ a) (a1 : a ≤ 20) (hab : a ≤ b) (c0 : 0 ≤ c) (c1 : c ≤ 20) (hf : ∀ i, -40 ≤ i → i < 120 → (f i = true ↔ ∀ l, a ≤ l → l ≤ b → ∃ p, 0 ≤ p ∧ p ≤ c ∧ hit r (base + i + l + p))) : Are base (pulled a b c r) f := by
  obtain ⟨n, q⟩ := pulled_ok hab c0 h.nf
  have b0 := h.b0
  refine ⟨n, pos_of n fun x hx => ((q x).mp hx).1, fun i i0 i1 p => (hf i i0 i1).trans ((q _).trans ⟨fun z => z.2, fun z => ⟨p, z⟩⟩).symm, fun x hx => ?_, fun x hx => ?_⟩
  · obtain ⟨p, p0, p1, z⟩ := ((q x).mp hx).2 a (Int.le_refl _) hab
    have := h.below z
    omega
  · rw [q, q]
    constructor
    · rintro ⟨_, z⟩
      exact ⟨by omega, fun l l0 l1 => by obtain ⟨p, p0, p1, z⟩ := z l l0 l1; exact ⟨p, p0, p1, h.far (by omega) (by omega) z⟩⟩
    · rintro ⟨_, z⟩
      exact ⟨by omega, fun l l0 l1 => by obtain ⟨p, p0, p1, z⟩ := z l l0 l1; exact ⟨p, p0, p1, h.far (by omega) (by omega) z⟩⟩
end
end WA
namespace K09
open PySem PySem.Spec PyProof.Rows L2 Evl Lay Pu
section
variable {P : Program} {w : World} {K : PySem.W.Frag} {mg : Str → Option Value} {base : Heap} {CB CT cL_arcs_gathered PL_arcs_gathered : Addr} {tkL : Tok}
variable {Tb : List (Addr × Str)}
def top (i : Nat) : Stmt := PySem.Challenge.pw_comestrue_k09_arcs_are_sets_of_lines.main.body.getD i (.Pass ⟨0, 0, 0, 0⟩)
structure Txt (K : PySem.W.Frag) (mg : Str → Option Value) (CB : Addr) (tkL : Tok) : Prop where
  n_abs : mg "abs" = none
  n_bool : mg "bool" = none
  n_int : mg "int" = none
  n_isinstance : mg "isinstance" = none
  n_len : mg "len" = none
  n_list : mg "list" = none
  n_max : mg "max" = none
  n_min : mg "min" = none
  n_range : mg "range" = none
  n_repr : mg "repr" = none
  n_sorted : mg "sorted" = none
  n_sum : mg "sum" = none
  n_tuple : mg "tuple" = none
  g_LINES : mg "LINES" = some (.int 1000000 tkL)
  g_ComesError : mg "ComesError" = some (.ref CB)
  rd_ComesError : ClX.CRead K CB (.type "type")
  vi_ComesError : PySem.W.findCls K (.ref CB) (.type "type") "__init__" = some (.val (.builtin "ValueError.__init__"))
end
end K09
namespace K09
open PySem PySem.Spec PyProof.Rows L2 Evl Lay Pu
section
variable {P : Program} {w : World} {K : PySem.W.Frag} {mg : Str → Option Value} {base : Heap} {CB CT cL_arcs_gathered PL_arcs_gathered : Addr} {tkL : Tok}
variable {Tb : List (Addr × Str)}
/-! ### the errors' __init__ -/
abbrev s_TooMany___init__ : Stmt := inClass (top 2) 0
theorem sc_TooMany___init__ : FnScope ["self", "what"] ["self", "what"] (defScope s_TooMany___init__) := ⟨rfl, rfl, rfl, by decide +kernel, rfl, by decide +kernel, by decide +kernel⟩
theorem ok_initT {f : Addr} {fd : FuncData} (T : Txt K mg CB tkL  ) (F : Fun K "__init__" "TooMany.__init__" s_TooMany___init__ f fd) (o : OexC K CT) (no : PySem.W.findIn K (.ref CT) "what" = some none) : FnOk P w K mg base (L2.CX P w) 1 f fd ["self", "what"] (spExc K CT "what") := by
  refine F.okX sc_TooMany___init__ (fun vs H Q E h => ?_) (fun cdv Ar outer s H vs Q E hr h => ⟨_, (pss_cons (ps_expr (pe_binit rfl T.g_ComesError T.rd_ComesError T.vi_ComesError (pa_cons (pv 0) (pa_cons (pe_joined (PJ.cons pe_str (PJ.cons (pe_fmt (pv 1)) PJ.nil))) pa_nil))))
      (pss_one (ps_ost (pv 0) (pv 1)))), ?_⟩)
  · obtain ⟨a, v, rfl, _⟩ := h
    rfl
  · obtain ⟨a, v, rfl, tv, ha, q⟩ := h
    exact exc_body (fun R hR => js_c (n := 0) (by decide) (by decide +kernel) fun a1 h1 => js_v tv rfl h1 (by decide +kernel) fun a2 h2 => hR _) rfl rfl o no ha q
end
end K09
namespace K09
open PySem PySem.Spec PyProof.Rows L2 Evl Lay Pu
section
variable {P : Program} {w : World} {K : PySem.W.Frag} {mg : Str → Option Value} {base : Heap} {CB CT cL_arcs_gathered PL_arcs_gathered : Addr} {tkL : Tok}
variable {Tb : List (Addr × Str)}
/-! ### whole numbers, bounds -/
def isInt : D → Bool
  | .int _ => true | .non => false | .bl _ => false | .str _ => false | .lst _ => false | .tup _ => false | .obj _ _ => false | .pur => false | .scr _ => false | .raw _ => false
/-- a value of a built-in type -/
def built (d : D) : Prop := (tyD d).isSome = true
def fWhole : PF := fun ds R _ => ∃ d, ds = [d] ∧ built d ∧ R (.bl (isInt d))
abbrev s_is_whole : Stmt := top 4
theorem sc_is_whole : FnScope ["value"] ["value"] (defScope s_is_whole) := ⟨rfl, rfl, rfl, by decide +kernel, rfl, by decide +kernel, by decide +kernel⟩
theorem ok_is_whole (T : Txt K mg CB tkL  ) (F : At K mg "is_whole" s_is_whole ["value"]) : Def P w K mg base "is_whole" 1 ["value"] (spP K Tb fWhole) := by
  refine defP F sc_is_whole (fun ds R er h => ?_) (fun f cdv Ar outer s H vs Q E hr => ⟨_, (pss_one (ps_ret (pe_and (pe_callB (r := rIsi K) call_isi rfl T.n_isinstance (by decide +kernel) (pa_cons (pv 0) (pa_cons (pe_bltn (v := .ty "int") (u := .type "int") rfl T.n_int (by decide +kernel) rfl) pa_nil))) (pe_one (pe_not (pe_callB (r := rIsi K) call_isi rfl T.n_isinstance (by decide +kernel) (pa_cons (pv 0) (pa_cons (pe_bltn (v := .ty "bool") (u := .type "bool") rfl T.n_bool (by decide +kernel) rfl) pa_nil)))))))), fun B W0 G0 ds R er h => ?_⟩)
  · obtain ⟨d, rfl, _⟩ := h; rfl
  · obtain ⟨d, rfl, hb, h⟩ := h
    walk_at "pu0"
    cases d with
    | int i =>
      refine cb_isi rfl (b := true) (by decide +kernel) ?_
      walk_at "pu"
      refine cb_isi rfl (b := false) (by decide +kernel) ?_
      walk_at "pu"
      exact h
    | bl x =>
      refine cb_isi rfl (b := true) (by decide +kernel) ?_
      walk_at "pu"
      refine cb_isi rfl (b := true) (by decide +kernel) ?_
      walk_at "pu"
      exact h
    | non =>
      refine cb_isi rfl (b := false) (by decide +kernel) ?_
      walk_at "pu"
      exact h
    | str x =>
      refine cb_isi rfl (b := false) (by decide +kernel) ?_
      walk_at "pu"
      exact h
    | lst x =>
      refine cb_isi rfl (b := false) (by decide +kernel) ?_
      walk_at "pu"
      exact h
    | tup x =>
      refine cb_isi rfl (b := false) (by decide +kernel) ?_
      walk_at "pu"
      exact h
    | obj C fs => cases hb
    | pur => cases hb
    | scr ns => cases hb
    | raw v => cases hb
/-- d is a whole number beyond m -/
def over (d : D) (m : Int) : Bool := match d with | .int n => decide (n > m) | _ => false
def fMost (CT : Addr) : PF := fun ds R er => ∃ (s : Str) (d : D) (m : Int), ds = [.str s, d, .int m] ∧ s.length ≤ 1000 ∧ built d ∧ (over d m = true → er ⟨CT, [("what", .str s)]⟩) ∧ (over d m = false → R .non)
abbrev s_check_most : Stmt := top 7
theorem sc_check_most : FnScope ["what", "many", "most"] ["what", "many", "most"] (defScope s_check_most) := ⟨rfl, rfl, rfl, by decide +kernel, rfl, by decide +kernel, by decide +kernel⟩
theorem ok_check_most (T : Txt K mg CB tkL  ) (F : At K mg "check_most" s_check_most ["what", "many", "most"]) (x_TooMany : Exn P w K mg base "TooMany" "what" CT) (d_is_whole : Def P w K mg base "is_whole" 1 ["value"] (spP K Tb fWhole)) : Def P w K mg base "check_most" 3 ["what", "many", "most"] (spP K Tb (fMost CT)) := by
  refine defP F sc_check_most (fun ds R er h => ?_) (fun f cdv Ar outer s H vs Q E hr => ⟨_, (pss_one (ps_if (PW.pt (pw_and (pt_val (pe_d d_is_whole (hr.mono (by decide)) (passes_call (takes_of rfl rfl rfl rfl) (fun _ _ _ _ h => h)) (pa_cons (pv 1) pa_nil))) (pw_and1 (pt_cmpR op_gt (pv 1) (pv 2) (nomark _))))) (pss_one (ps_raiseE x_TooMany rfl (hr.mono (by decide)) (takes_of rfl rfl rfl rfl) (pv 0))) pss_nil)), fun B W0 G0 ds R er h => ?_⟩)
  · obtain ⟨s, d, m, rfl, _⟩ := h; rfl
  · obtain ⟨s, d, m, rfl, hs, hb, h1, h2⟩ := h
    walk_at "pu0"
    refine ⟨d, rfl, hb, ?_⟩
    have no : over d m = false → isInt d = false ∨ ∃ n, d = .int n ∧ ¬ n > m := fun h => by
      cases d with
      | int n => exact .inr ⟨n, rfl, of_decide_eq_false h⟩
      | _ => exact .inl rfl
    cases d with
    | int n =>
      show ∃ b, D.bl true = .bl b ∧ _
      walk_at "pu"
      refine r_ite (fun c => ?_) (fun c => ?_)
      · refine sx_raise (fun _ => rfl) ?_
        walk_at "pu"
        exact ⟨_, rfl, hs, h1 (decide_eq_true c)⟩
      · walk_at "pu"
        exact h2 (decide_eq_false c)
    | _ =>
      show ∃ b, D.bl false = .bl b ∧ _
      walk_at "pu"
      exact h2 rfl
def fNums (CT : Addr) (xs : List D → D) : PF := fun ds R er => ∃ (s : Str) (zs : List D) (m : Int), ds = [.str s, xs zs, .int m] ∧ s.length ≤ 1000 ∧ (∀ z ∈ zs, built z) ∧ ((∃ z ∈ zs, over z m = true) → er ⟨CT, [("what", .str s)]⟩) ∧ ((∀ z ∈ zs, over z m = false) → R .non)
end
end K09
namespace K09
open PySem PySem.Spec PyProof.Rows L2 Evl Lay Pu
section
variable {P : Program} {w : World} {K : PySem.W.Frag} {mg : Str → Option Value} {base : Heap} {CB CT cL_arcs_gathered PL_arcs_gathered : Addr} {tkL : Tok}
variable {Tb : List (Addr × Str)}
/-! ### arcs -/
abbrev Arc := WA.Arc
@[reducible] def aD (a : Arc) : D := .tup [.int a.1, oI a.2]
abbrev asD (r : List Arc) : D := .lst (r.map aD)
theorem en_aD : En aD 1 := ⟨fun x => by cases x with | mk a b => cases b <;> rfl, fun x => by cases x with | mk a b => cases b <;> simp [aD, oI, dpt, dpts], fun x => by cases x with | mk a b => cases b <;> rfl⟩
instance : En aD 1 := en_aD
theorem cn_arcs (r : List Arc) : Cn (asD r) := cn_lst en_aD (by decide) r
theorem asD_nil {r : List Arc} : r.map aD = [] ↔ r = [] := List.map_eq_nil_iff
def fLesser : PF := fun ds R _ => ∃ x y, ds = [oI x, oI y] ∧ R (oI (WA.lesser x y))
abbrev s_lesser_end : Stmt := top 11
theorem sc_lesser_end : FnScope ["one", "other"] ["one", "other"] (defScope s_lesser_end) := ⟨rfl, rfl, rfl, by decide +kernel, rfl, by decide +kernel, by decide +kernel⟩
theorem ok_lesser (T : Txt K mg CB tkL  ) (F : At K mg "lesser_end" s_lesser_end ["one", "other"]) : Def P w K mg base "lesser_end" 1 ["one", "other"] (spP K Tb fLesser) := by
  refine defP F sc_lesser_end (fun ds R er h => ?_) (fun f cdv Ar outer s H vs Q E hr => ⟨_, (pss_cons (ps_if (pt_cmpR op_isN1 (pv 0) pe_non (nomark _)) (pss_one (ps_ret (pv 1))) pss_nil)
      (pss_one (ps_ret (pe_ifExp (PW.pt (pw_or (pt_cmpR op_isN1 (pv 1) pe_non (nomark _)) (pw_or1 (pt_cmpR op_lt (pv 0) (pv 1) (nomark _))))) (pv 0) (pv 1))))), fun B W0 G0 ds R er h => ?_⟩)
  · obtain ⟨x, y, rfl, _⟩ := h; rfl
  · obtain ⟨x, y, rfl, h⟩ := h
    walk_at "pu0"
    cases x with
    | none =>
      walk_at "pu"
      exact h
    | some x =>
      walk_at "pu"
      cases y with
      | none =>
        walk_at "pu"
        exact h
      | some y =>
        walk_at "pu"
        unfold WA.lesser at h
        refine r_ite (fun c => ?_) (fun c => ?_)
        · simp only [if_pos c] at h
          walk_at "pu"
          exact h
        · simp only [if_neg c] at h
          walk_at "pu"
          exact h
/-! ### gathered -/
theorem last_ap {α : Type} (xs : List α) (x : α) : (xs ++ [x]).getLast? = some x := by simp
def fGath : PN := fun ds R _ => ∃ rs : List Arc, ds = [asD rs] ∧ (∀ a ∈ rs, WA.ok a) ∧ rs.length ≤ 1000000 ∧ R ((WA.norm rs).map aD)
theorem gstep_len (made : List Arc) (x : Arc) : (WA.gstep made x).length ≤ made.length + 1 := by
  unfold WA.gstep
  split
  · simp
  · split
    · omega
    · split
      · simp
      · split
        · simp
        · split <;> simp
theorem gfold_len : ∀ (ys made : List Arc), (ys.foldl WA.gstep made).length ≤ made.length + ys.length
  | [], made => Nat.le_refl _
  | y :: ys, made => by have a := gfold_len ys (WA.gstep made y); have b := gstep_len made y; rw [List.foldl_cons, List.length_cons]; omega
theorem gstep_last (ini : List Arc) (b : Int) (e : Option Int) (x : Arc) : WA.gstep (ini ++ [(b, e)]) x = match e with
    | none => ini ++ [(b, e)]
    | some e' => if x.1 > e' + 1 then ini ++ [(b, e)] ++ [x] else match x.2 with
      | none => ini ++ [(b, none)]
      | some l => if l > e' then ini ++ [(b, some l)] else ini ++ [(b, e)] := by
  unfold WA.gstep
  rw [last_ap, List.dropLast_concat]
  try (cases e <;> rfl)
abbrev s_arcs_gathered : Stmt := top 9
theorem sc_arcs_gathered : FnScope ["rows", "made", "first", "last", "begin", "end"] ["rows"] (defScope s_arcs_gathered) := ⟨rfl, rfl, rfl, by decide +kernel, rfl, by decide +kernel, by decide +kernel⟩
theorem ok_gathered (T : Txt K mg CB tkL  ) (F : AtL K mg "arcs_gathered" s_arcs_gathered ["rows"] cL_arcs_gathered) (TB_arcs_gathered : LamX.TabB base mg cL_arcs_gathered PL_arcs_gathered) (LM_arcs_gathered : (PL_arcs_gathered, lamQ "arcs_gathered") ∈ Tb) (LU_arcs_gathered : ∀ p ∈ Tb, p.1 = PL_arcs_gathered → p.2 = lamQ "arcs_gathered") : Def P w K mg base "arcs_gathered" 5 ["rows"] (spN K Tb fGath) := by
  refine defNL F sc_arcs_gathered (fun ds R er h => ?_) (fun f Ar outer s H vs Q E hr => ⟨_, (pss_cons (ps_set (i := 1) sc_arcs_gathered.nd rfl (Or.inl rfl) (pe_lst pa_nil))
      (pss_cons (ps_for (passes_of rfl) rfl (pi_list (Srk.pe_sortK (k0 := 1) (N := ["row"]) rfl T.n_sorted (pv 0) TB_arcs_gathered rfl LM_arcs_gathered LU_arcs_gathered (hr.mono (by decide)) ⟨rfl, rfl, rfl, by decide +kernel, rfl, by decide +kernel, by decide +kernel⟩ (fun _ => rfl) (by decide +kernel) rfl (fun _ _ _ _ _ => rfl) (fun A f c' s' H hr => (pe_ix (r := rIxT K) ix_tup (pv 0) pe_int (fun _ _ => rfl))))) (pg_tup (n := 2) rfl (pgs_cons (pg_name (i := 2) sc_arcs_gathered.nd rfl (Or.inl rfl)) (pgs_cons (pg_name (i := 3) sc_arcs_gathered.nd rfl (Or.inl rfl)) pgs_nil))) (pss_cons (ps_if (PW.pt (pw_or (pt_cmpR (r := rEqD K) (op_eqD hr.units) (pv 1) (pe_lst pa_nil) (nomark _)) (pw_or1 (PW.pt (pw_and (pt_cmpR op_notN1 (pe_ix (r := rIxT K) ix_tup (pe_ix (r := rIxL K) ix_list (pv 1) (pe_un un_neg pe_int) (fun _ _ => rfl)) pe_int (fun _ _ => rfl)) pe_non (nomark _)) (pw_and1 (pt_cmpR op_gt (pv 2) (pe_op op_add (pe_ix (r := rIxT K) ix_tup (pe_ix (r := rIxL K) ix_list (pv 1) (pe_un un_neg pe_int) (fun _ _ => rfl)) pe_int (fun _ _ => rfl)) pe_int) (nomark _)))))))) (pss_cons (ps_expr (pe_bm PySem.F.plainAttrs_list PySem.F.slot_list_append PySem.F.type_list_append mt_append (pv 1) (pa_cons (pe_tup (pa_cons (pv 2) (pa_cons (pv 3) pa_nil))) pa_nil)))
      (pss_one ps_continue)) pss_nil)
      (pss_cons (ps_asg (pe_ix (r := rIxL K) ix_list (pv 1) (pe_un un_neg pe_int) (fun _ _ => rfl)) (pg_tup (n := 2) rfl (pgs_cons (pg_name (i := 4) sc_arcs_gathered.nd rfl (Or.inl rfl)) (pgs_cons (pg_name (i := 5) sc_arcs_gathered.nd rfl (Or.inl rfl)) pgs_nil))))
      (pss_one (ps_if (PW.pt (pw_and (pt_cmpR op_notN1 (pv 5) pe_non (nomark _)) (pw_and1 (PW.pt (pw_or (pt_cmpR op_isN1 (pv 3) pe_non (nomark _)) (pw_or1 (pt_cmpR op_gt (pv 3) (pv 5) (nomark _)))))))) (pss_one (ps_asg (pe_tup (pa_cons (pv 4) (pa_cons (pv 3) pa_nil))) (pg_sub (pv 1) (pe_un un_neg pe_int) set_list))) pss_nil)))))
      (pss_one (ps_ret (pv 1))))), fun B W0 G0 ds R er h => ?_⟩)
  · obtain ⟨rs, rfl, _⟩ := h; rfl
  · obtain ⟨rs, rfl, hk, hl, h⟩ := h
    walk_at "pu0"
    walk_at "own"
    walk_at "pu"
    intro p
    walk_at "pu"
    refine sx_for (it_list (ev_ofF (ef_srt aD (fun a => a.1) ?_)))
    walk_at "pu"
    refine ⟨rs, rfl, by omega, fun x _ => ⟨_, rfl⟩, fun ys py sy => ⟨_, rfl, eachL (fun pre e => ∃ v2 v3 v4 v5, e = [.d (asD rs), .own p (.l ((pre.foldl WA.gstep []).map aD)), v2, v3, v4, v5]) ⟨_, _, _, _, rfl⟩ ?_ ?_⟩⟩
    · rintro pre ⟨y1, y2⟩ post e hy ⟨v2, v3, v4, v5, rfl⟩
      have hle : (pre.foldl WA.gstep []).length ≤ 1000000 := by
        have := gfold_len pre []
        have := py.length_eq
        rw [hy] at this
        simp at *
        omega
      rw [List.foldl_append, List.foldl_cons, List.foldl_nil]
      generalize pre.foldl WA.gstep [] = made at hle ⊢
      clear hy
      rcases List.eq_nil_or_concat made with rfl | ⟨ini, ⟨b, e⟩, rfl⟩
      · simp only [List.map_nil]
        walk_at "pu"
        refine ⟨by simp, ?_⟩
        walk_at "pu"
        exact ⟨_, _, _, _, rfl⟩
      · rw [List.concat_eq_append] at hle ⊢
        rw [gstep_last]
        rw [List.length_append, List.length_singleton] at hle
        simp only [List.map_append, List.map_cons, List.map_nil]
        cases e with
        | none =>
          walk_at "pu"
          simp only [List.map_append, List.map_cons, List.map_nil]
          exact ⟨_, _, _, _, rfl⟩
        | some e =>
          dsimp only
          walk_at "pu"
          refine iteP (fun c => ?_) (fun c => ?_)
          · simp only [if_pos (show y1 > e + 1 from c)]
            walk_at "pu"
            refine ⟨by simp; omega, ?_⟩
            walk_at "pu"
            simp only [List.map_append, List.map_cons, List.map_nil]
            exact ⟨_, _, _, _, rfl⟩
          · simp only [if_neg (show ¬ y1 > e + 1 from c)]
            walk_at "pu"
            cases y2 with
            | none =>
              walk_at "pu"
              simp only [List.map_append, List.map_cons, List.map_nil]
              exact ⟨_, _, _, _, rfl⟩
            | some l =>
              dsimp only
              walk_at "pu"
              refine iteP (fun d => ?_) (fun d => ?_)
              · simp only [if_pos (show l > e from d)]
                walk_at "pu"
                simp only [List.map_append, List.map_cons, List.map_nil]
                exact ⟨_, _, _, _, rfl⟩
              · simp only [if_neg (show ¬ l > e from d)]
                walk_at "pu"
                simp only [List.map_append, List.map_cons, List.map_nil]
                exact ⟨_, _, _, _, rfl⟩
    · rintro e ⟨v2, v3, v4, v5, rfl⟩
      walk_at "pu"
      rw [← WA.gfold_norm hk py sy] at h
      exact h
end
end K09
namespace K09
open PySem PySem.Spec PyProof.Rows L2 Evl Lay Pu
section
variable {P : Program} {w : World} {K : PySem.W.Frag} {mg : Str → Option Value} {base : Heap} {CB CT cL_arcs_gathered PL_arcs_gathered : Addr} {tkL : Tok}
variable {Tb : List (Addr × Str)}
abbrev SG (Tb : List (Addr × Str)) (K : PySem.W.Frag) : Sp := spN K Tb fGath
def fUnion : PN := fun ds R _ => ∃ r s : List Arc, ds = [asD r, asD s] ∧ (∀ a ∈ r ++ s, WA.ok a) ∧ (r ++ s).length ≤ 1000000 ∧ R ((WA.norm (r ++ s)).map aD)
abbrev s_arcs_union : Stmt := top 10
theorem sc_arcs_union : FnScope ["r", "s"] ["r", "s"] (defScope s_arcs_union) := ⟨rfl, rfl, rfl, by decide +kernel, rfl, by decide +kernel, by decide +kernel⟩
theorem ok_union (T : Txt K mg CB tkL  ) (F : At K mg "arcs_union" s_arcs_union ["r", "s"]) (d_arcs_gathered : Def P w K mg base "arcs_gathered" 5 ["rows"] (spN K Tb fGath)) : Def P w K mg base "arcs_union" 6 ["r", "s"] (spN K Tb fUnion) := by
  refine defN F sc_arcs_union (fun ds R er h => ?_) (fun f cdv Ar outer s H vs Q E hr => ⟨_, (pss_one (ps_ret (pe_d d_arcs_gathered (hr.mono (by decide)) (passes_call (takes_of rfl rfl rfl rfl) (fun _ _ _ _ h => h)) (pa_cons (pe_op op_cat (pe_callTy (r := Lay.rList K) c_list rfl T.n_list (by decide +kernel) (pa_cons (pv 0) pa_nil)) (pe_callTy (r := Lay.rList K) c_list rfl T.n_list (by decide +kernel) (pa_cons (pv 1) pa_nil))) pa_nil)))), fun B W0 G0 ds R er h => ?_⟩)
  · obtain ⟨rs, s, rfl, _⟩ := h; rfl
  · obtain ⟨rs, s, rfl, hk, hl, h⟩ := h
    rw [List.length_append] at hl
    walk_at "pu0"
    refine ⟨rs ++ s, by rw [← List.map_append], hk, by rw [List.length_append]; exact hl, ?_⟩
    walk_at "pu"
    exact h
def fMeet : PN := fun ds R _ => ∃ r s : List Arc, ds = [asD r, asD s] ∧ r.length ≤ 100000 ∧ s.length ≤ 100000 ∧ R ((WA.meet r s).map aD)
abbrev s_arcs_meet : Stmt := top 12
theorem sc_arcs_meet : FnScope ["r", "s", "made", "at", "to", "first", "last"] ["r", "s"] (defScope s_arcs_meet) := ⟨rfl, rfl, rfl, by decide +kernel, rfl, by decide +kernel, by decide +kernel⟩
theorem ok_meet (T : Txt K mg CB tkL  ) (F : At K mg "arcs_meet" s_arcs_meet ["r", "s"]) (d_lesser_end : Def P w K mg base "lesser_end" 1 ["one", "other"] (spP K Tb fLesser)) : Def P w K mg base "arcs_meet" 2 ["r", "s"] (spN K Tb fMeet) := by
  refine defN F sc_arcs_meet (fun ds R er h => ?_) (fun f cdv Ar outer s H vs Q E hr => ⟨_, (pss_cons (ps_set (i := 2) sc_arcs_meet.nd rfl (Or.inl rfl) (pe_lst pa_nil))
      (pss_cons (ps_set (i := 3) sc_arcs_meet.nd rfl (Or.inl rfl) pe_int)
      (pss_cons (ps_set (i := 4) sc_arcs_meet.nd rfl (Or.inl rfl) pe_int)
      (pss_cons (ps_while (passes_of rfl) (PW.pt (pw_and (pt_cmpR op_lt (pv 3) (pe_callB (r := Lay.rLen K) c_len rfl T.n_len PySem.boot_len (pa_cons (pv 0) pa_nil)) (nomark _)) (pw_and1 (pt_cmpR op_lt (pv 4) (pe_callB (r := Lay.rLen K) c_len rfl T.n_len PySem.boot_len (pa_cons (pv 1) pa_nil)) (nomark _))))) (pss_cons (ps_set (i := 5) sc_arcs_meet.nd rfl (Or.inl rfl) (pe_callB (c_max2 rfl) rfl T.n_max (by decide +kernel) (pa_cons (pe_ix (r := rIxT K) ix_tup (pe_ix (r := rIxL K) ix_list (pv 0) (pv 3) (fun _ _ => rfl)) pe_int (fun _ _ => rfl)) (pa_cons (pe_ix (r := rIxT K) ix_tup (pe_ix (r := rIxL K) ix_list (pv 1) (pv 4) (fun _ _ => rfl)) pe_int (fun _ _ => rfl)) pa_nil))))
      (pss_cons (ps_set (i := 6) sc_arcs_meet.nd rfl (Or.inl rfl) (pe_d d_lesser_end (hr.mono (by decide)) (passes_call (takes_of rfl rfl rfl rfl) (fun _ _ _ _ h => h)) (pa_cons (pe_ix (r := rIxT K) ix_tup (pe_ix (r := rIxL K) ix_list (pv 0) (pv 3) (fun _ _ => rfl)) pe_int (fun _ _ => rfl)) (pa_cons (pe_ix (r := rIxT K) ix_tup (pe_ix (r := rIxL K) ix_list (pv 1) (pv 4) (fun _ _ => rfl)) pe_int (fun _ _ => rfl)) pa_nil))))
      (pss_cons (ps_if (PW.pt (pw_or (pt_cmpR op_isN1 (pv 6) pe_non (nomark _)) (pw_or1 (pt_cmpR op_le (pv 5) (pv 6) (nomark _))))) (pss_one (ps_expr (pe_bm PySem.F.plainAttrs_list PySem.F.slot_list_append PySem.F.type_list_append mt_append (pv 2) (pa_cons (pe_tup (pa_cons (pv 5) (pa_cons (pv 6) pa_nil))) pa_nil)))) pss_nil)
      (pss_cons (ps_if (pt_cmpR op_isN1 (pv 6) pe_non (nomark _)) (pss_one ps_break) pss_nil)
      (pss_one (ps_if (pt_cmpR (r := rEqD K) (op_eqD hr.units) (pe_ix (r := rIxT K) ix_tup (pe_ix (r := rIxL K) ix_list (pv 0) (pv 3) (fun _ _ => rfl)) pe_int (fun _ _ => rfl)) (pv 6) (nomark _)) (pss_one (ps_aug (i := 3) sc_arcs_meet.nd rfl (Or.inl rfl) pe_int ip_add)) (pss_one (ps_aug (i := 4) sc_arcs_meet.nd rfl (Or.inl rfl) pe_int ip_add)))))))))
      (pss_one (ps_ret (pv 2))))))), fun B W0 G0 ds R er h => ?_⟩)
  · obtain ⟨rs, s, rfl, _⟩ := h; rfl
  · obtain ⟨r, s, rfl, hr, hs, h⟩ := h
    walk_at "pu0"
    walk_at "own"
    walk_at "pu"
    intro p
    walk_at "pu"
    refine sx_while' (fun m e => ∃ (i j : Nat) (made : List Arc) (v5 v6 : Sl), i ≤ r.length ∧ j ≤ s.length ∧ m = (r.length - i) + (s.length - j) ∧ made.length ≤ i + j ∧ made ++ WA.meet (r.drop i) (s.drop j) = WA.meet r s ∧ e = [.d (asD r), .d (asD s), .own p (.l (made.map aD)), .d (.int i), .d (.int j), v5, v6]) (r.length + s.length) ⟨0, 0, [], _, _, Nat.zero_le _, Nat.zero_le _, rfl, Nat.zero_le _, rfl, rfl⟩ ?_
    rintro m e ⟨i, j, made, v5, v6, hi, hj, rfl, hm, he, rfl⟩
    walk_at "pu"
    refine iteP (fun ci => ?_) (fun ci => ?_)
    rotate_left
    · have : r.drop i = [] := List.drop_eq_nil_of_le (by omega)
      rw [this, WA.meet, List.append_nil] at he
      walk_at "pu"
      rw [he]
      exact h
    walk_at "pu"
    refine iteP (fun cj => ?_) (fun cj => ?_)
    rotate_left
    · have : s.drop j = [] := List.drop_eq_nil_of_le (by omega)
      rw [this, WA.meet_nil, List.append_nil] at he
      walk_at "pu"
      rw [he]
      exact h
    have hci : i < r.length := by omega
    have hcj : j < s.length := by omega
    have ger : gA r i = r[i] := by simp [gA, List.getD, List.getElem?_eq_getElem hci]
    have ges : gA s j = s[j] := by simp [gA, List.getD, List.getElem?_eq_getElem hcj]
    rw [List.drop_eq_getElem_cons hci, List.drop_eq_getElem_cons hcj, ← ger, ← ges, WA.meet] at he
    walk_at "pu"
    generalize ha : gA r i = a at he ⊢
    generalize hb : gA s j = b at he ⊢
    refine ⟨_, _, rfl, ?_⟩
    have hmx : (if b.1 > a.1 then b.1 else a.1) = WA.mx a.1 b.1 := rfl
    rw [hmx]
    cases hl : WA.lesser a.2 b.2 with
    | none =>
      walk_at "pu"
      refine ⟨by rw [List.length_map]; omega, ?_⟩
      walk_at "pu"
      have e1 : WA.meet1 a b = [(WA.mx a.1 b.1, none)] := by unfold WA.meet1; rw [hl]
      rw [hl, if_pos rfl, List.append_nil, e1] at he
      rw [← he, List.map_append] at h
      exact h
    | some l =>
      refine setN ?_
      refine sx_seq ?_
      refine sx_mid (fun e => e = [.d (asD r), .d (asD s), .own p (.l ((made ++ WA.meet1 a b).map aD)), .d (.int i), .d (.int j), .d (.int (WA.mx a.1 b.1)), .d (oI (some l))]) ?_ ?_
      · unfold WA.meet1
        rw [hl]
        dsimp only
        walk_at "pu"
        refine iteP (fun c => ?_) (fun c => ?_)
        · rw [if_pos c]
          walk_at "pu"
          refine ⟨by rw [List.length_map]; omega, ?_⟩
          walk_at "pu"
          simp
        · rw [if_neg c]
          walk_at "pu"
          simp
      · rintro e rfl
        have hm1 : (WA.meet1 a b).length ≤ 1 := by
          unfold WA.meet1
          rw [hl]
          dsimp only
          split <;> simp
        rw [hl, if_neg (by simp)] at he
        walk_at "pu"
        refine cp_eq rfl rfl (fun q => ?_) (fun q => ?_) <;> rw [ha] at q
        · rw [if_pos (oI_inj q)] at he
          walk_at "pu"
          refine ⟨_, ?_, i + 1, j, made ++ WA.meet1 a b, _, _, by omega, by omega, rfl, by simp; omega, ?_, rfl⟩
          · omega
          · rw [List.append_assoc, List.drop_eq_getElem_cons hcj, ← ges, hb]
            exact he
        · rw [if_neg (fun z => q (by rw [z]))] at he
          walk_at "pu"
          refine ⟨_, ?_, i, j + 1, made ++ WA.meet1 a b, _, _, by omega, by omega, rfl, by simp; omega, ?_, rfl⟩
          · omega
          · rw [List.append_assoc, List.drop_eq_getElem_cons hci, ← ger, ha]
            exact he
def fOther : PN := fun ds R _ => ∃ r : List Arc, ds = [asD r] ∧ r.length ≤ 100000 ∧ R ((WA.other r).map aD)
abbrev s_arcs_other : Stmt := top 13
theorem sc_arcs_other : FnScope ["r", "made", "line", "first", "last"] ["r"] (defScope s_arcs_other) := ⟨rfl, rfl, rfl, by decide +kernel, rfl, by decide +kernel, by decide +kernel⟩
theorem ok_other (T : Txt K mg CB tkL  ) (F : At K mg "arcs_other" s_arcs_other ["r"]) : Def P w K mg base "arcs_other" 1 ["r"] (spN K Tb fOther) := by
  refine defN F sc_arcs_other (fun ds R er h => ?_) (fun f cdv Ar outer s H vs Q E hr => ⟨_, (pss_cons (ps_set (i := 1) sc_arcs_other.nd rfl (Or.inl rfl) (pe_lst pa_nil))
      (pss_cons (ps_set (i := 2) sc_arcs_other.nd rfl (Or.inl rfl) pe_int)
      (pss_cons (ps_for (passes_of rfl) rfl (pi_list (pv 0)) (pg_tup (n := 2) rfl (pgs_cons (pg_name (i := 3) sc_arcs_other.nd rfl (Or.inl rfl)) (pgs_cons (pg_name (i := 4) sc_arcs_other.nd rfl (Or.inl rfl)) pgs_nil))) (pss_cons (ps_if (pt_cmpR op_gt (pv 3) (pv 2) (nomark _)) (pss_one (ps_expr (pe_bm PySem.F.plainAttrs_list PySem.F.slot_list_append PySem.F.type_list_append mt_append (pv 1) (pa_cons (pe_tup (pa_cons (pv 2) (pa_cons (pe_op op_sub (pv 3) pe_int) pa_nil))) pa_nil)))) pss_nil)
      (pss_cons (ps_if (pt_cmpR op_isN1 (pv 4) pe_non (nomark _)) (pss_one (ps_ret (pv 1))) pss_nil)
      (pss_one (ps_set (i := 2) sc_arcs_other.nd rfl (Or.inl rfl) (pe_op op_add (pv 4) pe_int))))))
      (pss_cons (ps_expr (pe_bm PySem.F.plainAttrs_list PySem.F.slot_list_append PySem.F.type_list_append mt_append (pv 1) (pa_cons (pe_tup (pa_cons (pv 2) (pa_cons pe_non pa_nil))) pa_nil)))
      (pss_one (ps_ret (pv 1))))))), fun B W0 G0 ds R er h => ?_⟩)
  · obtain ⟨rs, rfl, _⟩ := h; rfl
  · obtain ⟨r, rfl, hl, h⟩ := h
    walk_at "pu0"
    walk_at "own"
    walk_at "pu"
    intro p
    walk_at "pu"
    refine sx_for (it_list ?_)
    walk_at "pu"
    refine (eachL (fun pre e => ∃ (made : List Arc) (line : Int) (v3 v4 : Sl), made.length ≤ pre.length ∧ (∀ post, r = pre ++ post → made ++ WA.otherF line post = WA.other r) ∧ e = [.d (asD r), .own p (.l (made.map aD)), .d (.int line), v3, v4]) ⟨[], 0, _, _, Nat.le_refl _, fun post hp => by rw [hp]; rfl, rfl⟩ ?_ ?_)
    · rintro pre ⟨y1, y2⟩ post e hy ⟨made, line, v3, v4, hm, he, rfl⟩
      have hpl : pre.length < r.length := by rw [hy]; simp
      have he := he _ hy
      rw [WA.otherF] at he
      dsimp only at he
      walk_at "ps"
      refine sx_mid (fun e => e = [.d (asD r), .own p (.l ((made ++ if y1 > line then [(line, some (y1 - 1))] else []).map aD)), .d (.int line), .d (.int y1), .d (oI y2)]) ?_ ?_
      · walk_at "pu"
        refine iteP (fun c => ?_) (fun c => ?_)
        · rw [if_pos (show y1 > line from c)]
          walk_at "pu"
          refine ⟨by rw [List.length_map]; omega, ?_⟩
          walk_at "pu"
          simp
        · rw [if_neg (show ¬ y1 > line from c)]
          walk_at "pu"
          simp
      · rintro e rfl
        have hle : (made ++ if y1 > line then [(line, some (y1 - 1))] else []).length ≤ made.length + 1 := by
          rw [List.length_append]
          split <;> simp
        rw [← List.append_assoc] at he
        generalize (made ++ if y1 > line then [(line, some (y1 - 1))] else []) = made' at he hle ⊢
        cases y2 with
        | none =>
          walk_at "pu"
          rw [List.append_nil] at he
          rw [he]
          exact h
        | some l =>
          walk_at "pu"
          refine ⟨made', _, _, _, by simp; omega, fun post' hp => ?_, rfl⟩
          rw [hy] at hp
          simp at hp
          rw [← hp]
          exact he
    · rintro e ⟨made, line, v3, v4, hm, he, rfl⟩
      have he := he [] (by simp)
      rw [WA.otherF] at he
      walk_at "pu"
      refine ⟨by rw [List.length_map]; omega, ?_⟩
      walk_at "pu"
      rw [← he, List.map_append] at h
      exact h
def fMinus : PN := fun ds R _ => ∃ r s : List Arc, ds = [asD r, asD s] ∧ r.length ≤ 10000 ∧ s.length ≤ 10000 ∧ R ((WA.meet r (WA.other s)).map aD)
theorem otherF_len : ∀ (r : List Arc) (line : Int), (WA.otherF line r).length ≤ r.length + 1
  | [], line => by rw [WA.otherF]; simp
  | a :: r, line => by
    rw [WA.otherF, List.length_append, List.length_cons]
    have h1 : (if a.1 > line then [(line, some (a.1 - 1))] else []).length ≤ 1 := by split <;> simp
    cases a.2 with
    | none => simp at *; omega
    | some e => have := otherF_len r (e + 1); dsimp only; omega
abbrev s_arcs_minus : Stmt := top 14
theorem sc_arcs_minus : FnScope ["r", "s"] ["r", "s"] (defScope s_arcs_minus) := ⟨rfl, rfl, rfl, by decide +kernel, rfl, by decide +kernel, by decide +kernel⟩
theorem ok_minus (T : Txt K mg CB tkL  ) (F : At K mg "arcs_minus" s_arcs_minus ["r", "s"]) (d_arcs_meet : Def P w K mg base "arcs_meet" 2 ["r", "s"] (spN K Tb fMeet)) (d_arcs_other : Def P w K mg base "arcs_other" 1 ["r"] (spN K Tb fOther)) : Def P w K mg base "arcs_minus" 3 ["r", "s"] (spN K Tb fMinus) := by
  refine defN F sc_arcs_minus (fun ds R er h => ?_) (fun f cdv Ar outer s H vs Q E hr => ⟨_, (pss_one (ps_ret (pe_d d_arcs_meet (hr.mono (by decide)) (passes_call (takes_of rfl rfl rfl rfl) (fun _ _ _ _ h => h)) (pa_cons (pv 0) (pa_cons (pe_d d_arcs_other (hr.mono (by decide)) (passes_call (takes_of rfl rfl rfl rfl) (fun _ _ _ _ h => h)) (pa_cons (pv 1) pa_nil)) pa_nil))))), fun B W0 G0 ds R er h => ?_⟩)
  · obtain ⟨rs, s, rfl, _⟩ := h; rfl
  · obtain ⟨r, s, rfl, hr, hs, h⟩ := h
    walk_at "pu0"
    refine ⟨s, rfl, by omega, ?_⟩
    walk_at "pu"
    refine ⟨r, WA.other s, rfl, by omega, ?_, ?_⟩
    · have := otherF_len s 0
      unfold WA.other
      omega
    · walk_at "pu"
      exact h
end
end K09
namespace K09
open PySem PySem.Spec PyProof.Rows L2 Evl Lay Pu
section
variable {P : Program} {w : World} {K : PySem.W.Frag} {mg : Str → Option Value} {base : Heap} {CB CT cL_arcs_gathered PL_arcs_gathered : Addr} {tkL : Tok}
variable {Tb : List (Addr × Str)}
def fWiden : PN := fun ds R _ => ∃ (r : List Arc) (low high : Int), ds = [asD r, .int low, .int high] ∧ (∀ a ∈ r, WA.ok a) ∧ low ≤ high ∧ r.length ≤ 10000 ∧ R ((WA.widen low high r).map aD)
theorem wid1_len (low high : Int) (a : Arc) : (WA.wid1 low high a).length ≤ 1 := by
  unfold WA.wid1
  split
  · simp
  · split <;> simp
theorem flat_len {f : Arc → List Arc} (h : ∀ a, (f a).length ≤ 1) : ∀ r : List Arc, (r.flatMap f).length ≤ r.length
  | [] => Nat.le_refl _
  | a :: r => by have := flat_len h r; have := h a; rw [List.flatMap_cons, List.length_append, List.length_cons]; omega
abbrev s_arcs_widen : Stmt := top 15
theorem sc_arcs_widen : FnScope ["r", "low", "high", "made", "first", "last", "end"] ["r", "low", "high"] (defScope s_arcs_widen) := ⟨rfl, rfl, rfl, by decide +kernel, rfl, by decide +kernel, by decide +kernel⟩
theorem ok_widen (T : Txt K mg CB tkL  ) (F : At K mg "arcs_widen" s_arcs_widen ["r", "low", "high"]) (d_arcs_gathered : Def P w K mg base "arcs_gathered" 5 ["rows"] (spN K Tb fGath)) : Def P w K mg base "arcs_widen" 6 ["r", "low", "high"] (spN K Tb fWiden) := by
  refine defN F sc_arcs_widen (fun ds R er h => ?_) (fun f cdv Ar outer s H vs Q E hr => ⟨_, (pss_cons (ps_set (i := 3) sc_arcs_widen.nd rfl (Or.inl rfl) (pe_lst pa_nil))
      (pss_cons (ps_for (passes_of rfl) rfl (pi_list (pv 0)) (pg_tup (n := 2) rfl (pgs_cons (pg_name (i := 4) sc_arcs_widen.nd rfl (Or.inl rfl)) (pgs_cons (pg_name (i := 5) sc_arcs_widen.nd rfl (Or.inl rfl)) pgs_nil))) (pss_cons (ps_set (i := 6) sc_arcs_widen.nd rfl (Or.inl rfl) (pe_ifExp (pt_cmpR op_isN1 (pv 5) pe_non (nomark _)) pe_non (pe_op op_add (pv 5) (pv 2))))
      (pss_one (ps_if (PW.pt (pw_or (pt_cmpR op_isN1 (pv 6) pe_non (nomark _)) (pw_or1 (pt_cmpR op_ge (pv 6) pe_int (nomark _))))) (pss_one (ps_expr (pe_bm PySem.F.plainAttrs_list PySem.F.slot_list_append PySem.F.type_list_append mt_append (pv 3) (pa_cons (pe_tup (pa_cons (pe_callB (c_max2 rfl) rfl T.n_max (by decide +kernel) (pa_cons pe_int (pa_cons (pe_op op_add (pv 4) (pv 1)) pa_nil))) (pa_cons (pv 6) pa_nil))) pa_nil)))) pss_nil))))
      (pss_one (ps_ret (pe_d d_arcs_gathered (hr.mono (by decide)) (passes_call (takes_of rfl rfl rfl rfl) (fun _ _ _ _ h => h)) (pa_cons (pv 3) pa_nil)))))), fun B W0 G0 ds R er h => ?_⟩)
  · obtain ⟨_, _, _, rfl, _⟩ := h; rfl
  · obtain ⟨r, low, high, rfl, hk, hlh, hl, h⟩ := h
    walk_at "pu0"
    walk_at "own"
    walk_at "pu"
    intro p
    walk_at "pu"
    refine sx_for (it_list ?_)
    walk_at "pu"
    refine eachL (fun pre e => ∃ v4 v5 v6, e = [.d (asD r), .d (.int low), .d (.int high), .own p (.l ((pre.flatMap (WA.wid1 low high)).map aD)), v4, v5, v6]) ⟨_, _, _, rfl⟩ ?_ ?_
    · rintro pre ⟨y1, y2⟩ post e hy ⟨v4, v5, v6, rfl⟩
      have hle := flat_len (wid1_len low high) pre
      have hpl : pre.length < r.length := by rw [hy]; simp
      have hst : (pre ++ [(y1, y2)]).flatMap (WA.wid1 low high) = pre.flatMap (WA.wid1 low high) ++ WA.wid1 low high (y1, y2) := by simp
      rw [hst]
      generalize pre.flatMap (WA.wid1 low high) = made at hle ⊢
      have hmx : WA.mx 0 (y1 + low) = if y1 + low > 0 then y1 + low else 0 := rfl
      unfold WA.wid1
      cases y2 with
      | none =>
        dsimp only
        walk_at "pu"
        refine ⟨by rw [List.length_map]; omega, ?_⟩
        walk_at "pu"
        simp only [List.map_append, List.map_cons, List.map_nil]
        exact ⟨_, _, _, rfl⟩
      | some l =>
        dsimp only
        walk_at "pu"
        refine iteP (fun c => ?_) (fun c => ?_)
        · rw [if_pos (show l + high ≥ 0 from c)]
          walk_at "pu"
          refine ⟨by rw [List.length_map]; omega, ?_⟩
          walk_at "pu"
          simp only [List.map_append, List.map_cons, List.map_nil]
          exact ⟨_, _, _, rfl⟩
        · rw [if_neg (show ¬ l + high ≥ 0 from c)]
          walk_at "pu"
          simp only [List.append_nil]
          exact ⟨_, _, _, rfl⟩
    · rintro e ⟨v4, v5, v6, rfl⟩
      have hle := flat_len (wid1_len low high) r
      refine sx_frz' 3 ?_
      walk_at "pu"
      refine ⟨_, rfl, WA.wid_rows hlh hk, by omega, ?_⟩
      walk_at "pu"
      exact h
def fShift : PN := fun ds R _ => ∃ (r : List Arc) (k : Int), ds = [asD r, .int k] ∧ (∀ a ∈ r, WA.ok a) ∧ r.length ≤ 10000 ∧ R ((WA.widen k k r).map aD)
abbrev s_arcs_shift : Stmt := top 16
theorem sc_arcs_shift : FnScope ["r", "lines"] ["r", "lines"] (defScope s_arcs_shift) := ⟨rfl, rfl, rfl, by decide +kernel, rfl, by decide +kernel, by decide +kernel⟩
theorem ok_shift (T : Txt K mg CB tkL  ) (F : At K mg "arcs_shift" s_arcs_shift ["r", "lines"]) (d_arcs_widen : Def P w K mg base "arcs_widen" 6 ["r", "low", "high"] (spN K Tb fWiden)) : Def P w K mg base "arcs_shift" 7 ["r", "lines"] (spN K Tb fShift) := by
  refine defN F sc_arcs_shift (fun ds R er h => ?_) (fun f cdv Ar outer s H vs Q E hr => ⟨_, (pss_one (ps_ret (pe_d d_arcs_widen (hr.mono (by decide)) (passes_call (takes_of rfl rfl rfl rfl) (fun _ _ _ _ h => h)) (pa_cons (pv 0) (pa_cons (pv 1) (pa_cons (pv 1) pa_nil)))))), fun B W0 G0 ds R er h => ?_⟩)
  · obtain ⟨_, _, rfl, _⟩ := h; rfl
  · obtain ⟨r, k, rfl, hk, hl, h⟩ := h
    walk_at "pu0"
    refine ⟨r, k, k, rfl, hk, Int.le_refl _, hl, ?_⟩
    walk_at "pu"
    exact h
@[reducible] def aL (a : Arc) : D := .lst [.int a.1, oI a.2]
theorem en_aL : En aL 1 := ⟨fun x => by cases x with | mk a b => cases b <;> rfl, fun x => by cases x with | mk a b => cases b <;> simp [aL, oI, dpt, dpts], fun x => by cases x with | mk a b => cases b <;> rfl⟩
/-- rows as tuples, or as lists -/
def rowsD (b : Bool) (r : List Arc) : D := .lst (r.map fun a => if b = true then aL a else aD a)
def fJoined : PN := fun ds R _ => ∃ (b : Bool) (r : List Arc) (pad : Int), ds = [rowsD b r, .int pad] ∧ WA.NF r ∧ r.length ≤ 10000 ∧ R ((WA.joined pad r).map aD)
abbrev s_arcs_joined : Stmt := top 17
theorem sc_arcs_joined : FnScope ["r", "pad", "made", "first", "last"] ["r", "pad"] (defScope s_arcs_joined) := ⟨rfl, rfl, rfl, by decide +kernel, rfl, by decide +kernel, by decide +kernel⟩
theorem ok_joined (T : Txt K mg CB tkL  ) (F : At K mg "arcs_joined" s_arcs_joined ["r", "pad"]) : Def P w K mg base "arcs_joined" 1 ["r", "pad"] (spN K Tb fJoined) := by
  refine defN F sc_arcs_joined (fun ds R er h => ?_) (fun f cdv Ar outer s H vs Q E hr => ⟨_, (pss_cons (ps_set (i := 2) sc_arcs_joined.nd rfl (Or.inl rfl) (pe_lst pa_nil))
      (pss_cons (ps_for (passes_of rfl) rfl (pi_list (pv 0)) (Pu.pg_sq (n := 2) rfl (pgs_cons (pg_name (i := 3) sc_arcs_joined.nd rfl (Or.inl rfl)) (pgs_cons (pg_name (i := 4) sc_arcs_joined.nd rfl (Or.inl rfl)) pgs_nil))) (pss_one (ps_if (PW.pt (pw_and (pt_cmpR (r := rNeD K) (op_neD hr.units) (pv 2) (pe_lst pa_nil) (nomark _)) (pw_and1 (pt_cmpR op_le (pe_op op_sub (pe_op op_sub (pv 3) (pe_ix (r := rIxT K) ix_tup (pe_ix (r := rIxL K) ix_list (pv 2) (pe_un un_neg pe_int) (fun _ _ => rfl)) pe_int (fun _ _ => rfl))) pe_int) (pv 1) (nomark _))))) (pss_one (ps_asg (pe_tup (pa_cons (pe_ix (r := rIxT K) ix_tup (pe_ix (r := rIxL K) ix_list (pv 2) (pe_un un_neg pe_int) (fun _ _ => rfl)) pe_int (fun _ _ => rfl)) (pa_cons (pv 4) pa_nil))) (pg_sub (pv 2) (pe_un un_neg pe_int) set_list))) (pss_one (ps_expr (pe_bm PySem.F.plainAttrs_list PySem.F.slot_list_append PySem.F.type_list_append mt_append (pv 2) (pa_cons (pe_tup (pa_cons (pv 3) (pa_cons (pv 4) pa_nil))) pa_nil)))))))
      (pss_one (ps_ret (pv 2))))), fun B W0 G0 ds R er h => ?_⟩)
  · obtain ⟨_, _, _, rfl, _⟩ := h; rfl
  · obtain ⟨bb, r, pad, rfl, hn, hl, h⟩ := h
    walk_at "pu0"
    walk_at "own"
    walk_at "pu"
    intro p
    walk_at "pu"
    refine sx_for (it_list ?_)
    walk_at "pu"
    refine ⟨_, rfl, eachL (fun pre e => ∃ made v3 v4, (pre = [] ∧ made = [] ∨ ∃ ini c, made = ini ++ [c] ∧ pre ≠ [] ∧ (∀ post, r = pre ++ post → ini ++ WA.joinF pad c post = WA.joined pad r ∧ ∀ x ∈ post, ∃ l, c.2 = some l)) ∧ made.length ≤ pre.length ∧ e = [.d (rowsD bb r), .d (.int pad), .own p (.l (made.map aD)), v3, v4]) ⟨[], _, _, .inl ⟨rfl, rfl⟩, Nat.le_refl _, rfl⟩ ?_ ?_⟩
    · rintro pre ⟨y1, y2⟩ post e hy ⟨made, v3, v4, hm, hle, rfl⟩
      have hpl : pre.length < r.length := by rw [hy]; simp
      refine gx_gp ?_
      have tgt : ∀ N : List Sl → Prop, N [.d (rowsD bb r), .d (.int pad), .own p (.l (made.map aD)), .d (.int y1), .d (oI y2)] → GP ⟨⟨K, Tb, B, W0, G0, fun _ => E⟩, fun _ => er⟩ [.d (rowsD bb r), .d (.int pad), .own p (.l (made.map aD)), v3, v4] (gSq K 2 (gCons (gName 3) (gCons (gName 4) gNil))) (if bb = true then aL (y1, y2) else aD (y1, y2)) N := fun N h => by
        cases bb with
        | true =>
          rw [if_pos rfl]
          walk_at "pu"
          exact h
        | false =>
          rw [if_neg (by decide)]
          walk_at "pu"
          exact h
      refine tgt _ ?_
      rcases hm with ⟨rfl, rfl⟩ | ⟨ini, ⟨b, e⟩, rfl, hne, hj⟩
      · simp only [List.map_nil]
        walk_at "pu"
        refine ⟨by simp, ?_⟩
        walk_at "pu"
        refine ⟨[(y1, y2)], _, _, .inr ⟨[], (y1, y2), rfl, by simp, fun post' hp => ?_⟩, by simp, rfl⟩
        rw [hy] at hp
        simp at hp
        subst hp
        rw [hy]
        refine ⟨rfl, fun x hx => ?_⟩
        rw [hy] at hn
        obtain ⟨l, h1, _⟩ := (List.pairwise_cons.mp hn.g).1 x hx
        exact ⟨l, h1⟩
      · obtain ⟨hj1, hj2⟩ := hj _ hy
        obtain ⟨l, hl1⟩ := hj2 (y1, y2) List.mem_cons_self
        have hl1 : e = some l := hl1
        subst hl1
        rw [WA.joinF] at hj1
        dsimp only at hj1
        have hend : ∀ x ∈ post, ∃ l, y2 = some l := fun x hx => by
          rw [hy] at hn
          obtain ⟨l, h1, _⟩ := (List.pairwise_cons.mp (List.pairwise_append.mp hn.g).2.1).1 x hx
          exact ⟨l, h1⟩
        rw [List.length_append, List.length_singleton] at hle
        simp only [List.map_append, List.map_cons, List.map_nil]
        walk_at "pu"
        refine iteP (fun c => ?_) (fun c => ?_)
        · rw [if_pos c] at hj1
          walk_at "pu"
          refine ⟨ini ++ [(b, y2)], _, _, .inr ⟨ini, (b, y2), rfl, by simp, fun post' hp => ?_⟩, by simp; omega, by simp only [List.map_append, List.map_cons, List.map_nil]; rfl⟩
          rw [hy] at hp
          simp at hp
          subst hp
          exact ⟨hj1, hend⟩
        · rw [if_neg c] at hj1
          walk_at "pu"
          refine ⟨by simp; omega, ?_⟩
          walk_at "pu"
          refine ⟨ini ++ [(b, some l)] ++ [(y1, y2)], _, _, .inr ⟨ini ++ [(b, some l)], (y1, y2), rfl, by simp, fun post' hp => ?_⟩, by simp; omega, by simp only [List.map_append, List.map_cons, List.map_nil]; rfl⟩
          rw [hy] at hp
          simp at hp
          subst hp
          refine ⟨?_, hend⟩
          rw [List.append_assoc]
          exact hj1
    · rintro e ⟨made, v3, v4, hm, hle, rfl⟩
      walk_at "pu"
      have : made = WA.joined pad r := by
        rcases hm with ⟨h1, rfl⟩ | ⟨ini, c, rfl, hne, hj⟩
        · rw [h1]; rfl
        · have := (hj [] (by simp)).1
          rw [WA.joinF] at this
          exact this
      rw [this]
      exact h
end
end K09
namespace K09
open PySem PySem.Spec PyProof.Rows L2 Evl Lay Pu
section
variable {P : Program} {w : World} {K : PySem.W.Frag} {mg : Str → Option Value} {base : Heap} {CB CT cL_arcs_gathered PL_arcs_gathered : Addr} {tkL : Tok}
variable {Tb : List (Addr × Str)}
def fPulled : PN := fun ds R _ => ∃ (bb : Bool) (r : List Arc) (a b c : Int), ds = [rowsD bb r, .int a, .int b, .int c] ∧ WA.NF r ∧ r.length ≤ 10000 ∧ 0 ≤ c ∧ R ((WA.pulled a b c r).map aD)
theorem pul1_len (a b c : Int) (x : Arc) : (WA.pul1 a b c x).length ≤ 1 := by
  unfold WA.pul1
  split
  · simp
  · split <;> simp
theorem joinF_len (pad : Int) : ∀ (r : List Arc) (c : Arc), (WA.joinF pad c r).length ≤ r.length + 1
  | [], c => by rw [WA.joinF]; simp
  | x :: r, c => by
    rw [WA.joinF]
    split
    · simp
    · split
      · have := joinF_len pad r (c.1, x.2); simp at *; omega
      · have := joinF_len pad r x; simp at *; omega
theorem joined_len (pad : Int) (r : List Arc) : (WA.joined pad r).length ≤ r.length := by
  cases r with
  | nil => exact Nat.le_refl _
  | cons c r => exact joinF_len pad r c
abbrev s_arcs_pulled : Stmt := top 18
theorem sc_arcs_pulled : FnScope ["r", "a", "b", "c", "made", "first", "last", "begin", "end"] ["r", "a", "b", "c"] (defScope s_arcs_pulled) := ⟨rfl, rfl, rfl, by decide +kernel, rfl, by decide +kernel, by decide +kernel⟩
theorem ok_pulled (T : Txt K mg CB tkL  ) (F : At K mg "arcs_pulled" s_arcs_pulled ["r", "a", "b", "c"]) (d_arcs_gathered : Def P w K mg base "arcs_gathered" 5 ["rows"] (spN K Tb fGath)) (d_arcs_joined : Def P w K mg base "arcs_joined" 1 ["r", "pad"] (spN K Tb fJoined)) : Def P w K mg base "arcs_pulled" 6 ["r", "a", "b", "c"] (spN K Tb fPulled) := by
  refine defN F sc_arcs_pulled (fun ds R er h => ?_) (fun f cdv Ar outer s H vs Q E hr => ⟨_, (pss_cons (ps_set (i := 4) sc_arcs_pulled.nd rfl (Or.inl rfl) (pe_lst pa_nil))
      (pss_cons (ps_for (passes_of rfl) rfl (pi_list (pe_d d_arcs_joined (hr.mono (by decide)) (passes_call (takes_of rfl rfl rfl rfl) (fun _ _ _ _ h => h)) (pa_cons (pv 0) (pa_cons (pv 3) pa_nil)))) (pg_tup (n := 2) rfl (pgs_cons (pg_name (i := 5) sc_arcs_pulled.nd rfl (Or.inl rfl)) (pgs_cons (pg_name (i := 6) sc_arcs_pulled.nd rfl (Or.inl rfl)) pgs_nil))) (pss_cons (ps_set (i := 7) sc_arcs_pulled.nd rfl (Or.inl rfl) (pe_op op_sub (pe_op op_sub (pv 5) (pv 1)) (pv 3)))
      (pss_cons (ps_set (i := 8) sc_arcs_pulled.nd rfl (Or.inl rfl) (pe_ifExp (pt_cmpR op_isN1 (pv 6) pe_non (nomark _)) pe_non (pe_op op_sub (pv 6) (pv 2))))
      (pss_one (ps_if (PW.pt (pw_or (pt_cmpR op_isN1 (pv 8) pe_non (nomark _)) (pw_or1 (pt_cmpR op_ge (pv 8) (pe_callB (c_max2 rfl) rfl T.n_max (by decide +kernel) (pa_cons pe_int (pa_cons (pv 7) pa_nil))) (nomark _))))) (pss_one (ps_expr (pe_bm PySem.F.plainAttrs_list PySem.F.slot_list_append PySem.F.type_list_append mt_append (pv 4) (pa_cons (pe_tup (pa_cons (pe_callB (c_max2 rfl) rfl T.n_max (by decide +kernel) (pa_cons pe_int (pa_cons (pv 7) pa_nil))) (pa_cons (pv 8) pa_nil))) pa_nil)))) pss_nil)))))
      (pss_one (ps_ret (pe_d d_arcs_gathered (hr.mono (by decide)) (passes_call (takes_of rfl rfl rfl rfl) (fun _ _ _ _ h => h)) (pa_cons (pv 4) pa_nil)))))), fun B W0 G0 ds R er h => ?_⟩)
  · obtain ⟨_, _, _, _, _, rfl, _⟩ := h; rfl
  · obtain ⟨bb, r, a, b, c, rfl, hn, hl, hc, h⟩ := h
    walk_at "pu0"
    walk_at "own"
    walk_at "pu"
    intro p
    walk_at "pu"
    refine sx_for (it_list ?_)
    walk_at "pu"
    refine ⟨bb, r, c, rfl, hn, hl, ?_⟩
    walk_at "pu"
    have hjl := joined_len c r
    refine eachL (fun pre e => ∃ v5 v6 v7 v8, e = [.d (rowsD bb r), .d (.int a), .d (.int b), .d (.int c), .own p (.l ((pre.flatMap (WA.pul1 a b c)).map aD)), v5, v6, v7, v8]) ⟨_, _, _, _, rfl⟩ ?_ ?_
    · rintro pre ⟨y1, y2⟩ post e hy ⟨v5, v6, v7, v8, rfl⟩
      have hle := flat_len (pul1_len a b c) pre
      have hpl : pre.length < (WA.joined c r).length := by rw [hy]; simp
      have hst : (pre ++ [(y1, y2)]).flatMap (WA.pul1 a b c) = pre.flatMap (WA.pul1 a b c) ++ WA.pul1 a b c (y1, y2) := by simp
      rw [hst]
      generalize pre.flatMap (WA.pul1 a b c) = made at hle ⊢
      unfold WA.pul1 WA.mx
      cases y2 with
      | none =>
        dsimp only
        walk_at "pu"
        refine ⟨by rw [List.length_map]; omega, ?_⟩
        walk_at "pu"
        simp only [List.map_append, List.map_cons, List.map_nil]
        exact ⟨_, _, _, _, rfl⟩
      | some l =>
        dsimp only
        walk_at "pu"
        refine iteP (fun q => ?_) (fun q => ?_)
        · rw [if_pos q]
          walk_at "pu"
          refine ⟨by rw [List.length_map]; omega, ?_⟩
          walk_at "pu"
          simp only [List.map_append, List.map_cons, List.map_nil]
          exact ⟨_, _, _, _, rfl⟩
        · rw [if_neg q]
          walk_at "pu"
          simp only [List.append_nil]
          exact ⟨_, _, _, _, rfl⟩
    · rintro e ⟨v5, v6, v7, v8, rfl⟩
      have hle := flat_len (pul1_len a b c) (WA.joined c r)
      refine sx_frz' 4 ?_
      walk_at "pu"
      refine ⟨_, rfl, fun y hy => ?_, by omega, ?_⟩
      · obtain ⟨x, hx, q⟩ := List.mem_flatMap.mp hy
        exact WA.pul1_ok.1 y q
      · walk_at "pu"
        exact h
def inB (line : Int) (a : Arc) : Bool := decide (a.1 ≤ line) && match a.2 with | none => true | some l => decide (line ≤ l)
def holds (r : List Arc) (line : Int) : Bool := r.any (inB line)
theorem inB_iff {line : Int} {a : Arc} : inB line a = true ↔ WA.inA a line := by
  obtain ⟨f, l⟩ := a
  unfold inB WA.inA
  cases l <;> simp
theorem holds_iff {r : List Arc} {line : Int} : holds r line = true ↔ WA.hit r line := by
  unfold holds WA.hit
  rw [List.any_eq_true]
  exact ⟨fun ⟨a, h, q⟩ => ⟨a, h, inB_iff.mp q⟩, fun ⟨a, h, q⟩ => ⟨a, h, inB_iff.mpr q⟩⟩
def fHold : PF := fun ds R _ => ∃ (r : List Arc) (line : Int), ds = [asD r, .int line] ∧ R (.bl (holds r line))
abbrev s_arcs_hold : Stmt := top 19
theorem sc_arcs_hold : FnScope ["r", "line", "first", "last"] ["r", "line"] (defScope s_arcs_hold) := ⟨rfl, rfl, rfl, by decide +kernel, rfl, by decide +kernel, by decide +kernel⟩
theorem ok_hold (T : Txt K mg CB tkL  ) (F : At K mg "arcs_hold" s_arcs_hold ["r", "line"]) : Def P w K mg base "arcs_hold" 1 ["r", "line"] (spP K Tb fHold) := by
  refine defP F sc_arcs_hold (fun ds R er h => ?_) (fun f cdv Ar outer s H vs Q E hr => ⟨_, (pss_cons (ps_for (passes_of rfl) rfl (pi_list (pv 0)) (pg_tup (n := 2) rfl (pgs_cons (pg_name (i := 2) sc_arcs_hold.nd rfl (Or.inl rfl)) (pgs_cons (pg_name (i := 3) sc_arcs_hold.nd rfl (Or.inl rfl)) pgs_nil))) (pss_one (ps_if (PW.pt (pw_and (pt_cmpR op_le (pv 2) (pv 1) (nomark _)) (pw_and1 (PW.pt (pw_or (pt_cmpR op_isN1 (pv 3) pe_non (nomark _)) (pw_or1 (pt_cmpR op_le (pv 1) (pv 3) (nomark _)))))))) (pss_one (ps_ret pe_bl)) pss_nil)))
      (pss_one (ps_ret pe_bl))), fun B W0 G0 ds R er h => ?_⟩)
  · obtain ⟨_, _, rfl, _⟩ := h; rfl
  · obtain ⟨r, line, rfl, h⟩ := h
    walk_at "pu0"
    refine sx_for (it_list ?_)
    walk_at "pu"
    refine eachL (fun pre e => pre.any (inB line) = false ∧ ∃ v2 v3, e = [.d (asD r), .d (.int line), v2, v3]) ⟨rfl, _, _, rfl⟩ ?_ ?_
    · rintro pre ⟨y1, y2⟩ post e hy ⟨hp, v2, v3, rfl⟩
      have yes : inB line (y1, y2) = true → R (.bl true) := fun q => by
        have : holds r line = true := by unfold holds; rw [hy, List.any_append, List.any_cons, q]; simp
        rw [this] at h; exact h
      have no : inB line (y1, y2) = false → (pre ++ [(y1, y2)]).any (inB line) = false := fun q => by rw [List.any_append, hp, List.any_cons, q]; rfl
      unfold inB at yes no
      dsimp only at yes no
      walk_at "pu"
      refine iteP (fun c => ?_) (fun c => ?_)
      · rw [decide_eq_true c] at yes no
        walk_at "pu"
        cases y2 with
        | none =>
          walk_at "pu"
          exact yes rfl
        | some l =>
          walk_at "pu"
          refine iteP (fun c2 => ?_) (fun c2 => ?_)
          · walk_at "pu"
            exact yes (by simpa using c2)
          · walk_at "pu"
            exact ⟨no (by simpa using c2), _, _, rfl⟩
      · rw [decide_eq_false c] at no
        walk_at "pu"
        exact ⟨no rfl, _, _, rfl⟩
    · rintro e ⟨hp, v2, v3, rfl⟩
      walk_at "pu"
      have : holds r line = false := hp
      rw [this] at h
      exact h
end
end K09
namespace K09
open PySem PySem.Spec PyProof.Rows L2 Evl Lay Pu
section
variable {P : Program} {w : World} {K : PySem.W.Frag} {mg : Str → Option Value} {base : Heap} {CB CT cL_arcs_gathered PL_arcs_gathered : Addr} {tkL : Tok}
variable {Tb : List (Addr × Str)}
def rngI (lo hi : Int) : List Int := (List.range (hi + 1 - lo).toNat).map fun i : Nat => lo + i
theorem rng_empty {lo hi : Int} (h : hi < lo) : rngI lo hi = [] := by unfold rngI; rw [show (hi + 1 - lo).toNat = 0 by omega]; rfl
theorem rng_snoc {lo hi : Int} (h : lo ≤ hi + 1) : rngI lo (hi + 1) = rngI lo hi ++ [hi + 1] := by
  unfold rngI
  rw [show (hi + 1 + 1 - lo).toNat = (hi + 1 - lo).toNat + 1 by omega, List.range_succ, List.map_append, List.map_cons, List.map_nil]
  congr 2
  omega
theorem mem_rng {lo hi x : Int} : x ∈ rngI lo hi ↔ lo ≤ x ∧ x ≤ hi := by
  unfold rngI
  simp only [List.mem_map, List.mem_range]
  constructor
  · rintro ⟨i, h1, h2⟩; omega
  · rintro ⟨h1, h2⟩; exact ⟨(x - lo).toNat, by omega, by omega⟩
def endOf (top : Int) : Option Int → Int
  | none => top
  | some l => if l > top then top else l
def linesOf (r : List Arc) (top : Int) : List Int := r.flatMap fun a => rngI a.1 (endOf top a.2)
def fLines (CT : Addr) : PN := fun ds R er => ∃ (r : List Arc) (top : Int), ds = [asD r, .int top] ∧ (1000000 < top → er ⟨CT, [("what", .str "lines")]⟩) ∧ (top ≤ 1000000 → (∀ a ∈ r, -100000000 ≤ a.1 ∧ a.1 ≤ 100000000) ∧ -100000000 ≤ top ∧ (∀ a ∈ r, ∀ l, a.2 = some l → -100000000 ≤ l) ∧ (linesOf r top).length ≤ 1000000 ∧ R ((linesOf r top).map D.int))
abbrev s_arcs_lines : Stmt := top 20
theorem sc_arcs_lines : FnScope ["r", "top", "told", "first", "last", "end", "line"] ["r", "top"] (defScope s_arcs_lines) := ⟨rfl, rfl, rfl, by decide +kernel, rfl, by decide +kernel, by decide +kernel⟩
theorem ok_lines (T : Txt K mg CB tkL  ) (F : At K mg "arcs_lines" s_arcs_lines ["r", "top"]) (d_check_most : Def P w K mg base "check_most" 3 ["what", "many", "most"] (spP K Tb (fMost CT))) : Def P w K mg base "arcs_lines" 4 ["r", "top"] (spN K Tb (fLines CT)) := by
  refine defN F sc_arcs_lines (fun ds R er h => ?_) (fun f cdv Ar outer s H vs Q E hr => ⟨_, (pss_cons (ps_expr (pe_d d_check_most (hr.mono (by decide)) (passes_call (takes_of rfl rfl rfl rfl) (fun _ _ _ _ h => h)) (pa_cons pe_str (pa_cons (pv 1) (pa_cons (pe_glob (v := .int 1000000) rfl T.g_LINES ⟨_, rfl⟩) pa_nil)))))
      (pss_cons (ps_set (i := 2) sc_arcs_lines.nd rfl (Or.inl rfl) (pe_lst pa_nil))
      (pss_cons (ps_for (passes_of rfl) rfl (pi_list (pv 0)) (pg_tup (n := 2) rfl (pgs_cons (pg_name (i := 3) sc_arcs_lines.nd rfl (Or.inl rfl)) (pgs_cons (pg_name (i := 4) sc_arcs_lines.nd rfl (Or.inl rfl)) pgs_nil))) (pss_cons (ps_set (i := 5) sc_arcs_lines.nd rfl (Or.inl rfl) (pe_ifExp (PW.pt (pw_or (pt_cmpR op_isN1 (pv 4) pe_non (nomark _)) (pw_or1 (pt_cmpR op_gt (pv 4) (pv 1) (nomark _))))) (pv 1) (pv 4)))
      (pss_one (ps_for (passes_of rfl) rfl (pi_range2 rfl T.n_range (pa_cons (pv 3) (pa_cons (pe_op op_add (pv 5) pe_int) pa_nil))) (pg_name (i := 6) sc_arcs_lines.nd rfl (Or.inl rfl)) (pss_one (ps_expr (pe_bm PySem.F.plainAttrs_list PySem.F.slot_list_append PySem.F.type_list_append mt_append (pv 2) (pa_cons (pv 6) pa_nil))))))))
      (pss_one (ps_ret (pv 2)))))), fun B W0 G0 ds R er h => ?_⟩)
  · obtain ⟨_, _, rfl, _⟩ := h; rfl
  · obtain ⟨r, top, rfl, h1, h2⟩ := h
    walk_at "pu0"
    refine ⟨_, _, _, rfl, by decide, rfl, fun q => ?_, fun q => ?_⟩
    · exact h1 (by simpa [over] using q)
    obtain ⟨hf, ht, he, hl, h⟩ := h2 (by simpa [over] using q)
    walk_at "pu"
    walk_at "own"
    walk_at "pu"
    intro p
    walk_at "pu"
    refine sx_for (it_list ?_)
    walk_at "pu"
    refine eachL (fun pre e => ∃ v3 v4 v5 v6, e = [.d (asD r), .d (.int top), .own p (.l ((linesOf pre top).map D.int)), v3, v4, v5, v6]) ⟨_, _, _, _, rfl⟩ ?_ ?_
    · rintro pre ⟨y1, y2⟩ post e hy ⟨v3, v4, v5, v6, rfl⟩
      have hst : linesOf (pre ++ [(y1, y2)]) top = linesOf pre top ++ rngI y1 (endOf top y2) := by simp [linesOf]
      have hle : (linesOf pre top).length + (rngI y1 (endOf top y2)).length ≤ 1000000 := by
        have : linesOf r top = linesOf pre top ++ rngI y1 (endOf top y2) ++ linesOf post top := by rw [hy]; simp [linesOf]
        rw [this, List.length_append, List.length_append] at hl
        omega
      have hy1 := hf (y1, y2) (by rw [hy]; simp)
      have hy2 := he (y1, y2) (by rw [hy]; simp)
      rw [hst]
      generalize linesOf pre top = made at hle ⊢
      have hb : -100000000 ≤ endOf top y2 ∧ endOf top y2 ≤ 1000000 := by
        have : top ≤ 1000000 := by simpa [over] using q
        unfold endOf
        cases y2 with
        | none => exact ⟨ht, this⟩
        | some l =>
          have := hy2 l rfl
          dsimp only
          split <;> omega
      refine gx_gp ?_
      walk_at "ps"
      refine ev_mid (fun d => d = .int (endOf top y2)) ?_ ?_
      · cases y2 with
        | none =>
          walk_at "pu"
          rfl
        | some l =>
          have e1 : endOf top (some l) = if l > top then top else l := rfl
          rw [e1]
          walk_at "pu"
          refine iteP (fun c => ?_) (fun c => ?_)
          · rw [if_pos (show l > top from c)]
            walk_at "pu"
            rfl
          · rw [if_neg (show ¬ l > top from c)]
            walk_at "pu"
            rfl
      · rintro _ rfl
        generalize endOf top y2 = en at hb hle ⊢
        walk_at "pu"
        refine sx_for (it_rng2 ?_)
        walk_at "pu"
        refine ⟨by dsimp only at hy1; omega, by omega, ?_⟩
        by_cases c : y1 ≤ en + 1
        · refine eachR c (fun j e => ∃ v6, e = [.d (asD r), .d (.int top), .own p (.l ((made ++ rngI y1 (j - 1)).map D.int)), .d (.int y1), .d (oI y2), .d (.int en), v6]) ⟨_, by rw [rng_empty (by omega), List.append_nil]⟩ ?_ ?_
          · rintro j e j1 j2 ⟨v6, rfl⟩
            have hlen : (rngI y1 (j - 1)).length ≤ (rngI y1 en).length := by unfold rngI; simp; omega
            have hsn := rng_snoc (lo := y1) (hi := j - 1) (by omega)
            rw [show j - 1 + 1 = j by omega] at hsn
            rw [show j + 1 - 1 = j by omega, hsn]
            walk_at "pu"
            refine ⟨by rw [List.length_map, List.length_append]; omega, ?_⟩
            walk_at "pu"
            simp only [List.map_append, List.map_cons, List.map_nil, List.append_assoc]
            exact ⟨_, rfl⟩
          · rintro e ⟨v6, rfl⟩
            rw [show en + 1 - 1 = en by omega]
            exact ⟨_, _, _, _, rfl⟩
        · refine eachR0 (by omega) ?_
          rw [rng_empty (by omega), List.append_nil]
          exact ⟨_, _, _, _, rfl⟩
    · rintro e ⟨v3, v4, v5, v6, rfl⟩
      walk_at "pu"
      exact h
end
end K09
namespace K09
open PySem PySem.Spec PyProof.Rows L2 Evl Lay Pu
section
variable {P : Program} {w : World} {K : PySem.W.Frag} {mg : Str → Option Value} {base : Heap} {CB CT cL_arcs_gathered PL_arcs_gathered : Addr} {tkL : Tok}
variable {Tb : List (Addr × Str)}
/-! ### the law's own -/
def spPurse (K : PySem.W.Frag) : Sp := fun vs H Q _ => ∃ (a : Addr) (ns : List Int) (i : Int), vs = [.ref a, .int i] ∧ SqL K H a (ns.map V.int) ∧ 0 ≤ i ∧ ns.length ≤ 63 ∧ ∀ p H2, H p = none → Ex H H2 → Pur H2 p → Q (.ref p) H2
abbrev s__law_purse : Stmt := top 22
theorem sc__law_purse : FnScope ["script", "at", "cell", "size", "one"] ["script", "at"] (defScope s__law_purse) := ⟨rfl, rfl, rfl, by decide +kernel, rfl, by decide +kernel, by decide +kernel⟩
theorem old_purse (T : Txt K mg CB tkL  ) (F : At K mg "_law_purse" s__law_purse ["script", "at"]) : Def P w K mg base "_law_purse" 1 ["script", "at"] (spPurse K) := by
  refine Def.mk' F sc__law_purse (fun vs H Q E h => ?_) (fun f cdv Ar outer s H vs Q E hr h => ⟨_, (pss_cons (ps_set (i := 2) sc__law_purse.nd rfl (Or.inl rfl) (pe_ifExp (pt_cmpR op_lt (pv 1) (pe_callB (r := Lay.rLen K) c_len rfl T.n_len PySem.boot_len (pa_cons (pv 0) pa_nil)) (nomark _)) (pe_callTy c_int rfl T.n_int (by decide +kernel) (pa_cons (pe_ix (r := rIxL K) ix_list (pv 0) (pv 1) (fun _ _ => rfl)) pa_nil)) (pe_op op_mul pe_int (pe_callB (r := rSum K) (cr_sum rfl) rfl T.n_sum (by decide +kernel) (pa_cons (pe_lc (own := [("one", 4)]) (g := gName 4) (tt := tYes) rfl sc__law_purse.nd (pi_list (pe_slice (r := rSlL K) sl_list (pv 0) po_none (po_some pe_int))) (blkOk_by (own := [("one", 4)]) (N := ["script", "at", "cell", "size", "one"]) (sc := defScope s__law_purse) (by decide +kernel)) (fun _ _ _ _ _ => (pg_name (i := 4) sc__law_purse.nd rfl (Or.inl rfl))) (fun _ _ _ _ _ => pts_nil) (fun _ _ _ _ _ => (pe_callTy c_int rfl T.n_int (by decide +kernel) (pa_cons (pv 4) pa_nil)))) pa_nil)))))
      (pss_cons (ps_set (i := 3) sc__law_purse.nd rfl (Or.inl rfl) (pe_op op_add (pe_op op_mul pe_int (pe_callB c_abs rfl T.n_abs (by decide +kernel) (pa_cons (pv 2) pa_nil))) (pe_ifExp (pt_cmpR op_lt (pv 2) pe_int (nomark _)) pe_int pe_int)))
      (pss_one (ps_ret (pe_lst (pa_cons (pe_ifExp (pt_cmpR op_ge (pv 3) (pe_op op_pow pe_int pe_int) (nomark _)) (pv 3) pe_int) (pa_cons (pe_op op_mod (pe_callTy c_int rfl T.n_int (by decide +kernel) (pa_cons (pe_op op_add (pe_op op_add (pv 3) (pe_op op_mul (pv 1) pe_int)) pe_int) pa_nil)) pe_int) (pa_cons (pv 1) pa_nil)))))))), ?_⟩)
  · obtain ⟨a, ns, i, rfl, _⟩ := h
    rfl
  · obtain ⟨a, ns, i, rfl, ha, h0, hl, q⟩ := h
    walk_at "go0"
    refine r_K (fun Q' k => ?_) (fun c H1 e1 => ?_)
    · refine r_tIf ?_
      walk_at "go"
      refine r_ite (fun c => ?_) (fun c => ?_)
      · walk_at "go"
        exact k _ H (Ex.refl H)
      · walk_at "go"
        refine r_slL ha fun p H1 hp e1 h1 => ?_
        rw [cut_ints] at h1
        walk_at "go"
        refine lcI (by walk_at "sq") (fun l i h => ∃ zs : List Int, zs.length = i ∧ h l = some (.lst (zs.map V.int)) ∧ Ex H1 h ∧ H1 l = none) ?_ ?_ ?_ ?_ (fun _ => rfl)
        · exact fun l h hl e hn => ⟨[], rfl, hn, e, hl⟩
        · intro l i h _ ⟨zs, _, _, e, _⟩
          walk_at "sq"
        · intro l i z h hz ⟨zs, hi, hl, e, ln⟩
          walk_at "go"
          have hm : i < 64 := by
            have a := (List.getElem?_eq_some_iff.mp hz).1
            rw [List.length_take, List.length_drop] at a
            omega
          exact appW hl (by rw [List.length_map]; omega) fun H5 e5 h5 => ⟨zs ++ [z], by rw [List.length_append, hi]; rfl, by rw [List.map_append]; exact h5, ExB.ex e e5 ln, ln⟩
        · intro l h ⟨zs, _, hl, e, _⟩
          walk_at "go"
          refine r_sum (by walk_at "sq") ?_
          walk_at "go"
          exact k _ h (e1.trans e)
    · walk_at "go"
      refine r_K (fun Q' k => ?_) (fun c3 H3 e3 => ?_)
      · refine r_tIf ?_
        walk_at "go"
        refine r_ite (fun _ => ?_) (fun _ => ?_)
        · walk_at "go"
          exact k _ H1 (Ex.refl H1)
        · walk_at "go"
          exact k _ H1 (Ex.refl H1)
      walk_at "go"
      exact r_newL (len3 rfl) fun p H4 hp e4 h4 => q p H4 (fresh_back (e1.trans e3) hp) (e1.trans (e3.trans e4)) ⟨_, _, _, h4⟩
def spDraw : Sp := fun vs H Q _ => ∃ (p : Addr) (n : Int), vs = [.ref p, .int n] ∧ 0 < n ∧ n < 1073741824 ∧ Pur H p ∧ ∀ r H2, 0 ≤ r → r < n → ExB p H H2 → Pur H2 p → Q (.int r) H2
abbrev s__law_draw : Stmt := top 23
theorem sc__law_draw : FnScope ["purse", "many", "found"] ["purse", "many"] (defScope s__law_draw) := ⟨rfl, rfl, rfl, by decide +kernel, rfl, by decide +kernel, by decide +kernel⟩
theorem old_draw (T : Txt K mg CB tkL  ) (F : At K mg "_law_draw" s__law_draw ["purse", "many"]) : Def P w K mg base "_law_draw" 1 ["purse", "many"] spDraw := by
  refine Def.mk' F sc__law_draw (fun vs H Q E h => ?_) (fun f cdv Ar outer s H vs Q E hr h => ⟨_, (pss_cons (ps_if (pt_cmpR op_gt (pe_ix (r := rIxL K) ix_list (pv 0) pe_int (fun _ _ => rfl)) pe_int (nomark _)) (pss_cons (ps_set (i := 2) sc__law_draw.nd rfl (Or.inl rfl) (pe_op op_mod (pe_callTy c_int rfl T.n_int (by decide +kernel) (pa_cons (pe_ix (r := rIxL K) ix_list (pv 0) pe_int (fun _ _ => rfl)) pa_nil)) (pv 1)))
      (pss_cons (ps_asg (pe_op op_fdivN (pe_ix (r := rIxL K) ix_list (pv 0) pe_int (fun _ _ => rfl)) (pv 1)) (pg_sub (pv 0) pe_int set_list))
      (pss_one (ps_ret (pv 2))))) pss_nil)
      (pss_cons (ps_augS (pv 0) pe_int get_list pe_int ip_add set_list)
      (pss_cons (ps_asg (pe_op op_mod (pe_callTy c_int rfl T.n_int (by decide +kernel) (pa_cons (pe_op op_add (pe_op op_mul (pe_ix (r := rIxL K) ix_list (pv 0) pe_int (fun _ _ => rfl)) pe_int) (pe_op op_mul (pe_ix (r := rIxL K) ix_list (pv 0) pe_int (fun _ _ => rfl)) pe_int)) pa_nil)) pe_int) (pg_sub (pv 0) pe_int set_list))
      (pss_one (ps_ret (pe_op op_mod (pe_op op_fdiv (pe_op op_mod (pe_callTy c_int rfl T.n_int (by decide +kernel) (pa_cons (pe_op op_add (pe_op op_mul (pe_ix (r := rIxL K) ix_list (pv 0) pe_int (fun _ _ => rfl)) pe_int) (pe_op op_mul (pe_ix (r := rIxL K) ix_list (pv 0) pe_int (fun _ _ => rfl)) pe_int)) pa_nil)) pe_int) pe_int) (pv 1))))))), ?_⟩)
  · obtain ⟨p, n, rfl, _⟩ := h
    rfl
  · obtain ⟨p, n, rfl, h0, h1, ⟨a, b, c, hp⟩, q⟩ := h
    walk_at "go0"
    refine r_ite (fun c => ?_) (fun c => ?_)
    · walk_at "go"
      refine r_setL hp (by decide) (by simp) fun H2 e2 h2 _ => ?_
      walk_at "go"
      exact q _ H2 (Int.emod_nonneg _ (by omega)) (Int.emod_lt_of_pos _ h0) e2 ⟨_, _, _, h2⟩
    · walk_at "go"
      refine r_setL hp (by decide) (by simp) fun H2 e2 h2 _ => ?_
      walk_at "go"
      refine r_setL h2 (by decide) (by simp) fun H3 e3 h3 _ => ?_
      walk_at "go"
      exact q _ H3 (Int.emod_nonneg _ (by omega)) (Int.emod_lt_of_pos _ h0) (e2.trans e3) ⟨_, _, _, h3⟩
theorem ok_purse (T : Txt K mg CB tkL  ) (F : At K mg "_law_purse" s__law_purse ["script", "at"]) : Def P w K mg base "_law_purse" 1 ["script", "at"] (spP K Tb fPurse) := by
  exact (old_purse T F).imp fun _ _ _ _ s => sp_purse s
theorem ok_draw (T : Txt K mg CB tkL  ) (F : At K mg "_law_draw" s__law_draw ["purse", "many"]) : Def P w K mg base "_law_draw" 1 ["purse", "many"] (spP K Tb fDraw) := by
  exact (old_draw T F).imp fun _ _ _ _ s => sp_draw s
end
end K09
namespace K09
open PySem PySem.Spec PyProof.Rows L2 Evl Lay Pu
section
variable {P : Program} {w : World} {K : PySem.W.Frag} {mg : Str → Option Value} {base : Heap} {CB CT cL_arcs_gathered PL_arcs_gathered : Addr} {tkL : Tok}
variable {Tb : List (Addr × Str)}
/-! ### the law's own: start, same, what a set tells -/
def fStart : PF := fun ds R _ => ∃ (ns : List Int) (i : Int), ds = [.scr ns, .int i] ∧ 0 ≤ i ∧ i ≤ 100 ∧ ns.length ≤ 63 ∧ R .pur
abbrev s__law_start : Stmt := top 24
theorem sc__law_start : FnScope ["script", "at", "purse"] ["script", "at"] (defScope s__law_start) := ⟨rfl, rfl, rfl, by decide +kernel, rfl, by decide +kernel, by decide +kernel⟩
theorem ok_start (T : Txt K mg CB tkL  ) (F : At K mg "_law_start" s__law_start ["script", "at"]) (d__law_purse : Def P w K mg base "_law_purse" 1 ["script", "at"] (spP K Tb fPurse)) (d__law_draw : Def P w K mg base "_law_draw" 1 ["purse", "many"] (spP K Tb fDraw)) : Def P w K mg base "_law_start" 2 ["script", "at"] (spP K Tb fStart) := by
  refine defP F sc__law_start (fun ds R er h => ?_) (fun f cdv Ar outer s H vs Q E hr => ⟨_, (pss_cons (ps_set (i := 2) sc__law_start.nd rfl (Or.inl rfl) (pe_d d__law_purse (hr.mono (by decide)) (passes_call (takes_of rfl rfl rfl rfl) (fun _ _ _ _ h => h)) (pa_cons (pv 0) (pa_cons (pv 1) pa_nil))))
      (pss_cons (ps_expr (pe_d d__law_draw (hr.mono (by decide)) (passes_call (takes_of rfl rfl rfl rfl) (fun _ _ _ _ h => h)) (pa_cons (pv 2) (pa_cons pe_int pa_nil))))
      (pss_one (ps_ret (pv 2))))), fun B W0 G0 ds R er h => ?_⟩)
  · obtain ⟨_, _, rfl, _⟩ := h; rfl
  · obtain ⟨ns, i, rfl, h0, h1, hl, h⟩ := h
    walk_at "pu0"
    refine ⟨ns, i, rfl, h0, hl, ?_⟩
    walk_at "pu"
    refine ⟨2, rfl, by omega, by omega, fun r r0 r1 => ?_⟩
    walk_at "pu"
    exact h
theorem nbs_ints : ∀ x : List Int, nb (.lst (x.map D.int)) = true
  | [] => rfl
  | a :: x => by rw [List.map_cons, nb, nbs]; have := nbs_ints x; rw [nb] at this; rw [this]; rfl
/-- two lists of ints, the same -/
def fSame : PF := fun ds R _ => ∃ ns : List Int, ds = [.lst (ns.map D.int), .lst (ns.map D.int)] ∧ (∀ i ∈ ns, i.natAbs < 1000000000000) ∧ ns.length ≤ 1000000 ∧ R (.bl true)
abbrev s__law_same : Stmt := top 25
theorem sc__law_same : FnScope ["got", "due"] ["got", "due"] (defScope s__law_same) := ⟨rfl, rfl, rfl, by decide +kernel, rfl, by decide +kernel, by decide +kernel⟩
theorem ok_same (T : Txt K mg CB tkL  ) (F : At K mg "_law_same" s__law_same ["got", "due"]) : DefG P w K mg base "_law_same" 1 ["got", "due"] (spP K Tb fSame) := by
  refine defPG F sc__law_same (fun ds R er h => ?_) (fun f cdv Ar outer s H vs Q E hG hr => ⟨_, (pss_one (ps_ret (pe_and (pe_cmpR (r := rEqD K) (op_eqD hr.units) (pv 0) (pv 1) (nomark _)) (pe_one (pe_cmpR op_eq (pe_callB (r := rRepr K) (cr_repr hG hr.units) rfl T.n_repr (by decide +kernel) (pa_cons (pv 0) pa_nil)) (pe_callB (r := rRepr K) (cr_repr hG hr.units) rfl T.n_repr (by decide +kernel) (pa_cons (pv 1) pa_nil)) (nomark _)))))), fun B W0 G0 ds R er h => ?_⟩)
  · obtain ⟨_, rfl, _⟩ := h; rfl
  · obtain ⟨ns, rfl, hs, hl, h⟩ := h
    have sh := sh_ints hs hl
    walk_at "pu0"
    refine op_eq (Cn.mk sh.p sh.t (nbs_ints ns)) (Cn.mk sh.p sh.t (nbs_ints ns)) (fun _ => ?_) (fun z => absurd rfl z)
    walk_at "pu"
    refine cb_repr sh ?_
    walk_at "pu"
    refine cb_repr sh ?_
    walk_at "pu"
    rw [decide_eq_true rfl]
    exact h
@[reducible] def kD (base : Int) (r : List Arc) : D := .lst [asD r, .lst ((WA.thOf base r).map D.int), .int (WA.enOf base r)]
def fIn : PF := fun ds R _ => ∃ (base : Int) (r : List Arc) (i : Int), ds = [kD base r, .int i] ∧ WA.KN base r ∧ R (.int (WA.bi (WA.hb r (base + i))))
abbrev s__law_in : Stmt := top 27
theorem sc__law_in : FnScope ["known", "at"] ["known", "at"] (defScope s__law_in) := ⟨rfl, rfl, rfl, by decide +kernel, rfl, by decide +kernel, by decide +kernel⟩
theorem ok_in (T : Txt K mg CB tkL  ) (F : At K mg "_law_in" s__law_in ["known", "at"]) : Def P w K mg base "_law_in" 1 ["known", "at"] (spP K Tb fIn) := by
  refine defP F sc__law_in (fun ds R er h => ?_) (fun f cdv Ar outer s H vs Q E hr => ⟨_, (pss_cons (ps_if (pt_cmpR op_lt (pv 1) pe_int (nomark _)) (pss_one (ps_ret pe_int)) pss_nil)
      (pss_one (ps_ret (pe_ifExp (pt_cmpR op_lt (pv 1) pe_int (nomark _)) (pe_ix (r := rIxL K) ix_list (pe_ix (r := rIxL K) ix_list (pv 0) pe_int (fun _ _ => rfl)) (pv 1) (fun _ _ => rfl)) (pe_ix (r := rIxL K) ix_list (pv 0) pe_int (fun _ _ => rfl)))))), fun B W0 G0 ds R er h => ?_⟩)
  · obtain ⟨_, _, _, rfl, _⟩ := h; rfl
  · obtain ⟨b, r, i, rfl, hk, h⟩ := h
    walk_at "pu0"
    refine iteP (fun c => ?_) (fun c => ?_)
    · rw [hk.in_lo c] at h
      walk_at "pu"
      exact h
    · have hl : (WA.thOf b r).length = 100 := WA.thF_len
      walk_at "pu"
      refine iteP (fun c2 => ?_) (fun c2 => ?_)
      · walk_at "pu"
        have e : gA (WA.thOf b r) i = WA.bi (WA.hb r (b + i)) := by
          unfold gA
          rw [List.getD_eq_getElem?_getD, WA.thOf, WA.thF_get (by omega)]
          show WA.bi (WA.hb r (b + (i.toNat : Int))) = _
          rw [Int.toNat_of_nonneg (by omega)]
        rw [← e] at h
        walk_at "pu"
        exact h
      · rw [hk.in_hi (by omega)] at h
        walk_at "pu"
        exact h
def fSet : PF := fun ds R _ => ∃ base : Int, ds = [.pur, .int base] ∧ 0 ≤ base ∧ base ≤ 1000000 ∧ ∀ r : List Arc, WA.KN base r → R (kD base r)
abbrev s__law_set : Stmt := top 26
theorem sc__law_set : FnScope ["purse", "base", "there", "arcs", "line", "turn", "last", "at", "endless"] ["purse", "base"] (defScope s__law_set) := ⟨rfl, rfl, rfl, by decide +kernel, rfl, by decide +kernel, by decide +kernel⟩
theorem ok_set (T : Txt K mg CB tkL  ) (F : At K mg "_law_set" s__law_set ["purse", "base"]) (d__law_draw : Def P w K mg base "_law_draw" 1 ["purse", "many"] (spP K Tb fDraw)) : Def P w K mg base "_law_set" 2 ["purse", "base"] (spP K Tb fSet) := by
  refine defP F sc__law_set (fun ds R er h => ?_) (fun f cdv Ar outer s H vs Q E hr => ⟨_, (pss_cons (ps_set (i := 2) sc__law_set.nd rfl (Or.inl rfl) (pe_op op_rep (pe_lst (pa_cons pe_int pa_nil)) pe_int))
      (pss_cons (ps_set (i := 3) sc__law_set.nd rfl (Or.inl rfl) (pe_lst pa_nil))
      (pss_cons (ps_set (i := 4) sc__law_set.nd rfl (Or.inl rfl) (pe_d d__law_draw (hr.mono (by decide)) (passes_call (takes_of rfl rfl rfl rfl) (fun _ _ _ _ h => h)) (pa_cons (pv 0) (pa_cons pe_int pa_nil))))
      (pss_cons (ps_for (passes_of rfl) rfl (pi_range1 rfl T.n_range (pa_cons (pe_d d__law_draw (hr.mono (by decide)) (passes_call (takes_of rfl rfl rfl rfl) (fun _ _ _ _ h => h)) (pa_cons (pv 0) (pa_cons pe_int pa_nil))) pa_nil)) (pg_name (i := 5) sc__law_set.nd rfl (Or.inl rfl)) (pss_cons (ps_set (i := 6) sc__law_set.nd rfl (Or.inl rfl) (pe_op op_add (pv 4) (pe_d d__law_draw (hr.mono (by decide)) (passes_call (takes_of rfl rfl rfl rfl) (fun _ _ _ _ h => h)) (pa_cons (pv 0) (pa_cons pe_int pa_nil)))))
      (pss_cons (ps_for (passes_of rfl) rfl (pi_range2 rfl T.n_range (pa_cons (pv 4) (pa_cons (pe_op op_add (pv 6) pe_int) pa_nil))) (pg_name (i := 7) sc__law_set.nd rfl (Or.inl rfl)) (pss_one (ps_asg pe_int (pg_sub (pv 2) (pv 7) set_list))))
      (pss_cons (ps_expr (pe_bm PySem.F.plainAttrs_list PySem.F.slot_list_append PySem.F.type_list_append mt_append (pv 3) (pa_cons (pe_tup (pa_cons (pe_op op_add (pv 1) (pv 4)) (pa_cons (pe_op op_add (pv 1) (pv 6)) pa_nil))) pa_nil)))
      (pss_one (ps_set (i := 4) sc__law_set.nd rfl (Or.inl rfl) (pe_op op_add (pe_op op_add (pv 6) pe_int) (pe_d d__law_draw (hr.mono (by decide)) (passes_call (takes_of rfl rfl rfl rfl) (fun _ _ _ _ h => h)) (pa_cons (pv 0) (pa_cons pe_int pa_nil))))))))))
      (pss_cons (ps_set (i := 8) sc__law_set.nd rfl (Or.inl rfl) (pe_and (pe_cmpR (r := rNeD K) (op_neD hr.units) (pv 3) (pe_lst pa_nil) (nomark _)) (pe_one (pe_cmpR op_eq (pe_d d__law_draw (hr.mono (by decide)) (passes_call (takes_of rfl rfl rfl rfl) (fun _ _ _ _ h => h)) (pa_cons (pv 0) (pa_cons pe_int pa_nil))) pe_int (nomark _)))))
      (pss_cons (ps_if (pt_val (pv 8)) (pss_cons (ps_asg (pe_tup (pa_cons (pe_ix (r := rIxT K) ix_tup (pe_ix (r := rIxL K) ix_list (pv 3) (pe_un un_neg pe_int) (fun _ _ => rfl)) pe_int (fun _ _ => rfl)) (pa_cons pe_non pa_nil))) (pg_sub (pv 3) (pe_un un_neg pe_int) set_list))
      (pss_one (ps_for (passes_of rfl) rfl (pi_range2 rfl T.n_range (pa_cons (pe_op op_sub (pe_ix (r := rIxT K) ix_tup (pe_ix (r := rIxL K) ix_list (pv 3) (pe_un un_neg pe_int) (fun _ _ => rfl)) pe_int (fun _ _ => rfl)) (pv 1)) (pa_cons pe_int pa_nil))) (pg_name (i := 7) sc__law_set.nd rfl (Or.inl rfl)) (pss_one (ps_asg pe_int (pg_sub (pv 2) (pv 7) set_list)))))) pss_nil)
      (pss_one (ps_ret (pe_lst (pa_cons (pv 3) (pa_cons (pv 2) (pa_cons (pe_ifExp (pt_val (pv 8)) pe_int pe_int) pa_nil)))))))))))), fun B W0 G0 ds R er h => ?_⟩)
  · obtain ⟨_, rfl, _⟩ := h; rfl
  · obtain ⟨b, rfl, b0, b1, h⟩ := h
    walk_at "pu0"
    walk_at "own"
    walk_at "pu"
    refine of_rep (by omega) (by omega) (by decide) ?_
    intro p
    walk_at "pu"
    walk_at "own"
    walk_at "pu"
    intro p2
    walk_at "pu"
    refine ⟨4, rfl, by omega, by omega, fun l l0 l1 => ?_⟩
    walk_at "pu"
    refine sx_for (it_rng1 ?_)
    walk_at "pu"
    refine ⟨8, rfl, by omega, by omega, fun n n0 n1 => ?_⟩
    walk_at "pu"
    refine ⟨by omega, by omega, ?_⟩
    have e0 : (List.replicate (100 : Int).toNat [D.int 0]).flatten = (WA.thOf b []).map D.int := rfl
    rw [e0]
    refine eachR (by omega) (fun j e => ∃ r line v5 v6 v7 v8, WA.LS b r line j ∧ e = [.d .pur, .d (.int b), .own p (.l ((WA.thOf b r).map D.int)), .own p2 (.l (r.map aD)), .d (.int line), v5, v6, v7, v8]) ⟨[], l, _, _, _, _, WA.LS.nil l0 (by omega), rfl⟩ ?_ ?_
    · rintro j e j0 j1 ⟨r, line, v5, v6, v7, v8, ls, rfl⟩
      have lsl := ls.l0
      have lsm := ls.l1
      have lsn := ls.len
      walk_at "pu"
      refine ⟨6, rfl, by omega, by omega, fun k k0 k1 => ?_⟩
      walk_at "pu"
      refine sx_for (it_rng2 ?_)
      walk_at "pu"
      refine ⟨⟨by omega, by omega⟩, ⟨by omega, by omega⟩, ?_⟩
      refine eachR (by omega) (fun i e => ∃ f v7, (∀ z : Nat, z < 100 → (f z = true ↔ WA.hit r (b + z) ∨ (line ≤ z ∧ (z : Int) < i))) ∧ e = [.d .pur, .d (.int b), .own p (.l ((WA.thF f).map D.int)), .own p2 (.l (r.map aD)), .d (.int line), .d (.int j), .d (.int (line + k)), v7, v8]) ⟨fun i : Nat => WA.hb r (b + i), _, fun z hz => ?_, rfl⟩ ?_ ?_
      · rw [WA.hb_iff]
        exact ⟨.inl, fun q => q.elim id fun q => by omega⟩
      · rintro i e i0 i1 ⟨f, v7, hf, rfl⟩
        have hl : (WA.thF f).length = 100 := WA.thF_len
        walk_at "pu"
        refine ⟨⟨by omega, by omega⟩, ?_⟩
        walk_at "pu"
        rw [WA.thF_set (by omega)]
        refine ⟨_, _, fun z hz => ?_, rfl⟩
        rw [Bool.or_eq_true, hf z hz, decide_eq_true_eq, or_assoc]
        refine or_congr Iff.rfl ⟨fun q => ?_, fun q => ?_⟩
        · rcases q with q | q <;> omega
        · by_cases c : z = i.toNat
          · exact .inr c
          · exact .inl (by omega)
      · rintro e ⟨f, v7, hf, rfl⟩
        walk_at "pu"
        refine ⟨by rw [List.length_map]; omega, ?_⟩
        walk_at "pu"
        refine ⟨5, rfl, by omega, by omega, fun d d0 d1 => ?_⟩
        walk_at "pu"
        refine ⟨r ++ [(b + line, some (b + (line + k)))], line + k + 2 + d, .d (.int j), .d (.int (line + k)), v7, v8, ls.step (by omega) (by omega) d0 (by omega), ?_⟩
        rw [← WA.LS.th hf, List.map_append, List.map_cons, List.map_nil]
    · rintro e ⟨r, line, v5, v6, v7, v8, ls, rfl⟩
      refine sx_seq ?_
      refine sx_set' (ev_frz' ?_)
      walk_at "pu"
      rcases List.eq_nil_or_concat r with rfl | ⟨ini, ⟨b2, l2⟩, rfl⟩
      · rw [if_neg (by simp)]
        obtain ⟨kn, en⟩ := ls.fin (by omega) b0 b1
        refine ⟨trivial, ?_⟩
        refine setN ?_
        refine sx_frz' 2 ?_
        refine sx_frz' 3 ?_
        walk_at "pu"
        have := h _ kn
        unfold kD at this
        rw [en] at this
        exact this
      · rw [List.concat_eq_append] at ls ⊢
        rw [if_pos (by simp)]
        walk_at "pu"
        refine ⟨3, rfl, by omega, by omega, fun z z0 z1 => ?_⟩
        walk_at "pu"
        refine ⟨trivial, ?_⟩
        refine setN ?_
        by_cases c : z = 0
        · rw [decide_eq_true c]
          obtain ⟨_, l3, e3, _⟩ := ls.cl (b2, l2) (List.mem_append_right _ List.mem_cons_self)
          have e3 : l2 = some l3 := e3
          subst e3
          obtain ⟨o1, o2, o3, kn, en⟩ := ls.open_ (by omega) b0 b1
          simp only [List.map_append, List.map_cons, List.map_nil]
          walk_at "pu"
          refine sx_for (it_rng2 ?_)
          walk_at "pu"
          refine ⟨⟨by omega, by omega⟩, ⟨by omega, by omega⟩, ?_⟩
          refine eachR (by omega) (fun i e => ∃ f v7, (∀ z : Nat, z < 100 → (f z = true ↔ WA.hit (ini ++ [(b2, some l3)]) (b + z) ∨ (b2 - b ≤ z ∧ (z : Int) < i))) ∧ e = [.d .pur, .d (.int b), .own p (.l ((WA.thF f).map D.int)), .own p2 (.l (ini.map aD ++ [aD (b2, none)])), .d (.int line), v5, v6, v7, .d (.bl true)]) ⟨fun i : Nat => WA.hb (ini ++ [(b2, some l3)]) (b + i), _, fun z hz => ?_, rfl⟩ ?_ ?_
          · rw [WA.hb_iff]
            exact ⟨.inl, fun q => q.elim id fun q => by omega⟩
          · rintro i e i0 i1 ⟨f, v7, hf, rfl⟩
            have hl : (WA.thF f).length = 100 := WA.thF_len
            walk_at "pu"
            refine ⟨⟨by omega, by omega⟩, ?_⟩
            walk_at "pu"
            rw [WA.thF_set (by omega)]
            refine ⟨_, _, fun z hz => ?_, rfl⟩
            rw [Bool.or_eq_true, hf z hz, decide_eq_true_eq, or_assoc]
            refine or_congr Iff.rfl ⟨fun q => ?_, fun q => ?_⟩
            · rcases q with q | q <;> omega
            · by_cases c : z = i.toNat
              · exact .inr c
              · exact .inl (by omega)
          · rintro e ⟨f, v7, hf, rfl⟩
            refine sx_frz' 2 ?_
            refine sx_frz' 3 ?_
            walk_at "pu"
            have := h _ kn
            unfold kD at this
            rw [en, ← WA.LS.thO o1 (f := f) fun z hz => (hf z hz).trans (or_congr Iff.rfl ⟨fun q => q.1, fun q => ⟨q, by omega⟩⟩)] at this
            simp only [asD, List.map_append, List.map_cons, List.map_nil] at this
            exact this
        · rw [decide_eq_false c]
          obtain ⟨kn, en⟩ := ls.fin (by omega) b0 b1
          refine sx_frz' 2 ?_
          refine sx_frz' 3 ?_
          walk_at "pu"
          have := h _ kn
          unfold kD at this
          rw [en] at this
          exact this
end
end K09
namespace K09
open PySem PySem.Spec PyProof.Rows L2 Evl Lay Pu
section
variable {P : Program} {w : World} {K : PySem.W.Frag} {mg : Str → Option Value} {base : Heap} {CB CT cL_arcs_gathered PL_arcs_gathered : Addr} {tkL : Tok}
variable {Tb : List (Addr × Str)}
/-! ### the form of arcs -/
def befD (pre : List Arc) : D := match pre.getLast? with | none => .int (-2) | some a => oI a.2
def fIsArcs : PF := fun ds R _ => ∃ r : List Arc, ds = [asD r] ∧ WA.NF r ∧ WA.pos r ∧ R (.bl true)
abbrev s__law_is_arcs : Stmt := top 28
theorem sc__law_is_arcs : FnScope ["got", "before", "arc", "number"] ["got"] (defScope s__law_is_arcs) := ⟨rfl, rfl, rfl, by decide +kernel, rfl, by decide +kernel, by decide +kernel⟩
theorem ok_is_arcs (T : Txt K mg CB tkL  ) (F : At K mg "_law_is_arcs" s__law_is_arcs ["got"]) : Def P w K mg base "_law_is_arcs" 1 ["got"] (spP K Tb fIsArcs) := by
  refine defP F sc__law_is_arcs (fun ds R er h => ?_) (fun f cdv Ar outer s H vs Q E hr => ⟨_, (pss_cons (ps_if (pt_not (pt_val (pe_callB (r := rIsi K) call_isi rfl T.n_isinstance (by decide +kernel) (pa_cons (pv 0) (pa_cons (pe_bltn (v := .ty "list") (u := .type "list") rfl T.n_list (by decide +kernel) rfl) pa_nil))))) (pss_one (ps_ret pe_bl)) pss_nil)
      (pss_cons (ps_set (i := 1) sc__law_is_arcs.nd rfl (Or.inl rfl) (pe_un un_neg pe_int))
      (pss_cons (ps_for (passes_of rfl) rfl (pi_list (pv 0)) (pg_name (i := 2) sc__law_is_arcs.nd rfl (Or.inl rfl)) (pss_cons (ps_if (PW.pt (pw_or (pt_not (pt_val (pe_callB (r := rIsi K) call_isi rfl T.n_isinstance (by decide +kernel) (pa_cons (pv 2) (pa_cons (pe_bltn (v := .ty "tuple") (u := .type "tuple") rfl T.n_tuple (by decide +kernel) rfl) pa_nil))))) (pw_or (pt_cmpR op_ne (pe_callB (r := Lay.rLen K) c_len rfl T.n_len PySem.boot_len (pa_cons (pv 2) pa_nil)) pe_int (nomark _)) (pw_or1 (pt_cmpR op_isN1 (pv 1) pe_non (nomark _)))))) (pss_one (ps_ret pe_bl)) pss_nil)
      (pss_cons (ps_for (passes_of rfl) rfl (pi_tup (pv 2)) (pg_name (i := 3) sc__law_is_arcs.nd rfl (Or.inl rfl)) (pss_one (ps_if (PW.pt (pw_and (pt_cmpR op_notN1 (pv 3) pe_non (nomark _)) (pw_and1 (PW.pt (pw_or (pt_not (pt_val (pe_callB (r := rIsi K) call_isi rfl T.n_isinstance (by decide +kernel) (pa_cons (pv 3) (pa_cons (pe_bltn (v := .ty "int") (u := .type "int") rfl T.n_int (by decide +kernel) rfl) pa_nil))))) (pw_or1 (pt_val (pe_callB (r := rIsi K) call_isi rfl T.n_isinstance (by decide +kernel) (pa_cons (pv 3) (pa_cons (pe_bltn (v := .ty "bool") (u := .type "bool") rfl T.n_bool (by decide +kernel) rfl) pa_nil)))))))))) (pss_one (ps_ret pe_bl)) pss_nil)))
      (pss_cons (ps_if (PW.pt (pw_or (pt_cmpR op_isN1 (pe_ix (r := rIxT K) ix_tup (pv 2) pe_int (fun _ _ => rfl)) pe_non (nomark _)) (pw_or (pt_cmpR op_lt (pe_ix (r := rIxT K) ix_tup (pv 2) pe_int (fun _ _ => rfl)) pe_int (nomark _)) (pw_or (pt_cmpR op_lt (pe_ix (r := rIxT K) ix_tup (pv 2) pe_int (fun _ _ => rfl)) (pe_op op_add (pv 1) pe_int) (nomark _)) (pw_or1 (PW.pt (pw_and (pt_cmpR op_notN1 (pe_ix (r := rIxT K) ix_tup (pv 2) pe_int (fun _ _ => rfl)) pe_non (nomark _)) (pw_and1 (pt_cmpR op_lt (pe_ix (r := rIxT K) ix_tup (pv 2) pe_int (fun _ _ => rfl)) (pe_ix (r := rIxT K) ix_tup (pv 2) pe_int (fun _ _ => rfl)) (nomark _)))))))))) (pss_one (ps_ret pe_bl)) pss_nil)
      (pss_one (ps_set (i := 1) sc__law_is_arcs.nd rfl (Or.inl rfl) (pe_ix (r := rIxT K) ix_tup (pv 2) pe_int (fun _ _ => rfl))))))))
      (pss_one (ps_ret pe_bl))))), fun B W0 G0 ds R er h => ?_⟩)
  · obtain ⟨_, rfl, _⟩ := h; rfl
  · obtain ⟨r, rfl, nf, ps, h⟩ := h
    walk_at "pu0"
    refine cb_isi rfl (b := true) (by decide +kernel) ?_
    walk_at "pu"
    refine sx_for (it_list ?_)
    walk_at "pu"
    refine eachL (fun pre e => ∃ v2 v3, e = [.d (asD r), .d (befD pre), v2, v3]) ⟨_, _, rfl⟩ ?_ ?_
    · rintro pre ⟨f, l⟩ post e hy ⟨v2, v3, rfl⟩
      have hpos : 0 ≤ f := ps (f, l) (by rw [hy]; simp)
      have hok : WA.ok (f, l) := nf.o (f, l) (by rw [hy]; simp)
      have hb : ∃ z : Int, befD pre = .int z ∧ z + 2 ≤ f := by
        rcases List.eq_nil_or_concat pre with rfl | ⟨ini, ⟨b2, l2⟩, rfl⟩
        · exact ⟨-2, rfl, by omega⟩
        · rw [List.concat_eq_append] at hy ⊢
          have g := nf.g
          rw [hy] at g
          have := (List.pairwise_append.mp g).2.2 (b2, l2) (List.mem_append_right _ List.mem_cons_self) (f, l) List.mem_cons_self
          obtain ⟨z, e1, e2⟩ := this
          have e1 : l2 = some z := e1
          subst e1
          refine ⟨z, ?_, by have e2 : z + 1 < f := e2; omega⟩
          unfold befD
          rw [last_ap]
      obtain ⟨z, hz, hzf⟩ := hb
      rw [hz]
      walk_at "pu"
      refine cb_isi rfl (b := true) (by decide +kernel) ?_
      walk_at "pu"
      rw [if_neg (by simp)]
      walk_at "pu"
      refine sx_for (it_tup ?_)
      walk_at "pu"
      refine eachD (fun pr e => ∃ v3, e = [.d (asD r), .d (.int z), .d (aD (f, l)), v3]) ⟨_, rfl⟩ ?_ ?_
      · rintro pr x po e hx ⟨v3, rfl⟩
        have hm : x = .non ∨ ∃ i, x = .int i := by
          have : x ∈ ([.int f, oI l] : List D) := by show x ∈ [D.int (f, l).fst, oI (f, l).snd]; rw [hx]; simp
          simp only [List.mem_cons, List.not_mem_nil, or_false] at this
          rcases this with rfl | rfl
          · exact .inr ⟨_, rfl⟩
          · cases l with
            | none => exact .inl rfl
            | some l => exact .inr ⟨_, rfl⟩
        rcases hm with rfl | ⟨i, rfl⟩
        · walk_at "pu"
          exact ⟨_, rfl⟩
        · walk_at "pu"
          refine cb_isi rfl (b := true) (by decide +kernel) ?_
          walk_at "pu"
          refine cb_isi rfl (b := false) (by decide +kernel) ?_
          walk_at "pu"
          exact ⟨_, rfl⟩
      · rintro e ⟨v3, rfl⟩
        have e2 : befD (pre ++ [(f, l)]) = oI l := by unfold befD; rw [last_ap]
        rw [e2]
        cases l with
        | none =>
          walk_at "po"
          exact ⟨_, _, rfl⟩
        | some l =>
          have hfl : f ≤ l := hok l rfl
          walk_at "po"
          exact ⟨_, _, rfl⟩
    · rintro e ⟨v2, v3, rfl⟩
      walk_at "pu"
      exact h
theorem gA_du {f : Int → Bool} {i : Int} (h0 : 0 ≤ i) (h1 : i < 160) : gA (WA.duF f) i = WA.bi (f (i - 40)) := by
  unfold gA
  rw [List.getD_eq_getElem?_getD, WA.duF_get (by omega)]
  show WA.bi (f ((i.toNat : Int) - 40)) = _
  rw [Int.toNat_of_nonneg h0]
theorem at_du (f : Int → Bool) : atD ((WA.duF f).map D.int) (-1) = some (.int (WA.bi (f 119))) := by
  have hl : (WA.duF f).length = 160 := WA.duF_len
  unfold atD
  rw [if_neg (by omega), if_pos (by rw [List.length_map, hl]; decide), List.length_map, hl, List.getElem?_map]
  rw [show ((-1 : Int) + (160 : Nat)).toNat = 159 by decide, WA.duF_get (by decide)]
  rfl
theorem fst1_len (found : List Arc) (x : Int) : (WA.fst1 found x).length ≤ found.length + 1 := by
  unfold WA.fst1
  split
  · simp
  · split
    · simp
    · simp
def fAre : PF := fun ds R _ => ∃ (r : List Arc) (base : Int) (f : Int → Bool), ds = [asD r, .int base, .lst ((WA.duF f).map D.int)] ∧ WA.Are base r f ∧ 0 ≤ base ∧ base ≤ 1000000 ∧ R (.bl true)
abbrev s__law_arcs_are : Stmt := top 29
theorem sc__law_arcs_are : FnScope ["got", "base", "due", "found", "place", "line"] ["got", "base", "due"] (defScope s__law_arcs_are) := ⟨rfl, rfl, rfl, by decide +kernel, rfl, by decide +kernel, by decide +kernel⟩
theorem ok_are (T : Txt K mg CB tkL  ) (F : At K mg "_law_arcs_are" s__law_arcs_are ["got", "base", "due"]) (d__law_is_arcs : Def P w K mg base "_law_is_arcs" 1 ["got"] (spP K Tb fIsArcs)) : Def P w K mg base "_law_arcs_are" 2 ["got", "base", "due"] (spP K Tb fAre) := by
  refine defP F sc__law_arcs_are (fun ds R er h => ?_) (fun f cdv Ar outer s H vs Q E hr => ⟨_, (pss_cons (ps_if (pt_not (pt_val (pe_d d__law_is_arcs (hr.mono (by decide)) (passes_call (takes_of rfl rfl rfl rfl) (fun _ _ _ _ h => h)) (pa_cons (pv 0) pa_nil)))) (pss_one (ps_ret pe_bl)) pss_nil)
      (pss_cons (ps_set (i := 3) sc__law_arcs_are.nd rfl (Or.inl rfl) (pe_lst pa_nil))
      (pss_cons (ps_for (passes_of rfl) rfl (pi_range1 rfl T.n_range (pa_cons (pe_callB (r := Lay.rLen K) c_len rfl T.n_len PySem.boot_len (pa_cons (pv 2) pa_nil)) pa_nil)) (pg_name (i := 4) sc__law_arcs_are.nd rfl (Or.inl rfl)) (pss_cons (ps_set (i := 5) sc__law_arcs_are.nd rfl (Or.inl rfl) (pe_op op_add (pe_op op_sub (pv 1) pe_int) (pv 4)))
      (pss_one (ps_if (PW.pt (pw_and (pt_cmpR op_eq (pe_ix (r := rIxL K) ix_list (pv 2) (pv 4) (fun _ _ => rfl)) pe_int (nomark _)) (pw_and1 (pt_cmpR op_ge (pv 5) pe_int (nomark _))))) (pss_one (ps_if (PW.pt (pw_and (pt_cmpR (r := rNeD K) (op_neD hr.units) (pv 3) (pe_lst pa_nil) (nomark _)) (pw_and1 (pt_cmpR op_eq (pe_ix (r := rIxT K) ix_tup (pe_ix (r := rIxL K) ix_list (pv 3) (pe_un un_neg pe_int) (fun _ _ => rfl)) pe_int (fun _ _ => rfl)) (pe_op op_sub (pv 5) pe_int) (nomark _))))) (pss_one (ps_asg (pe_tup (pa_cons (pe_ix (r := rIxT K) ix_tup (pe_ix (r := rIxL K) ix_list (pv 3) (pe_un un_neg pe_int) (fun _ _ => rfl)) pe_int (fun _ _ => rfl)) (pa_cons (pv 5) pa_nil))) (pg_sub (pv 3) (pe_un un_neg pe_int) set_list))) (pss_one (ps_expr (pe_bm PySem.F.plainAttrs_list PySem.F.slot_list_append PySem.F.type_list_append mt_append (pv 3) (pa_cons (pe_tup (pa_cons (pv 5) (pa_cons (pv 5) pa_nil))) pa_nil)))))) pss_nil))))
      (pss_cons (ps_if (pt_cmpR op_eq (pe_ix (r := rIxL K) ix_list (pv 2) (pe_un un_neg pe_int) (fun _ _ => rfl)) pe_int (nomark _)) (pss_one (ps_asg (pe_tup (pa_cons (pe_ix (r := rIxT K) ix_tup (pe_ix (r := rIxL K) ix_list (pv 3) (pe_un un_neg pe_int) (fun _ _ => rfl)) pe_int (fun _ _ => rfl)) (pa_cons pe_non pa_nil))) (pg_sub (pv 3) (pe_un un_neg pe_int) set_list))) pss_nil)
      (pss_one (ps_ret (pe_cmpR (r := rEqD K) (op_eqD hr.units) (pv 0) (pv 3) (nomark _)))))))), fun B W0 G0 ds R er h => ?_⟩)
  · obtain ⟨_, _, _, rfl, _⟩ := h; rfl
  · obtain ⟨r, b, f, rfl, ar, b0, b1, h⟩ := h
    have hl : (WA.duF f).length = 160 := WA.duF_len
    walk_at "pu0"
    refine ⟨r, rfl, ar.nf, ar.ps, ?_⟩
    walk_at "pu"
    walk_at "own"
    walk_at "pu"
    intro p
    walk_at "pu"
    refine sx_for (it_rng1 ?_)
    walk_at "pu"
    rw [hl]
    refine ⟨by decide, by decide, ?_⟩
    refine eachR (by decide) (fun k e => ∃ found v4 v5, WA.FK b r found k ∧ found.length ≤ k ∧ e = [.d (asD r), .d (.int b), .d (.lst ((WA.duF f).map D.int)), .own p (.l (found.map aD)), v4, v5]) ⟨[], _, _, WA.FK.nil ar, by simp, rfl⟩ ?_ ?_
    · rintro k e k0 k1 ⟨found, v4, v5, fk, fl, rfl⟩
      have k1 : k < 160 := k1
      walk_at "pu"
      rw [gA_du k0 k1]
      cases hf : f (k - 40) with
      | false =>
        rw [if_neg (by simp [WA.bi])]
        walk_at "pu"
        exact ⟨found, _, _, fk.no ar k0 k1 (fun z => by rw [hf] at z; cases z.1), by omega, rfl⟩
      | true =>
        rw [if_pos (by simp [WA.bi])]
        walk_at "pu"
        refine iteP (fun c => ?_) (fun c => ?_)
        rotate_left
        · walk_at "pu"
          exact ⟨found, _, _, fk.no ar k0 k1 (fun z => by omega), by omega, rfl⟩
        have fy := fk.yes ar k0 k1 hf c
        rcases List.eq_nil_or_concat found with rfl | ⟨ini, ⟨b2, l2⟩, rfl⟩
        · rw [WA.fst1_nil] at fy
          simp only [List.map_nil]
          walk_at "pu"
          refine ⟨by simp, ?_⟩
          walk_at "pu"
          exact ⟨_, _, _, fy, by simp; omega, rfl⟩
        · rw [List.concat_eq_append] at fk fl fy ⊢
          obtain ⟨l3, e3, _⟩ := fk.fi.cl (b2, l2) (List.mem_append_right _ List.mem_cons_self)
          have e3 : l2 = some l3 := e3
          subst e3
          rw [WA.fst1_snoc] at fy
          rw [List.length_append, List.length_singleton] at fl
          simp only [List.map_append, List.map_cons, List.map_nil]
          walk_at "pu"
          refine iteP (fun c2 => ?_) (fun c2 => ?_)
          · rw [if_pos c2] at fy
            walk_at "pu"
            refine ⟨_, .d (.int k), .d (.int (b - 40 + k)), fy, by simp; omega, ?_⟩
            simp only [List.map_append, List.map_cons, List.map_nil]
          · rw [if_neg c2] at fy
            walk_at "pu"
            refine ⟨by simp; omega, ?_⟩
            walk_at "pu"
            refine ⟨_, .d (.int k), .d (.int (b - 40 + k)), fy, by simp; omega, ?_⟩
            simp only [List.map_append, List.map_cons, List.map_nil]
    · rintro e ⟨found, v4, v5, fk, fl, rfl⟩
      walk_at "pu"
      refine op_ixL (d := .int (WA.bi (f 119))) (at_du f) ?_
      walk_at "pu"
      cases hf : f 119 with
      | false =>
        have e := fk.fin ar b0 hf
        subst e
        rw [if_neg (by simp [WA.bi])]
        walk_at "pr"
        refine sx_frz' 3 ?_
        walk_at "pu"
        refine op_eq (cn_arcs _) (cn_arcs _) (fun _ => h) (fun z => absurd rfl z)
      | true =>
        obtain ⟨ini, b2, e2, rfl, rfl⟩ := fk.finO ar b0 hf
        rw [if_pos (by simp [WA.bi])]
        simp only [List.map_append, List.map_cons, List.map_nil]
        walk_at "pr"
        refine sx_frz' 3 ?_
        walk_at "pu"
        refine op_eq (cn_arcs _) ?_ (fun _ => h) (fun z => absurd ?_ z)
        · have := cn_arcs (ini ++ [(b2, none)])
          simp only [asD, List.map_append, List.map_cons, List.map_nil] at this
          exact this
        · simp only [asD, List.map_append, List.map_cons, List.map_nil]
end
end K09
namespace K09
open PySem PySem.Spec PyProof.Rows L2 Evl Lay Pu
section
variable {P : Program} {w : World} {K : PySem.W.Frag} {mg : Str → Option Value} {base : Heap} {CB CT cL_arcs_gathered PL_arcs_gathered : Addr} {tkL : Tok}
variable {Tb : List (Addr × Str)}
/-! ### what is due -/
def duP (f : Int → Bool) (n : Nat) : List Int := (List.range n).map fun k : Nat => WA.bi (f ((k : Int) - 40))
theorem duP_all (f : Int → Bool) : duP f 160 = WA.duF f := rfl
theorem duP_succ (f : Int → Bool) (n : Nat) : duP f (n + 1) = duP f n ++ [WA.bi (f ((n : Int) - 40))] := by
  unfold duP
  rw [List.range_succ, List.map_append]
  rfl
theorem duP_len (f : Int → Bool) (n : Nat) : (duP f n).length = n := by unfold duP; rw [List.length_map, List.length_range]
def widF (base : Int) (r : List Arc) (low high : Int) (i : Int) : Bool := decide ((1 : Int) ∈ (rgL low (high + 1)).map fun l => WA.bi (WA.hb r (base + (i - l))))
theorem widF_iff {base : Int} {r : List Arc} {low high i : Int} : widF base r low high i = true ↔ ∃ l, low ≤ l ∧ l ≤ high ∧ WA.hit r (base + i - l) := by
  unfold widF
  rw [decide_eq_true_eq, List.mem_map]
  constructor
  · rintro ⟨l, hl, e⟩
    have hm := mem_rgL.mp hl
    have := WA.hb_iff.mp (WA.bi_one.mp e)
    exact ⟨l, hm.1, by omega, by rw [show base + i - l = base + (i - l) by omega]; exact this⟩
  · rintro ⟨l, h1, h2, h3⟩
    exact ⟨l, mem_rgL.mpr ⟨h1, by omega⟩, WA.bi_one.mpr (WA.hb_iff.mpr (by rw [show base + (i - l) = base + i - l by omega]; exact h3))⟩
def fDueW : PF := fun ds R _ => ∃ (base : Int) (r : List Arc) (low high : Int), ds = [kD base r, .int low, .int high] ∧ WA.KN base r ∧ -1000 ≤ low ∧ low ≤ 1000 ∧ -1000 ≤ high ∧ high ≤ 1000 ∧ R (.lst ((WA.duF (widF base r low high)).map D.int))
abbrev s__law_due_widen : Stmt := top 30
theorem sc__law_due_widen : FnScope ["known", "low", "high", "due", "at", "lines"] ["known", "low", "high"] (defScope s__law_due_widen) := ⟨rfl, rfl, rfl, by decide +kernel, rfl, by decide +kernel, by decide +kernel⟩
theorem ok_due_widen (T : Txt K mg CB tkL  ) (F : At K mg "_law_due_widen" s__law_due_widen ["known", "low", "high"]) (d__law_in : Def P w K mg base "_law_in" 1 ["known", "at"] (spP K Tb fIn)) : Def P w K mg base "_law_due_widen" 2 ["known", "low", "high"] (spP K Tb fDueW) := by
  refine defP F sc__law_due_widen (fun ds R er h => ?_) (fun f cdv Ar outer s H vs Q E hr => ⟨_, (pss_cons (ps_set (i := 3) sc__law_due_widen.nd rfl (Or.inl rfl) (pe_lst pa_nil))
      (pss_cons (ps_for (passes_of rfl) rfl (pi_range2 rfl T.n_range (pa_cons (pe_un un_neg pe_int) (pa_cons pe_int pa_nil))) (pg_name (i := 4) sc__law_due_widen.nd rfl (Or.inr rfl)) (pss_one (ps_expr (pe_bm PySem.F.plainAttrs_list PySem.F.slot_list_append PySem.F.type_list_append mt_append (pv 3) (pa_cons (pe_ifExp (pt_cmpR (r := rIn K false) op_in_seq pe_int (pe_lc (own := [("lines", 5)]) (g := gName 5) (tt := tYes) rfl sc__law_due_widen.nd (pi_range2 rfl T.n_range (pa_cons (pv 1) (pa_cons (pe_op op_add (pv 2) pe_int) pa_nil))) (blkOk_by (own := [("lines", 5)]) (N := ["known", "low", "high", "due", "at", "lines"]) (sc := defScope s__law_due_widen) (by decide +kernel)) (fun _ _ _ _ _ => (pg_name (i := 5) sc__law_due_widen.nd rfl (Or.inl rfl))) (fun _ _ _ _ _ => pts_nil) (fun _ _ _ _ _ => (pe_d d__law_in (hr.mono (by decide)) passL (pa_cons (pv 0) (pa_cons (pe_op op_sub (pv 4) (pv 5)) pa_nil))))) rfl) pe_int pe_int) pa_nil)))))
      (pss_one (ps_ret (pv 3))))), fun B W0 G0 ds R er h => ?_⟩)
  · obtain ⟨_, _, _, _, rfl, _⟩ := h; rfl
  · obtain ⟨b, r, low, high, rfl, kn, l0, l1, h0, h1, h⟩ := h
    walk_at "pu0"
    walk_at "own"
    walk_at "pu"
    intro p
    walk_at "pu"
    refine sx_for (it_rng2 ?_)
    walk_at "pu"
    refine ⟨⟨by decide, by decide⟩, ⟨by decide, by decide⟩, ?_⟩
    refine eachR (by decide) (fun i e => ∃ v4 v5, e = [.d (kD b r), .d (.int low), .d (.int high), .own p (.l ((duP (widF b r low high) (i + 40).toNat).map D.int)), v4, v5]) ⟨_, _, rfl⟩ ?_ ?_
    · rintro i e i0 i1 ⟨v4, v5, rfl⟩
      walk_at "pu"
      refine ev_ofF (ef_lcRM low (high + 1) (fun l => .int (WA.bi (WA.hb r (b + (i - l))))) (gm_name (by simp)) (it_rng2 ?_))
      walk_at "pu"
      refine ⟨⟨by omega, by omega⟩, ⟨by omega, by omega⟩, rfl, by omega, fun l _ _ => ?_, ?_⟩
      · walk_at "pu"
        exact ⟨b, r, _, rfl, kn, rfl⟩
      show OP _ _ _ (.lst ((rgL low (high + 1)).map (D.int ∘ fun l => WA.bi (WA.hb r (b + (i - l)))))) _
      rw [← List.map_map]
      refine op_inI ?_
      change ∃ c, D.bl (widF b r low high i) = .bl c ∧ _
      have en : (i + 1 + 40).toNat = (i + 40).toNat + 1 := by omega
      have ei : (((i + 40).toNat : Nat) : Int) - 40 = i := by omega
      have ed : ((duP (widF b r low high) (i + 40).toNat).map D.int).length < 16000000 := by rw [List.length_map, duP_len]; omega
      rw [en, duP_succ, ei, List.map_append]
      cases hw : widF b r low high i with
      | false =>
        walk_at "pu"
        refine ⟨ed, ?_⟩
        walk_at "pu"
        exact ⟨_, _, rfl⟩
      | true =>
        walk_at "pu"
        refine ⟨ed, ?_⟩
        walk_at "pu"
        exact ⟨_, _, rfl⟩
    · rintro e ⟨v4, v5, rfl⟩
      refine sx_frz' 3 ?_
      walk_at "pu"
      exact h
def fDueJ : PF := fun ds R _ => ∃ (base : Int) (r : List Arc) (pad : Int), ds = [kD base r, .int pad] ∧ WA.KN base r ∧ 0 ≤ pad ∧ pad ≤ 1000 ∧ ∀ f : Int → Bool, (∀ i, -40 ≤ i → i < 120 → (f i = true ↔ WA.near pad (WA.hit r) (base + i))) → R (.lst ((WA.duF f).map D.int))
abbrev s__law_due_joined : Stmt := top 31
theorem sc__law_due_joined : FnScope ["known", "pad", "due", "last", "place", "hole", "at"] ["known", "pad"] (defScope s__law_due_joined) := ⟨rfl, rfl, rfl, by decide +kernel, rfl, by decide +kernel, by decide +kernel⟩
theorem ok_due_joined (T : Txt K mg CB tkL  ) (F : At K mg "_law_due_joined" s__law_due_joined ["known", "pad"]) (d__law_in : Def P w K mg base "_law_in" 1 ["known", "at"] (spP K Tb fIn)) : Def P w K mg base "_law_due_joined" 2 ["known", "pad"] (spP K Tb fDueJ) := by
  refine defP F sc__law_due_joined (fun ds R er h => ?_) (fun f cdv Ar outer s H vs Q E hr => ⟨_, (pss_cons (ps_setLc (i := 2) (own := [("at", 6)]) (g := gName 6) (tt := tYes) rfl sc__law_due_joined.nd rfl rfl (sw_true rfl rfl rfl (by decide +kernel)) (pi_range2 rfl T.n_range (pa_cons (pe_un un_neg pe_int) (pa_cons pe_int pa_nil))) (blkOk_by (own := [("at", 6)]) (N := ["known", "pad", "due", "last", "place", "hole", "at"]) (sc := defScope s__law_due_joined) (by decide +kernel)) (fun _ _ _ _ _ => (pg_name (i := 6) sc__law_due_joined.nd rfl (Or.inl rfl))) (fun _ _ _ _ _ => pts_nil) (fun _ _ _ _ _ => (pe_d d__law_in (hr.mono (by decide)) passL (pa_cons (pv 0) (pa_cons (pv 6) pa_nil)))))
      (pss_cons (ps_set (i := 3) sc__law_due_joined.nd rfl (Or.inl rfl) pe_non)
      (pss_cons (ps_for (passes_of rfl) rfl (pi_range1 rfl T.n_range (pa_cons pe_int pa_nil)) (pg_name (i := 4) sc__law_due_joined.nd rfl (Or.inl rfl)) (pss_one (ps_if (PW.pt (pw_and (pt_cmpR op_eq (pe_ix (r := rIxL K) ix_list (pv 2) (pv 4) (fun _ _ => rfl)) pe_int (nomark _)) (pw_and1 (pt_cmpR op_eq (pe_d d__law_in (hr.mono (by decide)) (passes_call (takes_of rfl rfl rfl rfl) (fun _ _ _ _ h => h)) (pa_cons (pv 0) (pa_cons (pe_op op_sub (pv 4) pe_int) pa_nil))) pe_int (nomark _))))) (pss_cons (ps_if (PW.pt (pw_and (pt_cmpR op_notN1 (pv 3) pe_non (nomark _)) (pw_and1 (pt_cmpR op_le (pe_op op_sub (pe_op op_sub (pv 4) (pv 3)) pe_int) (pv 1) (nomark _))))) (pss_one (ps_for (passes_of rfl) rfl (pi_range2 rfl T.n_range (pa_cons (pv 3) (pa_cons (pv 4) pa_nil))) (pg_name (i := 5) sc__law_due_joined.nd rfl (Or.inl rfl)) (pss_one (ps_asg pe_int (pg_sub (pv 2) (pv 5) set_list))))) pss_nil)
      (pss_one (ps_set (i := 3) sc__law_due_joined.nd rfl (Or.inl rfl) (pv 4)))) pss_nil)))
      (pss_one (ps_ret (pv 2)))))), fun B W0 G0 ds R er h => ?_⟩)
  · obtain ⟨_, _, _, rfl, _⟩ := h; rfl
  · obtain ⟨b, r, pad, rfl, kn, p0, p1, h⟩ := h
    walk_at "pu0"
    walk_at "own"
    refine ef_lcRM (-40) 120 (fun i => .int (WA.bi (WA.hb r (b + i)))) (gm_name (by simp)) (it_rng2 ?_)
    walk_at "pu"
    refine ⟨⟨by decide, by decide⟩, ⟨by decide, by decide⟩, rfl, by decide, fun i _ _ => ?_, ?_⟩
    · walk_at "pu"
      exact ⟨b, r, _, rfl, kn, rfl⟩
    intro p
    have e0 : (rgL (-40) 120).map (fun i => D.int (WA.bi (WA.hb r (b + i)))) = (WA.duF fun i => WA.hb r (b + i)).map D.int := by
      unfold rgL WA.duF
      rw [List.map_map, List.map_map]
      refine List.map_congr_left fun k _ => ?_
      show D.int (WA.bi (WA.hb r (b + (-40 + (k : Int))))) = D.int (WA.bi (WA.hb r (b + ((k : Int) - 40))))
      rw [show b + (-40 + (k : Int)) = b + ((k : Int) - 40) by omega]
    rw [e0]
    walk_at "pu"
    refine sx_for (it_rng1 ?_)
    walk_at "pu"
    refine ⟨by decide, by decide, ?_⟩
    refine eachR (by decide) (fun k e => ∃ g last v4 v5 v6, WA.JI b pad r k g last ∧ e = [.d (kD b r), .d (.int pad), .own p (.l ((WA.duF g).map D.int)), .d (oI last), v4, v5, v6]) ⟨_, none, _, _, _, WA.JI.nil kn, rfl⟩ ?_ ?_
    · rintro k e k0 k1 ⟨g, last, v4, v5, v6, ji, rfl⟩
      have hl : (WA.duF g).length = 160 := WA.duF_len
      have hat := ji.at_ k0 k1
      walk_at "pu"
      rw [gA_du k0 k1]
      cases hg : g (k - 40) with
      | false =>
        have hn : ¬ WA.hit r (b + (k - 40)) := fun z => by rw [hat.mpr z] at hg; cases hg
        rw [if_neg (by simp [WA.bi])]
        walk_at "pu"
        exact ⟨g, last, _, _, _, ji.no hn, rfl⟩
      | true =>
        have hy := hat.mp hg
        rw [if_pos (by simp [WA.bi])]
        walk_at "pu"
        refine ⟨b, r, _, rfl, kn, ?_⟩
        rw [WA.hb_iff.mpr hy]
        walk_at "pu"
        rw [if_pos (by simp [WA.bi])]
        cases last with
        | none =>
          walk_at "pu"
          exact ⟨g, some k, _, _, _, ji.far k0 hy (fun m z => by cases z), rfl⟩
        | some m =>
          obtain ⟨m0, m1, _, _⟩ := ji.s m rfl
          walk_at "pu"
          refine iteP (fun c => ?_) (fun c => ?_)
          · walk_at "pu"
            refine sx_for (it_rng2 ?_)
            walk_at "pu"
            refine ⟨⟨by omega, by omega⟩, ⟨by omega, by omega⟩, ?_⟩
            refine eachR (by omega) (fun j e => ∃ g' v5, (∀ i, -40 ≤ i → i < 120 → (g' i = true ↔ g i = true ∨ (m ≤ i + 40 ∧ i + 40 < j))) ∧ e = [.d (kD b r), .d (.int pad), .own p (.l ((WA.duF g').map D.int)), .d (.int m), .d (.int k), v5, v6]) ⟨g, _, fun i _ _ => ⟨.inl, fun z => z.elim id fun z => by omega⟩, rfl⟩ ?_ ?_
            · rintro j e j0 j1 ⟨g', v5, hg', rfl⟩
              have hl : (WA.duF g').length = 160 := WA.duF_len
              walk_at "pu"
              refine ⟨⟨by omega, by omega⟩, ?_⟩
              walk_at "pu"
              rw [WA.duF_set (by omega)]
              refine ⟨_, _, fun i i0 i1 => ?_, rfl⟩
              rw [Bool.or_eq_true, hg' i i0 i1, decide_eq_true_eq, or_assoc]
              refine or_congr Iff.rfl ⟨fun q => ?_, fun q => ?_⟩
              · rcases q with q | q <;> omega
              · by_cases c : i = (j.toNat : Int) - 40
                · exact .inr c
                · exact .inl (by omega)
            · rintro e ⟨g', v5, hg', rfl⟩
              walk_at "pu"
              exact ⟨g', some k, _, _, _, ji.near_ k0 hy c hg', rfl⟩
          · walk_at "pu"
            exact ⟨g, some k, _, _, _, ji.far k0 hy (fun m' z => by cases z; exact c), rfl⟩
    · rintro e ⟨g, last, v4, v5, v6, ji, rfl⟩
      refine sx_frz' 2 ?_
      walk_at "pu"
      exact h g (ji.fin kn p0)
def pu1F (base : Int) (r : List Arc) (c i l : Int) : Bool := decide ((1 : Int) ∈ (rgL 0 (c + 1)).map fun p => WA.bi (WA.hb r (base + (i + l + p))))
def pulG (base : Int) (r : List Arc) (a j c i : Int) : Bool := (rgL a j).all (pu1F base r c i)
theorem rgL_succ {lo hi : Int} (h : lo ≤ hi) : rgL lo (hi + 1) = rgL lo hi ++ [hi] := by
  unfold rgL
  rw [show (hi + 1 - lo).toNat = (hi - lo).toNat + 1 by omega, List.range_succ, List.map_append, List.map_cons, List.map_nil, show lo + (((hi - lo).toNat : Nat) : Int) = hi by omega]
theorem pulG_iff {base : Int} {r : List Arc} {a b c i : Int} : pulG base r a (b + 1) c i = true ↔ ∀ l, a ≤ l → l ≤ b → ∃ p, 0 ≤ p ∧ p ≤ c ∧ WA.hit r (base + i + l + p) := by
  unfold pulG
  rw [List.all_eq_true]
  have one : ∀ l, pu1F base r c i l = true ↔ ∃ p, 0 ≤ p ∧ p ≤ c ∧ WA.hit r (base + i + l + p) := fun l => by
    unfold pu1F
    rw [decide_eq_true_eq, List.mem_map]
    constructor
    · rintro ⟨p, hp, e⟩
      have hm := mem_rgL.mp hp
      exact ⟨p, hm.1, by omega, by rw [show base + i + l + p = base + (i + l + p) by omega]; exact WA.hb_iff.mp (WA.bi_one.mp e)⟩
    · rintro ⟨p, h1, h2, h3⟩
      exact ⟨p, mem_rgL.mpr ⟨h1, by omega⟩, WA.bi_one.mpr (WA.hb_iff.mpr (by rw [show base + (i + l + p) = base + i + l + p by omega]; exact h3))⟩
  exact ⟨fun h l l0 l1 => (one l).mp (h l (mem_rgL.mpr ⟨l0, by omega⟩)), fun h l hl => (one l).mpr (h l (mem_rgL.mp hl).1 (by have := (mem_rgL.mp hl).2; omega))⟩
theorem op_notInI {c : Cp} {P : D → Prop} {k : Int} {ns : List Int} (h : P (.bl (!decide (k ∈ ns)))) : OP c (rIn c.K true) (.int k) (.lst (ns.map D.int)) P := by
  refine op_inL rfl ?_ ?_
  · rw [List.all_map, List.all_eq_true]
    intro _ _
    rfl
  · rw [if_pos rfl, inD_int]
    exact h
def fDueP : PF := fun ds R _ => ∃ (base : Int) (r : List Arc) (a b c : Int), ds = [kD base r, .int a, .int b, .int c] ∧ WA.KN base r ∧ 0 ≤ a ∧ a ≤ b ∧ b ≤ 1000 ∧ 0 ≤ c ∧ c ≤ 1000 ∧ R (.lst ((WA.duF (pulG base r a (b + 1) c)).map D.int))
abbrev s__law_due_pulled : Stmt := top 32
theorem sc__law_due_pulled : FnScope ["known", "a", "b", "c", "due", "at", "good", "lines", "pad"] ["known", "a", "b", "c"] (defScope s__law_due_pulled) := ⟨rfl, rfl, rfl, by decide +kernel, rfl, by decide +kernel, by decide +kernel⟩
theorem ok_due_pulled (T : Txt K mg CB tkL  ) (F : At K mg "_law_due_pulled" s__law_due_pulled ["known", "a", "b", "c"]) (d__law_in : Def P w K mg base "_law_in" 1 ["known", "at"] (spP K Tb fIn)) : Def P w K mg base "_law_due_pulled" 2 ["known", "a", "b", "c"] (spP K Tb fDueP) := by
  refine defP F sc__law_due_pulled (fun ds R er h => ?_) (fun f cdv Ar outer s H vs Q E hr => ⟨_, (pss_cons (ps_set (i := 4) sc__law_due_pulled.nd rfl (Or.inl rfl) (pe_lst pa_nil))
      (pss_cons (ps_for (passes_of rfl) rfl (pi_range2 rfl T.n_range (pa_cons (pe_un un_neg pe_int) (pa_cons pe_int pa_nil))) (pg_name (i := 5) sc__law_due_pulled.nd rfl (Or.inr rfl)) (pss_cons (ps_set (i := 6) sc__law_due_pulled.nd rfl (Or.inl rfl) pe_int)
      (pss_cons (ps_for (passes_of rfl) rfl (pi_range2 rfl T.n_range (pa_cons (pv 1) (pa_cons (pe_op op_add (pv 2) pe_int) pa_nil))) (pg_name (i := 7) sc__law_due_pulled.nd rfl (Or.inr rfl)) (pss_one (ps_if (pt_cmpR (r := rIn K true) op_notIn_seq pe_int (pe_lc (own := [("pad", 8)]) (g := gName 8) (tt := tYes) rfl sc__law_due_pulled.nd (pi_range1 rfl T.n_range (pa_cons (pe_op op_add (pv 3) pe_int) pa_nil)) (blkOk_by (own := [("pad", 8)]) (N := ["known", "a", "b", "c", "due", "at", "good", "lines", "pad"]) (sc := defScope s__law_due_pulled) (by decide +kernel)) (fun _ _ _ _ _ => (pg_name (i := 8) sc__law_due_pulled.nd rfl (Or.inl rfl))) (fun _ _ _ _ _ => pts_nil) (fun _ _ _ _ _ => (pe_d d__law_in (hr.mono (by decide)) passL (pa_cons (pv 0) (pa_cons (pe_op op_add (pe_op op_add (pv 5) (pv 7)) (pv 8)) pa_nil))))) rfl) (pss_one (ps_set (i := 6) sc__law_due_pulled.nd rfl (Or.inl rfl) pe_int)) pss_nil)))
      (pss_one (ps_expr (pe_bm PySem.F.plainAttrs_list PySem.F.slot_list_append PySem.F.type_list_append mt_append (pv 4) (pa_cons (pv 6) pa_nil)))))))
      (pss_one (ps_ret (pv 4))))), fun B W0 G0 ds R er h => ?_⟩)
  · obtain ⟨_, _, _, _, _, rfl, _⟩ := h; rfl
  · obtain ⟨bs, r, a, b, c, rfl, kn, a0, ab, b1, c0, c1, h⟩ := h
    walk_at "pu0"
    walk_at "own"
    walk_at "pu"
    intro p
    walk_at "pu"
    refine sx_for (it_rng2 ?_)
    walk_at "pu"
    refine ⟨⟨by decide, by decide⟩, ⟨by decide, by decide⟩, ?_⟩
    refine eachR (by decide) (fun i e => ∃ v5 v6 v7 v8, e = [.d (kD bs r), .d (.int a), .d (.int b), .d (.int c), .own p (.l ((duP (pulG bs r a (b + 1) c) (i + 40).toNat).map D.int)), v5, v6, v7, v8]) ⟨_, _, _, _, rfl⟩ ?_ ?_
    · rintro i e i0 i1 ⟨v5, v6, v7, v8, rfl⟩
      walk_at "pu"
      refine sx_for (it_rng2 ?_)
      walk_at "pu"
      refine ⟨⟨by omega, by omega⟩, ⟨by omega, by omega⟩, ?_⟩
      refine eachR (by omega) (fun j e => ∃ v7 v8, e = [.d (kD bs r), .d (.int a), .d (.int b), .d (.int c), .own p (.l ((duP (pulG bs r a (b + 1) c) (i + 40).toNat).map D.int)), .d (.int i), .d (.int (WA.bi (pulG bs r a j c i))), v7, v8]) ⟨v7, v8, ?_⟩ ?_ ?_
      · unfold pulG rgL
        rw [Int.sub_self]
        rfl
      · rintro j e j0 j1 ⟨v7, v8, rfl⟩
        have gs : pulG bs r a (j + 1) c i = (pulG bs r a j c i && pu1F bs r c i j) := by
          unfold pulG
          rw [rgL_succ j0, List.all_append, List.all_cons, List.all_nil, Bool.and_true]
        rw [gs]
        walk_at "pu"
        refine ev_ofF (ef_lcRM 0 (c + 1) (fun p => .int (WA.bi (WA.hb r (bs + (i + j + p))))) (gm_name (by simp)) (it_rng1 ?_))
        walk_at "pu"
        refine ⟨by omega, by omega, rfl, by omega, fun l _ _ => ?_, ?_⟩
        · walk_at "pu"
          exact ⟨bs, r, _, rfl, kn, rfl⟩
        show OP _ _ _ (.lst ((rgL 0 (c + 1)).map (D.int ∘ fun p => WA.bi (WA.hb r (bs + (i + j + p)))))) _
        rw [← List.map_map]
        refine op_notInI ?_
        change ∃ z, D.bl (!pu1F bs r c i j) = .bl z ∧ _
        cases hw : pu1F bs r c i j with
        | false =>
          rw [Bool.and_false]
          walk_at "pu"
          exact ⟨_, _, rfl⟩
        | true =>
          rw [Bool.and_true]
          walk_at "pu"
          exact ⟨_, _, rfl⟩
      · rintro e ⟨v7, v8, rfl⟩
        have en : (i + 1 + 40).toNat = (i + 40).toNat + 1 := by omega
        have ei : (((i + 40).toNat : Nat) : Int) - 40 = i := by omega
        walk_at "pu"
        refine ⟨by rw [List.length_map, duP_len]; omega, ?_⟩
        rw [en, duP_succ, ei, List.map_append]
        walk_at "pu"
        exact ⟨_, _, _, _, rfl⟩
    · rintro e ⟨v5, v6, v7, v8, rfl⟩
      refine sx_frz' 4 ?_
      walk_at "pu"
      exact h
end
end K09
namespace K09
open PySem PySem.Spec PyProof.Rows L2 Evl Lay Pu
section
variable {P : Program} {w : World} {K : PySem.W.Frag} {mg : Str → Option Value} {base : Heap} {CB CT cL_arcs_gathered PL_arcs_gathered : Addr} {tkL : Tok}
variable {Tb : List (Addr × Str)}
/-! ### pulled, moved -/
theorem norm_len (rows : List Arc) : (WA.norm rows).length ≤ rows.length := by
  unfold WA.norm WA.gfold
  have := gfold_len (rows.mergeSort fun a b => decide (a.1 ≤ b.1)) []
  exact Nat.le_trans this (by simp)
theorem pulled_len (a b c : Int) (r : List Arc) : (WA.pulled a b c r).length ≤ r.length := by
  unfold WA.pulled
  have h1 := norm_len ((WA.joined c r).flatMap (WA.pul1 a b c))
  have h2 := flat_len (pul1_len a b c) (WA.joined c r)
  have h3 := joined_len c r
  omega
def fPulledOk : PF := fun ds R _ => ∃ (base : Int) (r : List Arc) (low high pad : Int), ds = [kD base r, .int base, .int low, .int high, .int pad] ∧ WA.KN base r ∧ -20 ≤ low ∧ low ≤ 20 ∧ -20 ≤ high ∧ high ≤ 20 ∧ 0 ≤ pad ∧ pad ≤ 20 ∧ R (.bl true)
abbrev s__law_pulled_ok : Stmt := top 33
theorem sc__law_pulled_ok : FnScope ["r", "base", "low", "high", "pad", "a", "b", "due", "got", "arc"] ["r", "base", "low", "high", "pad"] (defScope s__law_pulled_ok) := ⟨rfl, rfl, rfl, by decide +kernel, rfl, by decide +kernel, by decide +kernel⟩
theorem ok_pulled_ok (T : Txt K mg CB tkL  ) (F : At K mg "_law_pulled_ok" s__law_pulled_ok ["r", "base", "low", "high", "pad"]) (d__law_due_pulled : Def P w K mg base "_law_due_pulled" 2 ["known", "a", "b", "c"] (spP K Tb fDueP)) (d_arcs_pulled : Def P w K mg base "arcs_pulled" 6 ["r", "a", "b", "c"] (spN K Tb fPulled)) (d__law_arcs_are : Def P w K mg base "_law_arcs_are" 2 ["got", "base", "due"] (spP K Tb fAre)) : Def P w K mg base "_law_pulled_ok" 7 ["r", "base", "low", "high", "pad"] (spP K Tb fPulledOk) := by
  refine defP F sc__law_pulled_ok (fun ds R er h => ?_) (fun f cdv Ar outer s H vs Q E hr => ⟨_, (pss_cons (ps_set (i := 5) sc__law_pulled_ok.nd rfl (Or.inl rfl) (pe_callB c_abs rfl T.n_abs (by decide +kernel) (pa_cons (pv 2) pa_nil)))
      (pss_cons (ps_set (i := 6) sc__law_pulled_ok.nd rfl (Or.inl rfl) (pe_op op_add (pv 5) (pe_op op_fdiv (pe_callB c_abs rfl T.n_abs (by decide +kernel) (pa_cons (pv 3) pa_nil)) pe_int)))
      (pss_cons (ps_set (i := 7) sc__law_pulled_ok.nd rfl (Or.inl rfl) (pe_d d__law_due_pulled (hr.mono (by decide)) (passes_call (takes_of rfl rfl rfl rfl) (fun _ _ _ _ h => h)) (pa_cons (pv 0) (pa_cons (pv 5) (pa_cons (pv 6) (pa_cons (pv 4) pa_nil))))))
      (pss_cons (ps_set (i := 8) sc__law_pulled_ok.nd rfl (Or.inl rfl) (pe_d d_arcs_pulled (hr.mono (by decide)) (passes_call (takes_of rfl rfl rfl rfl) (fun _ _ _ _ h => h)) (pa_cons (pe_callTy (r := Lay.rList K) c_list rfl T.n_list (by decide +kernel) (pa_cons (pe_ix (r := rIxL K) ix_list (pv 0) pe_int (fun _ _ => rfl)) pa_nil)) (pa_cons (pv 5) (pa_cons (pv 6) (pa_cons (pv 4) pa_nil))))))
      (pss_cons (ps_if (pt_not (pt_val (pe_d d__law_arcs_are (hr.mono (by decide)) (passes_call (takes_of rfl rfl rfl rfl) (fun _ _ _ _ h => h)) (pa_cons (pv 8) (pa_cons (pv 1) (pa_cons (pv 7) pa_nil)))))) (pss_one (ps_ret pe_bl)) pss_nil)
      (pss_cons (ps_expr (pe_bm PySem.F.plainAttrs_list PySem.F.slot_list_append PySem.F.type_list_append mt_append (pv 8) (pa_cons (pe_tup (pa_cons (pe_op op_add (pv 1) pe_int) (pa_cons pe_non pa_nil))) pa_nil)))
      (pss_one (ps_ret (pe_d d__law_arcs_are (hr.mono (by decide)) (passes_call (takes_of rfl rfl rfl rfl) (fun _ _ _ _ h => h)) (pa_cons (pe_d d_arcs_pulled (hr.mono (by decide)) (passes_call (takes_of rfl rfl rfl rfl) (fun _ _ _ _ h => h)) (pa_cons (pe_lc (own := [("arc", 9)]) (g := gName 9) (tt := tYes) rfl sc__law_pulled_ok.nd (pi_list (pe_ix (r := rIxL K) ix_list (pv 0) pe_int (fun _ _ => rfl))) (blkOk_by (own := [("arc", 9)]) (N := ["r", "base", "low", "high", "pad", "a", "b", "due", "got", "arc"]) (sc := defScope s__law_pulled_ok) (by decide +kernel)) (fun _ _ _ _ _ => (pg_name (i := 9) sc__law_pulled_ok.nd rfl (Or.inl rfl))) (fun _ _ _ _ _ => pts_nil) (fun _ _ _ _ _ => (pe_callTy (r := Lay.rList K) c_list rfl T.n_list (by decide +kernel) (pa_cons (pv 9) pa_nil)))) (pa_cons (pv 5) (pa_cons (pv 6) (pa_cons (pv 4) pa_nil))))) (pa_cons (pv 1) (pa_cons (pv 7) pa_nil)))))))))))), fun B W0 G0 ds R er h => ?_⟩)
  · obtain ⟨_, _, _, _, _, rfl, _⟩ := h; rfl
  · obtain ⟨bs, r, low, high, pad, rfl, kn, l0, l1, h0, h1, p0, p1, h⟩ := h
    have hlen : r.length ≤ 10000 := by have := kn.len; omega
    walk_at "pu0"
    generalize ha : (if low < 0 then -low else low) = a
    have a0 : 0 ≤ a ∧ a ≤ 20 := by split at ha <;> omega
    generalize hb : a + (if high < 0 then -high else high) / 2 = b
    have b0 : a ≤ b ∧ b ≤ 40 := by split at hb <;> omega
    have ar : WA.Are bs (WA.pulled a b pad r) (pulG bs r a (b + 1) pad) := WA.are_pulled kn a0.1 a0.2 b0.1 p0 p1 fun i _ _ => pulG_iff
    refine ⟨bs, r, a, b, pad, rfl, kn, a0.1, b0.1, by omega, p0, by omega, ?_⟩
    walk_at "pg"
    walk_at "own"
    walk_at "pu"
    refine ⟨false, r, a, b, pad, rfl, kn.nf, hlen, p0, ?_⟩
    intro p
    walk_at "pu"
    refine ⟨_, bs, _, rfl, ar, kn.b0, kn.b1, ?_⟩
    walk_at "pu"
    refine ⟨by have := pulled_len a b pad r; rw [List.length_map]; omega, ?_⟩
    walk_at "pu"
    refine ev_ofF (ef_lcM r aD aL (gm_name (by simp)) (it_list ?_))
    walk_at "pu"
    refine ⟨rfl, by omega, fun i x hx => ?_, ?_⟩
    · walk_at "pu"
      exact rfl
    walk_at "pu"
    refine ⟨true, r, a, b, pad, rfl, kn.nf, hlen, p0, ?_⟩
    walk_at "pu"
    refine ⟨_, bs, _, rfl, ar, kn.b0, kn.b1, ?_⟩
    exact h
def fMovesOk : PF := fun ds R _ => ∃ (base : Int) (r : List Arc) (low high pad : Int), ds = [kD base r, .int base, .int low, .int high, .int pad] ∧ WA.KN base r ∧ -9 ≤ low ∧ low ≤ high ∧ high ≤ 25 ∧ 0 ≤ pad ∧ pad ≤ 20 ∧ R (.bl true)
abbrev s__law_moves_ok : Stmt := top 35
theorem sc__law_moves_ok : FnScope ["r", "base", "low", "high", "pad", "one"] ["r", "base", "low", "high", "pad"] (defScope s__law_moves_ok) := ⟨rfl, rfl, rfl, by decide +kernel, rfl, by decide +kernel, by decide +kernel⟩
theorem ok_moves_ok (T : Txt K mg CB tkL  ) (F : At K mg "_law_moves_ok" s__law_moves_ok ["r", "base", "low", "high", "pad"]) (d__law_due_widen : Def P w K mg base "_law_due_widen" 2 ["known", "low", "high"] (spP K Tb fDueW)) (d__law_due_joined : Def P w K mg base "_law_due_joined" 2 ["known", "pad"] (spP K Tb fDueJ)) (d_arcs_widen : Def P w K mg base "arcs_widen" 6 ["r", "low", "high"] (spN K Tb fWiden)) (d_arcs_shift : Def P w K mg base "arcs_shift" 7 ["r", "lines"] (spN K Tb fShift)) (d_arcs_joined : Def P w K mg base "arcs_joined" 1 ["r", "pad"] (spN K Tb fJoined)) (d__law_arcs_are : Def P w K mg base "_law_arcs_are" 2 ["got", "base", "due"] (spP K Tb fAre)) : Def P w K mg base "_law_moves_ok" 8 ["r", "base", "low", "high", "pad"] (spP K Tb fMovesOk) := by
  refine defP F sc__law_moves_ok (fun ds R er h => ?_) (fun f cdv Ar outer s H vs Q E hr => ⟨_, (pss_cons (ps_set (i := 5) sc__law_moves_ok.nd rfl (Or.inl rfl) (pe_callTy (r := Lay.rList K) c_list rfl T.n_list (by decide +kernel) (pa_cons (pe_ix (r := rIxL K) ix_list (pv 0) pe_int (fun _ _ => rfl)) pa_nil)))
      (pss_cons (ps_if (pt_not (pt_val (pe_d d__law_arcs_are (hr.mono (by decide)) (passes_call (takes_of rfl rfl rfl rfl) (fun _ _ _ _ h => h)) (pa_cons (pe_d d_arcs_widen (hr.mono (by decide)) (passes_call (takes_of rfl rfl rfl rfl) (fun _ _ _ _ h => h)) (pa_cons (pv 5) (pa_cons (pv 2) (pa_cons (pv 3) pa_nil)))) (pa_cons (pv 1) (pa_cons (pe_d d__law_due_widen (hr.mono (by decide)) (passes_call (takes_of rfl rfl rfl rfl) (fun _ _ _ _ h => h)) (pa_cons (pv 0) (pa_cons (pv 2) (pa_cons (pv 3) pa_nil)))) pa_nil)))))) (pss_one (ps_ret pe_bl)) pss_nil)
      (pss_cons (ps_if (pt_not (pt_val (pe_d d__law_arcs_are (hr.mono (by decide)) (passes_call (takes_of rfl rfl rfl rfl) (fun _ _ _ _ h => h)) (pa_cons (pe_d d_arcs_shift (hr.mono (by decide)) (passes_call (takes_of rfl rfl rfl rfl) (fun _ _ _ _ h => h)) (pa_cons (pv 5) (pa_cons (pv 2) pa_nil))) (pa_cons (pv 1) (pa_cons (pe_d d__law_due_widen (hr.mono (by decide)) (passes_call (takes_of rfl rfl rfl rfl) (fun _ _ _ _ h => h)) (pa_cons (pv 0) (pa_cons (pv 2) (pa_cons (pv 2) pa_nil)))) pa_nil)))))) (pss_one (ps_ret pe_bl)) pss_nil)
      (pss_cons (ps_if (pt_not (pt_val (pe_d d__law_arcs_are (hr.mono (by decide)) (passes_call (takes_of rfl rfl rfl rfl) (fun _ _ _ _ h => h)) (pa_cons (pe_d d_arcs_joined (hr.mono (by decide)) (passes_call (takes_of rfl rfl rfl rfl) (fun _ _ _ _ h => h)) (pa_cons (pv 5) (pa_cons (pv 4) pa_nil))) (pa_cons (pv 1) (pa_cons (pe_d d__law_due_joined (hr.mono (by decide)) (passes_call (takes_of rfl rfl rfl rfl) (fun _ _ _ _ h => h)) (pa_cons (pv 0) (pa_cons (pv 4) pa_nil))) pa_nil)))))) (pss_one (ps_ret pe_bl)) pss_nil)
      (pss_one (ps_ret (pe_cmpR (r := rEqD K) (op_eqD hr.units) (pv 5) (pe_ix (r := rIxL K) ix_list (pv 0) pe_int (fun _ _ => rfl)) (nomark _)))))))), fun B W0 G0 ds R er h => ?_⟩)
  · obtain ⟨_, _, _, _, _, rfl, _⟩ := h; rfl
  · obtain ⟨bs, r, low, high, pad, rfl, kn, l0, l1, h1, p0, p1, h⟩ := h
    have hlen : r.length ≤ 10000 := by have := kn.len; omega
    walk_at "pu0"
    walk_at "set"
    walk_at "pu"
    refine ⟨r, low, high, rfl, kn.nf.o, l1, hlen, ?_⟩
    walk_at "pu"
    refine ⟨bs, r, low, high, rfl, kn, by omega, by omega, by omega, by omega, ?_⟩
    walk_at "pu"
    refine ⟨_, bs, _, rfl, WA.are_widen kn l1 l0 h1 fun i _ _ => widF_iff, kn.b0, kn.b1, ?_⟩
    walk_at "pu"
    refine ⟨r, low, rfl, kn.nf.o, hlen, ?_⟩
    walk_at "pu"
    refine ⟨bs, r, low, low, rfl, kn, by omega, by omega, by omega, by omega, ?_⟩
    walk_at "pu"
    refine ⟨_, bs, _, rfl, WA.are_widen kn (Int.le_refl _) l0 (by omega) fun i _ _ => widF_iff, kn.b0, kn.b1, ?_⟩
    walk_at "pu"
    refine ⟨false, r, pad, rfl, kn.nf, hlen, ?_⟩
    walk_at "pu"
    refine ⟨bs, r, pad, rfl, kn, p0, by omega, fun f hf => ?_⟩
    walk_at "pu"
    refine ⟨_, bs, _, rfl, WA.are_joined kn p0 hf, kn.b0, kn.b1, ?_⟩
    walk_at "pu"
    exact op_eq (cn_arcs _) (cn_arcs _) (fun _ => h) (fun z => absurd rfl z)
end
end K09
namespace K09
open PySem PySem.Spec PyProof.Rows L2 Evl Lay Pu
section
variable {P : Program} {w : World} {K : PySem.W.Frag} {mg : Str → Option Value} {base : Heap} {CB CT cL_arcs_gathered PL_arcs_gathered : Addr} {tkL : Tok}
variable {Tb : List (Addr × Str)}
/-! ### the lines told -/
theorem lt_uniq : ∀ {xs ys : List Int}, xs.Pairwise (fun a b => a < b) → ys.Pairwise (fun a b => a < b) → (∀ x, x ∈ xs ↔ x ∈ ys) → xs = ys
  | [], [], _, _, _ => rfl
  | [], y :: ys, _, _, h => absurd ((h y).mpr List.mem_cons_self) List.not_mem_nil
  | x :: xs, [], _, _, h => absurd ((h x).mp List.mem_cons_self) List.not_mem_nil
  | x :: xs, y :: ys, h1, h2, h => by
    obtain ⟨p1, q1⟩ := List.pairwise_cons.mp h1
    obtain ⟨p2, q2⟩ := List.pairwise_cons.mp h2
    have e : x = y := by
      rcases List.mem_cons.mp ((h x).mp List.mem_cons_self) with a | a
      · exact a
      · rcases List.mem_cons.mp ((h y).mpr List.mem_cons_self) with b | b
        · exact b.symm
        · have := p1 y b
          have := p2 x a
          omega
    subst e
    congr 1
    refine lt_uniq q1 q2 fun z => ⟨fun hz => ?_, fun hz => ?_⟩
    · rcases List.mem_cons.mp ((h z).mp (List.mem_cons_of_mem _ hz)) with a | a
      · have := p1 z hz
        omega
      · exact a
    · rcases List.mem_cons.mp ((h z).mpr (List.mem_cons_of_mem _ hz)) with a | a
      · have := p2 z hz
        omega
      · exact a
theorem rng_lt (lo hi : Int) : (rngI lo hi).Pairwise (fun a b => a < b) := by
  unfold rngI
  refine List.pairwise_map.mpr (List.pairwise_lt_range.imp fun h => ?_)
  omega
theorem rgL_lt (lo hi : Int) : (rgL lo hi).Pairwise (fun a b => a < b) := by
  unfold rgL
  refine List.pairwise_map.mpr (List.pairwise_lt_range.imp fun h => ?_)
  omega
theorem end_iff {a : Arc} {t x : Int} (h : a.1 ≤ x) : x ≤ endOf t a.2 ↔ WA.inA a x ∧ x ≤ t := by
  obtain ⟨f, l⟩ := a
  unfold WA.inA endOf
  cases l with
  | none => exact ⟨fun q => ⟨⟨h, fun e z => by cases z⟩, q⟩, fun q => q.2⟩
  | some l =>
    dsimp only
    constructor
    · intro q
      split at q
      · exact ⟨⟨h, fun e z => by cases z; omega⟩, q⟩
      · exact ⟨⟨h, fun e z => by cases z; exact q⟩, by omega⟩
    · rintro ⟨⟨_, q⟩, q2⟩
      have := q l rfl
      split <;> omega
theorem mem_lines {r : List Arc} {t x : Int} : x ∈ linesOf r t ↔ WA.hit r x ∧ x ≤ t := by
  unfold linesOf
  rw [List.mem_flatMap]
  constructor
  · rintro ⟨a, ha, h⟩
    obtain ⟨h1, h2⟩ := mem_rng.mp h
    have := (end_iff h1).mp h2
    exact ⟨⟨a, ha, this.1⟩, this.2⟩
  · rintro ⟨⟨a, ha, h⟩, h2⟩
    exact ⟨a, ha, mem_rng.mpr ⟨h.1, (end_iff h.1).mpr ⟨h, h2⟩⟩⟩
theorem lines_lt {t : Int} : ∀ {r : List Arc}, WA.NF r → (linesOf r t).Pairwise (fun a b => a < b)
  | [], _ => List.Pairwise.nil
  | a :: r, h => by
    show (rngI a.1 (endOf t a.2) ++ linesOf r t).Pairwise _
    refine List.pairwise_append.mpr ⟨rng_lt _ _, lines_lt h.tail, fun x hx y hy => ?_⟩
    obtain ⟨e, e1, e2⟩ := WA.behind h (mem_lines.mp hy).1
    obtain ⟨h1, h2⟩ := mem_rng.mp hx
    have := ((end_iff h1).mp h2).1.2 e e1
    omega
theorem lines_eq {base top : Int} {r : List Arc} (kn : WA.KN base r) : linesOf r (base + top) = ((rgL 0 (top + 1)).filter fun i => WA.hb r (base + i)).map fun i => base + i := by
  refine lt_uniq (lines_lt kn.nf) (List.pairwise_map.mpr (((rgL_lt _ _).sublist List.filter_sublist).imp fun h => by omega)) fun x => ?_
  rw [mem_lines, List.mem_map]
  constructor
  · rintro ⟨h1, h2⟩
    have := kn.below h1
    exact ⟨x - base, List.mem_filter.mpr ⟨mem_rgL.mpr ⟨by omega, by omega⟩, by rw [show base + (x - base) = x by omega]; exact WA.hb_iff.mpr h1⟩, by omega⟩
  · rintro ⟨i, hi, rfl⟩
    obtain ⟨h1, h2⟩ := List.mem_filter.mp hi
    have := mem_rgL.mp h1
    exact ⟨WA.hb_iff.mp h2, by omega⟩
theorem hold_hb (r : List Arc) (x : Int) : holds r x = WA.hb r x := rfl
theorem op_neBB {c : Cp} {P : D → Prop} {a b : Bool} (h : P (.bl (!decide (a = b)))) : OP c rNe (.bl a) (.bl b) P := op_neB h
def fLinesOk : PF := fun ds R _ => ∃ (base : Int) (r : List Arc) (top : Int), ds = [kD base r, .int base, .int top] ∧ WA.KN base r ∧ 0 ≤ top ∧ top ≤ 98 ∧ base + top ≤ 1000000 ∧ R (.bl true)
abbrev s__law_lines_ok : Stmt := top 36
theorem sc__law_lines_ok : FnScope ["r", "base", "top", "told", "got", "at", "held"] ["r", "base", "top"] (defScope s__law_lines_ok) := ⟨rfl, rfl, rfl, by decide +kernel, rfl, by decide +kernel, by decide +kernel⟩
theorem ok_lines_ok (T : Txt K mg CB tkL  ) (F : At K mg "_law_lines_ok" s__law_lines_ok ["r", "base", "top"]) (d__law_in : Def P w K mg base "_law_in" 1 ["known", "at"] (spP K Tb fIn)) (d_arcs_lines : Def P w K mg base "arcs_lines" 4 ["r", "top"] (spN K Tb (fLines CT))) (d__law_same : DefG P w K mg base "_law_same" 1 ["got", "due"] (spP K Tb fSame)) (d_arcs_hold : Def P w K mg base "arcs_hold" 1 ["r", "line"] (spP K Tb fHold)) : DefG P w K mg base "_law_lines_ok" 5 ["r", "base", "top"] (spP K Tb fLinesOk) := by
  refine defPG F sc__law_lines_ok (fun ds R er h => ?_) (fun f cdv Ar outer s H vs Q E hG hr => ⟨_, (pss_cons (ps_setLc (i := 3) (own := [("at", 5)]) (g := gName 5) rfl sc__law_lines_ok.nd rfl rfl (sw_true rfl rfl rfl (by decide +kernel)) (pi_range2 rfl T.n_range (pa_cons pe_int (pa_cons (pe_op op_add (pv 2) pe_int) pa_nil))) (blkOk_by (own := [("at", 5)]) (N := ["r", "base", "top", "told", "got", "at", "held"]) (sc := defScope s__law_lines_ok) (by decide +kernel)) (fun _ _ _ _ _ => (pg_name (i := 5) sc__law_lines_ok.nd rfl (Or.inl rfl))) (fun _ _ _ _ _ => (pts_one (pt_cmpR op_eq (pe_d d__law_in (hr.mono (by decide)) passL (pa_cons (pv 0) (pa_cons (pv 5) pa_nil))) pe_int (nomark _)))) (fun _ _ _ _ _ => (pe_op op_add (pv 1) (pv 5))))
      (pss_cons (ps_set (i := 4) sc__law_lines_ok.nd rfl (Or.inl rfl) (pe_d d_arcs_lines (hr.mono (by decide)) (passes_call (takes_of rfl rfl rfl rfl) (fun _ _ _ _ h => h)) (pa_cons (pe_callTy (r := Lay.rList K) c_list rfl T.n_list (by decide +kernel) (pa_cons (pe_ix (r := rIxL K) ix_list (pv 0) pe_int (fun _ _ => rfl)) pa_nil)) (pa_cons (pe_op op_add (pv 1) (pv 2)) pa_nil))))
      (pss_cons (ps_if (PW.pt (pw_or (pt_not (pt_val (pe_callB (r := rIsi K) call_isi rfl T.n_isinstance (by decide +kernel) (pa_cons (pv 4) (pa_cons (pe_bltn (v := .ty "list") (u := .type "list") rfl T.n_list (by decide +kernel) rfl) pa_nil))))) (pw_or1 (pt_not (pt_val (pe_dG d__law_same hG (hr.mono (by decide)) (passes_call (takes_of rfl rfl rfl rfl) (fun _ _ _ _ h => h)) (pa_cons (pv 4) (pa_cons (pv 3) pa_nil)))))))) (pss_one (ps_ret pe_bl)) pss_nil)
      (pss_cons (ps_expr (pe_bm PySem.F.plainAttrs_list PySem.F.slot_list_append PySem.F.type_list_append mt_append (pv 4) (pa_cons pe_int pa_nil)))
      (pss_cons (ps_if (pt_not (pt_val (pe_dG d__law_same hG (hr.mono (by decide)) (passes_call (takes_of rfl rfl rfl rfl) (fun _ _ _ _ h => h)) (pa_cons (pe_d d_arcs_lines (hr.mono (by decide)) (passes_call (takes_of rfl rfl rfl rfl) (fun _ _ _ _ h => h)) (pa_cons (pe_callTy (r := Lay.rList K) c_list rfl T.n_list (by decide +kernel) (pa_cons (pe_ix (r := rIxL K) ix_list (pv 0) pe_int (fun _ _ => rfl)) pa_nil)) (pa_cons (pe_op op_add (pv 1) (pv 2)) pa_nil))) (pa_cons (pv 3) pa_nil))))) (pss_one (ps_ret pe_bl)) pss_nil)
      (pss_cons (ps_for (passes_of rfl) rfl (pi_range3 rfl T.n_range (pa_cons pe_int (pa_cons pe_int (pa_cons pe_int pa_nil)))) (pg_name (i := 5) sc__law_lines_ok.nd rfl (Or.inl rfl)) (pss_cons (ps_set (i := 6) sc__law_lines_ok.nd rfl (Or.inl rfl) (pe_d d_arcs_hold (hr.mono (by decide)) (passes_call (takes_of rfl rfl rfl rfl) (fun _ _ _ _ h => h)) (pa_cons (pe_callTy (r := Lay.rList K) c_list rfl T.n_list (by decide +kernel) (pa_cons (pe_ix (r := rIxL K) ix_list (pv 0) pe_int (fun _ _ => rfl)) pa_nil)) (pa_cons (pe_op op_add (pv 1) (pv 5)) pa_nil))))
      (pss_one (ps_if (PW.pt (pw_or (PW.pt (pw_and (pt_cmpR Lay.op_notB (pv 6) pe_bl (nomark _)) (pw_and1 (pt_cmpR Lay.op_notB (pv 6) pe_bl (nomark _))))) (pw_or1 (pt_cmpR op_ne (pv 6) (pe_cmpR op_eq (pe_d d__law_in (hr.mono (by decide)) (passes_call (takes_of rfl rfl rfl rfl) (fun _ _ _ _ h => h)) (pa_cons (pv 0) (pa_cons (pv 5) pa_nil))) pe_int (nomark _)) (nomark _))))) (pss_one (ps_ret pe_bl)) pss_nil))))
      (pss_one (ps_ret pe_bl)))))))), fun B W0 G0 ds R er h => ?_⟩)
  · obtain ⟨_, _, _, rfl, _⟩ := h; rfl
  · obtain ⟨bs, r, top, rfl, kn, t0, t1, tb, h⟩ := h
    have b0 := kn.b0
    have b1 := kn.b1
    walk_at "pu0"
    walk_at "set"
    refine ev_ofF (ef_lcFM (rgL 0 (top + 1)) D.int (fun i => WA.hb r (bs + i)) (fun i => .int (bs + i)) (gm_name (by simp)) (it_rng2 ?_))
    walk_at "pu"
    refine ⟨⟨by decide, by decide⟩, ⟨by omega, by omega⟩, rgD_map, by rw [rgL_len]; omega, fun i x hx => ?_, ?_⟩
    · walk_at "pu"
      refine ⟨bs, r, x, rfl, kn, ?_⟩
      walk_at "pu"
      refine ⟨?_, ?_⟩
      · cases WA.hb r (bs + x) <;> rfl
      · walk_at "pu"
        rfl
    have le := lines_eq (top := top) kn
    have ll : (linesOf r (bs + top)).length ≤ 1000000 := by
      rw [le, List.length_map]
      have := List.length_filter_le (fun i => WA.hb r (bs + i)) (rgL 0 (top + 1))
      rw [rgL_len] at this
      omega
    have lm : ((rgL 0 (top + 1)).filter fun i => WA.hb r (bs + i)).map (fun i => D.int (bs + i)) = (linesOf r (bs + top)).map D.int := by
      rw [le, List.map_map]
      rfl
    rw [lm]
    have ls : ∀ i ∈ linesOf r (bs + top), i.natAbs < 1000000000000 := fun i hi => by
      obtain ⟨h1, h2⟩ := mem_lines.mp hi
      have := kn.below h1
      omega
    have gl : ∀ Q : List D → Prop, ∀ er' : Er → Prop, Q ((linesOf r (bs + top)).map D.int) → fLines CT [asD r, .int (bs + top)] Q er' := fun Q er' hq => ⟨r, bs + top, rfl, fun z => by omega, fun _ => ⟨fun a ha => by have := kn.lo a ha; omega, by omega, fun a ha l hl => by have := (kn.lo a ha).1; have := kn.nf.o a ha l hl; omega, ll, hq⟩⟩
    generalize linesOf r (bs + top) = told at gl ll ls
    walk_at "pg"
    walk_at "own"
    walk_at "pu"
    refine gl _ _ ?_
    intro p
    walk_at "pu"
    refine cb_isi rfl (b := true) (by decide +kernel) ?_
    walk_at "pu"
    refine ⟨told, rfl, ls, ll, ?_⟩
    walk_at "pu"
    refine ⟨by rw [List.length_map]; omega, ?_⟩
    walk_at "pu"
    refine gl _ _ ?_
    walk_at "pu"
    refine ⟨told, rfl, ls, ll, ?_⟩
    walk_at "pu"
    refine sx_for (it_rngC ?_)
    walk_at "pu"
    refine ⟨0, 110, 3, 37, rfl, ⟨by decide, by decide, by decide +kernel, by decide +kernel⟩, ?_⟩
    refine eachSt (fun j e => ∃ v4 v5 v6, e = [.d (kD bs r), .d (.int bs), .d (.int top), .d (.lst (told.map D.int)), v4, v5, v6]) ⟨_, _, _, rfl⟩ ?_ ?_
    · rintro j e j1 ⟨v4, v5, v6, rfl⟩
      walk_at "pu"
      refine ⟨r, _, rfl, ?_⟩
      rw [hold_hb]
      walk_at "pu"
      cases hv : WA.hb r (bs + (0 + ↑j * 3)) with
      | false =>
        refine op_notB ?_
        walk_at "pu"
        rw [if_pos (by decide)]
        walk_at "pu"
        refine op_notB ?_
        walk_at "pu"
        rw [if_neg (by decide)]
        walk_at "pu"
        refine ⟨bs, r, _, rfl, kn, ?_⟩
        rw [hv]
        walk_at "pu"
        rw [if_neg (by decide)]
        walk_at "pu"
        exact ⟨_, _, _, rfl⟩
      | true =>
        refine op_notB ?_
        walk_at "pu"
        rw [if_neg (by decide)]
        walk_at "pu"
        refine ⟨bs, r, _, rfl, kn, ?_⟩
        rw [hv]
        walk_at "pu"
        rw [if_neg (by decide)]
        walk_at "pu"
        exact ⟨_, _, _, rfl⟩
    · rintro e ⟨v4, v5, v6, rfl⟩
      walk_at "pu"
      exact h
end
end K09
namespace K09
open PySem PySem.Spec PyProof.Rows L2 Evl Lay Pu
section
variable {P : Program} {w : World} {K : PySem.W.Frag} {mg : Str → Option Value} {base : Heap} {CB CT cL_arcs_gathered PL_arcs_gathered : Addr} {tkL : Tok}
variable {Tb : List (Addr × Str)}
/-! ### the bound -/
def fBoundOk : PF := fun ds R _ => ∃ (base : Int) (r : List Arc), ds = [kD base r] ∧ WA.KN base r ∧ R (.bl true)
abbrev s__law_bound_ok : Stmt := top 37
theorem sc__law_bound_ok : FnScope ["r", "e"] ["r"] (defScope s__law_bound_ok) := ⟨rfl, rfl, rfl, by decide +kernel, rfl, by decide +kernel, by decide +kernel⟩
theorem ok_bound_ok (T : Txt K mg CB tkL  ) (F : At K mg "_law_bound_ok" s__law_bound_ok ["r"]) (x_TooMany : Exn P w K mg base "TooMany" "what" CT) (xi_T : XI K CT) (kT1 : PySem.W.kitOne K (.ref CT) (.ref CB) = some true) (d_arcs_lines : Def P w K mg base "arcs_lines" 4 ["r", "top"] (spN K Tb (fLines CT))) : Def P w K mg base "_law_bound_ok" 5 ["r"] (spP K Tb fBoundOk) := by
  refine defP F sc__law_bound_ok (fun ds R er h => ?_) (fun f cdv Ar outer s H vs Q E hr => ⟨_, (pss_cons (ps_if (pt_cmpR (r := rNeD K) (op_neD hr.units) (pe_d d_arcs_lines (hr.mono (by decide)) (passes_call (takes_of rfl rfl rfl rfl) (fun _ _ _ _ h => h)) (pa_cons (pe_lst (pa_cons (pe_tup (pa_cons pe_int (pa_cons pe_non pa_nil))) pa_nil)) (pa_cons (pe_op op_pow pe_int pe_int) pa_nil))) (pe_lst (pa_cons pe_int (pa_cons (pe_op op_pow pe_int pe_int) pa_nil))) (nomark _)) (pss_one (ps_ret pe_bl)) pss_nil)
      (pss_cons (ps_tryA rfl rfl sc__law_bound_ok.nd takes0 (fun W pn xe tk po => (pss_one (ps_expr (pe_dT d_arcs_lines (hr.mono (by decide)) tk (pa_cons (pe_callTy (r := Lay.rList K) c_list rfl T.n_list (by decide +kernel) (pa_cons (pe_ix (r := rIxL K) ix_list (pv 0) pe_int (fun _ _ => rfl)) pa_nil)) (pa_cons (pe_op op_add (pe_op op_pow pe_int pe_int) pe_int) pa_nil)))))) (HdsA.cons ⟨rfl, by decide, Or.inl x_TooMany.g⟩ (i := 1) rfl rfl (fun a oe cls d pn hz hf => (pss_one (ps_ret (pe_and (pe_cmpR (r := rEqD K) (op_eqD hr.units) (pe_xf x_TooMany.xf x_TooMany.no hz hf (pv 1)) pe_str (nomark _)) (pe_one (pe_callB (r := rIsX K CT a cls d) (call_isX xi_T hz hf) rfl T.n_isinstance (by decide +kernel) (pa_cons (pv 1) (pa_cons (pe_glob (v := .ref CB) rfl T.g_ComesError rfl) pa_nil)))))))) HdsA.nil))
      (pss_one (ps_ret pe_bl)))), fun B W0 G0 ds R er h => ?_⟩)
  · obtain ⟨_, _, rfl, _⟩ := h; rfl
  · obtain ⟨bs, r, rfl, kn, h⟩ := h
    have l1 : linesOf [((999999 : Int), (none : Option Int))] 1000000 = [999999, 1000000] := by decide
    walk_at "pu0"
    have p6 : (10 : Int) ^ Int.toNat 6 = 1000000 := by decide
    rw [p6]
    refine ⟨[(999999, none)], 1000000, rfl, fun z => by omega, fun _ => ⟨fun a ha => ?_, by omega, fun a ha l hl => ?_, by rw [l1]; decide, ?_⟩⟩
    · rw [List.mem_singleton.mp ha]; decide
    · rw [List.mem_singleton.mp ha] at hl; cases hl
    rw [l1]
    walk_at "pu"
    rw [p6]
    refine op_ne (Cn.mk (by decide) (by decide) (by decide)) (Cn.mk (by decide) (by decide) (by decide)) (fun z => absurd rfl z) (fun _ => ?_)
    walk_at "pu"
    refine sx_tryB (l := [(Value.ref CT, 1, fun a cls d => tRet (tAndV (tOp (rEqD K) (tXf a cls d CT "what" (tVar 1)) (tC (V.str "lines"))) (tCB (rIsX K CT a cls d) (tCons (tVar 1) (tCons (tC (V.ref CB)) tNil)))))]) (W0 := fun _ _ _ _ => False) (tb := fun W => tDrop (tCallS (spN K Tb (fLines CT)) (WE W) (tCons (tCB (Lay.rList K) (tCons (tOp (rIxL K) (tVar 0) (tC (V.int 0))) tNil)) (tCons (tOp (rI0 fun i j => V.int (i + j)) (tOp (rI CPow fun i j => V.int (i ^ j.toNat)) (tC (V.int 10)) (tC (V.int 6))) (tC (V.int 1))) tNil)))) fun W => ?_
    walk_at "pu"
    rw [p6]
    refine ⟨r, 1000001, rfl, fun _ => ⟨true, h, fun W1 D σ H d hl hd q => ?_⟩, fun z => by omega⟩
    refine ⟨true, x_TooMany.te, fun _ o ho => ?_, fun z => absurd z (by decide)⟩
    have ev : (σ.set 1 (some (.ref o)))[1]? = some (some (.ref o)) := by rw [List.getElem?_set_self (by rw [hl]; exact Nat.lt_of_sub_pos (by decide : 0 < 2 - 1))]
    refine r_ret ?_
    refine r_andV ?_
    refine r_op ?_
    refine r_xf ev hd ?_
    walk_at "go"
    refine ⟨.str "lines", .str "lines", .str _, .str _, by decide +kernel, by decide +kernel, ?_⟩
    refine ⟨true, by decide +kernel, ?_⟩
    refine iteT ?_
    refine r_cb ?_
    refine r_cons ?_
    refine r_var ev ?_
    walk_at "go"
    refine ⟨.ref CB, .ref CB, true, d, _, rfl, rfl, .own _, rfl, hd, kT1, ?_⟩
    exact q H (Ex.refl H)
end
end K09
namespace K09
open PySem PySem.Spec PyProof.Rows L2 Evl Lay Pu
section
variable {P : Program} {w : World} {K : PySem.W.Frag} {mg : Str → Option Value} {base : Heap} {CB CT cL_arcs_gathered PL_arcs_gathered : Addr} {tkL : Tok}
variable {Tb : List (Addr × Str)}
/-! ### pairs -/
@[reducible] def pD (p : Int × Int) : D := .tup [.int p.1, .int p.2]
theorem en_pD : En pD 1 := ⟨fun x => rfl, fun x => by simp [pD, dpt, dpts], fun x => rfl⟩
instance : En pD 1 := en_pD
def bothL (base : Int) (r s : List Arc) : List (Int × Int) := (rgL (-40) 120).map fun i => (WA.bi (WA.hb r (base + i)), WA.bi (WA.hb s (base + i)))
theorem both_get {base : Int} {r s : List Arc} (g : Int × Int → Int) (f : Int → Bool) (h : ∀ i, g (WA.bi (WA.hb r (base + i)), WA.bi (WA.hb s (base + i))) = WA.bi (f i)) : (bothL base r s).map g = WA.duF f := by
  unfold bothL rgL WA.duF
  rw [List.map_map, List.map_map]
  refine List.map_congr_left fun k _ => ?_
  show g (WA.bi (WA.hb r (base + (-40 + (k : Int)))), WA.bi (WA.hb s (base + (-40 + (k : Int))))) = _
  rw [show (-40 : Int) + (k : Int) = (k : Int) - 40 by omega]
  exact h _
theorem meet1_len (a b : Arc) : (WA.meet1 a b).length ≤ 1 := by
  unfold WA.meet1
  split
  · simp
  · split <;> simp
theorem meet_len : ∀ (r s : List Arc), (WA.meet r s).length ≤ r.length + s.length
  | [], s => by rw [WA.meet]; simp
  | a :: r, [] => by rw [WA.meet]; simp
  | a :: r, b :: s => by
    rw [WA.meet, List.length_append]
    have h0 := meet1_len a b
    have h1 := meet_len r (b :: s)
    have h2 := meet_len (a :: r) s
    simp only [List.length_cons] at h1 h2 ⊢
    split
    · simp only [List.length_nil]; omega
    · split <;> omega
termination_by r s => r.length + s.length
def fPairsOk : PF := fun ds R _ => ∃ (base : Int) (r s : List Arc), ds = [kD base r, kD base s, .int base] ∧ WA.KN base r ∧ WA.KN base s ∧ R (.bl true)
abbrev s__law_pairs_ok : Stmt := top 34
theorem sc__law_pairs_ok : FnScope ["r", "s", "base", "both", "one", "other", "asked", "dues", "place", "spoilt", "at", "pair"] ["r", "s", "base"] (defScope s__law_pairs_ok) := ⟨rfl, rfl, rfl, by decide +kernel, rfl, by decide +kernel, by decide +kernel⟩
theorem ok_pairs_ok (T : Txt K mg CB tkL  ) (F : At K mg "_law_pairs_ok" s__law_pairs_ok ["r", "s", "base"]) (d__law_in : Def P w K mg base "_law_in" 1 ["known", "at"] (spP K Tb fIn)) (d_arcs_union : Def P w K mg base "arcs_union" 6 ["r", "s"] (spN K Tb fUnion)) (d_arcs_meet : Def P w K mg base "arcs_meet" 2 ["r", "s"] (spN K Tb fMeet)) (d_arcs_minus : Def P w K mg base "arcs_minus" 3 ["r", "s"] (spN K Tb fMinus)) (d__law_arcs_are : Def P w K mg base "_law_arcs_are" 2 ["got", "base", "due"] (spP K Tb fAre)) : Def P w K mg base "_law_pairs_ok" 7 ["r", "s", "base"] (spP K Tb fPairsOk) := by
  refine defP F sc__law_pairs_ok (fun ds R er h => ?_) (fun f cdv Ar outer s H vs Q E hr => ⟨_, (pss_cons (ps_setLc (i := 3) (own := [("at", 10)]) (g := gName 10) (tt := tYes) rfl sc__law_pairs_ok.nd rfl rfl (sw_true rfl rfl rfl (by decide +kernel)) (pi_range2 rfl T.n_range (pa_cons (pe_un un_neg pe_int) (pa_cons pe_int pa_nil))) (blkOk_by (own := [("at", 10)]) (N := ["r", "s", "base", "both", "one", "other", "asked", "dues", "place", "spoilt", "at", "pair"]) (sc := defScope s__law_pairs_ok) (by decide +kernel)) (fun _ _ _ _ _ => (pg_name (i := 10) sc__law_pairs_ok.nd rfl (Or.inl rfl))) (fun _ _ _ _ _ => pts_nil) (fun _ _ _ _ _ => (pe_tup (pa_cons (pe_d d__law_in (hr.mono (by decide)) passL (pa_cons (pv 0) (pa_cons (pv 10) pa_nil))) (pa_cons (pe_d d__law_in (hr.mono (by decide)) passL (pa_cons (pv 1) (pa_cons (pv 10) pa_nil))) pa_nil)))))
      (pss_cons (ps_set (i := 4) sc__law_pairs_ok.nd rfl (Or.inl rfl) (pe_callTy (r := Lay.rList K) c_list rfl T.n_list (by decide +kernel) (pa_cons (pe_ix (r := rIxL K) ix_list (pv 0) pe_int (fun _ _ => rfl)) pa_nil)))
      (pss_cons (ps_set (i := 5) sc__law_pairs_ok.nd rfl (Or.inl rfl) (pe_callTy (r := Lay.rList K) c_list rfl T.n_list (by decide +kernel) (pa_cons (pe_ix (r := rIxL K) ix_list (pv 1) pe_int (fun _ _ => rfl)) pa_nil)))
      (pss_cons (ps_set (i := 6) sc__law_pairs_ok.nd rfl (Or.inl rfl) (pe_lst (pa_cons (pe_d d_arcs_union (hr.mono (by decide)) (passes_call (takes_of rfl rfl rfl rfl) (fun _ _ _ _ h => h)) (pa_cons (pv 4) (pa_cons (pv 5) pa_nil))) (pa_cons (pe_d d_arcs_meet (hr.mono (by decide)) (passes_call (takes_of rfl rfl rfl rfl) (fun _ _ _ _ h => h)) (pa_cons (pv 4) (pa_cons (pv 5) pa_nil))) (pa_cons (pe_d d_arcs_minus (hr.mono (by decide)) (passes_call (takes_of rfl rfl rfl rfl) (fun _ _ _ _ h => h)) (pa_cons (pv 4) (pa_cons (pv 5) pa_nil))) pa_nil)))))
      (pss_cons (ps_set (i := 7) sc__law_pairs_ok.nd rfl (Or.inl rfl) (pe_lst (pa_cons (pe_lc (own := [("pair", 11)]) (g := gName 11) (tt := tYes) rfl sc__law_pairs_ok.nd (pi_list (pv 3)) (blkOk_by (own := [("pair", 11)]) (N := ["r", "s", "base", "both", "one", "other", "asked", "dues", "place", "spoilt", "at", "pair"]) (sc := defScope s__law_pairs_ok) (by decide +kernel)) (fun _ _ _ _ _ => (pg_name (i := 11) sc__law_pairs_ok.nd rfl (Or.inl rfl))) (fun _ _ _ _ _ => pts_nil) (fun _ _ _ _ _ => (pe_callB (r := Lay.rMaxT K) (Lay.cr_maxT rfl) rfl T.n_max (by decide +kernel) (pa_cons (pv 11) pa_nil)))) (pa_cons (pe_lc (own := [("pair", 11)]) (g := gName 11) (tt := tYes) rfl sc__law_pairs_ok.nd (pi_list (pv 3)) (blkOk_by (own := [("pair", 11)]) (N := ["r", "s", "base", "both", "one", "other", "asked", "dues", "place", "spoilt", "at", "pair"]) (sc := defScope s__law_pairs_ok) (by decide +kernel)) (fun _ _ _ _ _ => (pg_name (i := 11) sc__law_pairs_ok.nd rfl (Or.inl rfl))) (fun _ _ _ _ _ => pts_nil) (fun _ _ _ _ _ => (pe_callB (r := Lay.rMinT K) (Lay.cr_minT rfl) rfl T.n_min (by decide +kernel) (pa_cons (pv 11) pa_nil)))) (pa_cons (pe_lc (own := [("pair", 11)]) (g := gName 11) (tt := tYes) rfl sc__law_pairs_ok.nd (pi_list (pv 3)) (blkOk_by (own := [("pair", 11)]) (N := ["r", "s", "base", "both", "one", "other", "asked", "dues", "place", "spoilt", "at", "pair"]) (sc := defScope s__law_pairs_ok) (by decide +kernel)) (fun _ _ _ _ _ => (pg_name (i := 11) sc__law_pairs_ok.nd rfl (Or.inl rfl))) (fun _ _ _ _ _ => pts_nil) (fun _ _ _ _ _ => (pe_callB (c_max2 rfl) rfl T.n_max (by decide +kernel) (pa_cons pe_int (pa_cons (pe_op op_sub (pe_ix (r := rIxT K) ix_tup (pv 11) pe_int (fun _ _ => rfl)) (pe_ix (r := rIxT K) ix_tup (pv 11) pe_int (fun _ _ => rfl))) pa_nil))))) pa_nil)))))
      (pss_cons (ps_for (passes_of rfl) rfl (pi_range1 rfl T.n_range (pa_cons pe_int pa_nil)) (pg_name (i := 8) sc__law_pairs_ok.nd rfl (Or.inl rfl)) (pss_cons (ps_if (pt_not (pt_val (pe_d d__law_arcs_are (hr.mono (by decide)) (passes_call (takes_of rfl rfl rfl rfl) (fun _ _ _ _ h => h)) (pa_cons (pe_ix (r := rIxL K) ix_list (pv 6) (pv 8) (fun _ _ => rfl)) (pa_cons (pv 2) (pa_cons (pe_ix (r := rIxL K) ix_list (pv 7) (pv 8) (fun _ _ => rfl)) pa_nil)))))) (pss_one (ps_ret pe_bl)) pss_nil)
      (pss_cons (ps_set (i := 9) sc__law_pairs_ok.nd rfl (Or.inl rfl) (pe_ix (r := rIxL K) ix_list (pv 6) (pv 8) (fun _ _ => rfl)))
      (pss_one (ps_expr (pe_bm PySem.F.plainAttrs_list PySem.F.slot_list_append PySem.F.type_list_append mt_append (pv 9) (pa_cons (pe_tup (pa_cons (pe_op op_add (pv 2) pe_int) (pa_cons (pe_op op_add (pv 2) pe_int) pa_nil))) pa_nil)))))))
      (pss_cons (ps_if (PW.pt (pw_or (pt_cmpR (r := rNeD K) (op_neD hr.units) (pv 4) (pe_ix (r := rIxL K) ix_list (pv 0) pe_int (fun _ _ => rfl)) (nomark _)) (pw_or1 (pt_cmpR (r := rNeD K) (op_neD hr.units) (pv 5) (pe_ix (r := rIxL K) ix_list (pv 1) pe_int (fun _ _ => rfl)) (nomark _))))) (pss_one (ps_ret pe_bl)) pss_nil)
      (pss_cons (ps_if (PW.pt (pw_or (pt_not (pt_val (pe_d d__law_arcs_are (hr.mono (by decide)) (passes_call (takes_of rfl rfl rfl rfl) (fun _ _ _ _ h => h)) (pa_cons (pe_d d_arcs_meet (hr.mono (by decide)) (passes_call (takes_of rfl rfl rfl rfl) (fun _ _ _ _ h => h)) (pa_cons (pv 5) (pa_cons (pv 4) pa_nil))) (pa_cons (pv 2) (pa_cons (pe_ix (r := rIxL K) ix_list (pv 7) pe_int (fun _ _ => rfl)) pa_nil)))))) (pw_or1 (pt_not (pt_val (pe_d d__law_arcs_are (hr.mono (by decide)) (passes_call (takes_of rfl rfl rfl rfl) (fun _ _ _ _ h => h)) (pa_cons (pe_d d_arcs_union (hr.mono (by decide)) (passes_call (takes_of rfl rfl rfl rfl) (fun _ _ _ _ h => h)) (pa_cons (pv 5) (pa_cons (pv 4) pa_nil))) (pa_cons (pv 2) (pa_cons (pe_ix (r := rIxL K) ix_list (pv 7) pe_int (fun _ _ => rfl)) pa_nil))))))))) (pss_one (ps_ret pe_bl)) pss_nil)
      (pss_one (ps_ret (pe_d d__law_arcs_are (hr.mono (by decide)) (passes_call (takes_of rfl rfl rfl rfl) (fun _ _ _ _ h => h)) (pa_cons (pe_d d_arcs_minus (hr.mono (by decide)) (passes_call (takes_of rfl rfl rfl rfl) (fun _ _ _ _ h => h)) (pa_cons (pv 4) (pa_cons (pv 5) pa_nil))) (pa_cons (pv 2) (pa_cons (pe_ix (r := rIxL K) ix_list (pv 7) pe_int (fun _ _ => rfl)) pa_nil)))))))))))))), fun B W0 G0 ds R er h => ?_⟩)
  · obtain ⟨_, _, _, rfl, _⟩ := h; rfl
  · obtain ⟨bs, r, s, rfl, kr, ks, h⟩ := h
    have lr := kr.len
    have ls := ks.len
    walk_at "pu0"
    walk_at "set"
    refine ev_ofF (ef_lcRM (-40) 120 (fun i => pD (WA.bi (WA.hb r (bs + i)), WA.bi (WA.hb s (bs + i)))) (gm_name (by simp)) (it_rng2 ?_))
    walk_at "pu"
    refine ⟨⟨by decide, by decide⟩, ⟨by decide, by decide⟩, rfl, by decide, fun i _ _ => ?_, ?_⟩
    · walk_at "pu"
      refine ⟨bs, r, i, rfl, kr, ?_⟩
      walk_at "pu"
      refine ⟨bs, s, i, rfl, ks, ?_⟩
      walk_at "pu"
      rfl
    have eb : (rgL (-40) 120).map (fun i => pD (WA.bi (WA.hb r (bs + i)), WA.bi (WA.hb s (bs + i)))) = (bothL bs r s).map pD := by
      unfold bothL
      rw [List.map_map]
      rfl
    rw [eb]
    walk_at "pu"
    walk_at "set"
    walk_at "pu"
    walk_at "set"
    walk_at "pq"
    refine sxa_begin (k := 6) ?_
    refine ef_call ?_
    walk_at "pu"
    refine ⟨r, s, rfl, fun a ha => (List.mem_append.mp ha).elim (kr.nf.o a) (ks.nf.o a), by rw [List.length_append]; omega, ?_⟩
    refine ef_call ?_
    walk_at "pu"
    refine ⟨r, s, rfl, by omega, by omega, ?_⟩
    refine ef_call ?_
    walk_at "pu"
    refine ⟨r, s, rfl, by omega, by omega, ?_⟩
    intro p q0 q1 q2
    refine setN ?_
    intro nd
    have du : ∀ (g : Int × Int → Int) (f : Int → Bool), (∀ i, g (WA.bi (WA.hb r (bs + i)), WA.bi (WA.hb s (bs + i))) = WA.bi (f i)) → (bothL bs r s).map (fun x => D.int (g x)) = (WA.duF f).map D.int := fun g f hg => by
      rw [← both_get (r := r) (s := s) (base := bs) g f hg, List.map_map]
      rfl
    have bl : (bothL bs r s).length ≤ 16000000 := by unfold bothL; rw [List.length_map, rgL_len]; decide
    refine sxa_seq (sxa_set ?_)
    walk_at "pu"
    refine ev_ofF (ef_lcM (bothL bs r s) pD (fun x => .int (if x.2 > x.1 then x.2 else x.1)) (gm_name (by simp)) (it_list ?_))
    walk_at "pu"
    refine ⟨rfl, bl, fun i x hx => ?_, ?_⟩
    · walk_at "pu"
      refine cb_maxT2 ?_
      rfl
    rw [du (fun x => if x.2 > x.1 then x.2 else x.1) (fun i => WA.hb r (bs + i) || WA.hb s (bs + i)) (fun i => by cases WA.hb r (bs + i) <;> cases WA.hb s (bs + i) <;> rfl)]
    walk_at "pu"
    refine ev_ofF (ef_lcM (bothL bs r s) pD (fun x => .int (if x.2 < x.1 then x.2 else x.1)) (gm_name (by simp)) (it_list ?_))
    walk_at "pu"
    refine ⟨rfl, bl, fun i x hx => ?_, ?_⟩
    · walk_at "pu"
      refine cb_minT2 ?_
      rfl
    rw [du (fun x => if x.2 < x.1 then x.2 else x.1) (fun i => WA.hb r (bs + i) && WA.hb s (bs + i)) (fun i => by cases WA.hb r (bs + i) <;> cases WA.hb s (bs + i) <;> rfl)]
    walk_at "pu"
    refine ev_ofF (ef_lcM (bothL bs r s) pD (fun x => .int (if x.1 - x.2 > 0 then x.1 - x.2 else 0)) (gm_name (by simp)) (it_list ?_))
    walk_at "pu"
    refine ⟨rfl, bl, fun i x hx => ?_, ?_⟩
    · walk_at "pu"
      rfl
    rw [du (fun x => if x.1 - x.2 > 0 then x.1 - x.2 else 0) (fun i => WA.hb r (bs + i) && !WA.hb s (bs + i)) (fun i => by cases WA.hb r (bs + i) <;> cases WA.hb s (bs + i) <;> rfl)]
    walk_at "pu"
    have au : WA.Are bs (WA.norm (r ++ s)) (fun i => WA.hb r (bs + i) || WA.hb s (bs + i)) := WA.are_union kr ks fun i _ _ => by rw [Bool.or_eq_true, WA.hb_iff, WA.hb_iff]
    have am : WA.Are bs (WA.meet r s) (fun i => WA.hb r (bs + i) && WA.hb s (bs + i)) := WA.are_meet kr ks fun i _ _ => by rw [Bool.and_eq_true, WA.hb_iff, WA.hb_iff]
    have ad : WA.Are bs (WA.meet r (WA.other s)) (fun i => WA.hb r (bs + i) && !WA.hb s (bs + i)) := WA.are_minus kr ks fun i _ _ => by rw [Bool.and_eq_true, WA.hb_iff, Bool.not_eq_true', ← Bool.not_eq_true, WA.hb_iff]
    have lu : (WA.norm (r ++ s)).length < 16000000 := by have := norm_len (r ++ s); rw [List.length_append] at this; omega
    have lm : (WA.meet r s).length < 16000000 := by have := meet_len r s; omega
    have ld : (WA.meet r (WA.other s)).length < 16000000 := by have := meet_len r (WA.other s); have := otherF_len s 0; unfold WA.other at *; omega
    obtain ⟨n01, n02, n03, n12, n13, n23⟩ : p ≠ q0 ∧ p ≠ q1 ∧ p ≠ q2 ∧ q0 ≠ q1 ∧ q0 ≠ q2 ∧ q1 ≠ q2 := by
      simp only [List.nodup_cons, List.mem_cons, List.not_mem_nil, or_false, not_or, not_false_eq_true, List.nodup_nil, and_true] at nd
      exact ⟨nd.1.1, nd.1.2.1, nd.1.2.2, nd.2.1.1, nd.2.1.2, nd.2.2⟩
    refine sxa_seq (sxa_rng (j := 3) (m := 8) (by decide) (fun i e L => ∃ v8 v9 x0 x1 x2, e = [Sl.d (kD bs r), Sl.d (kD bs s), Sl.d (D.int bs), Sl.d (D.lst (List.map pD (bothL bs r s))), Sl.d (D.lst (List.map aD r)), Sl.d (D.lst (List.map aD s)), Sl.d (D.raw (V.ref p)), Sl.d (D.lst [D.lst (List.map D.int (WA.duF fun i => WA.hb r (bs + i) || WA.hb s (bs + i))), D.lst (List.map D.int (WA.duF fun i => WA.hb r (bs + i) && WA.hb s (bs + i))), D.lst (List.map D.int (WA.duF fun i => WA.hb r (bs + i) && !WA.hb s (bs + i)))]), v8, v9, .no, .no] ∧ L = tree p [(q0, x0), (q1, x1), (q2, x2)] ∧ (i ≤ 0 → x0 = (WA.norm (r ++ s)).map aD) ∧ (i ≤ 1 → x1 = (WA.meet r s).map aD) ∧ (i ≤ 2 → x2 = (WA.meet r (WA.other s)).map aD)) ⟨_, _, _, _, _, rfl, rfl, fun _ => rfl, fun _ => rfl, fun _ => rfl⟩ ?_ ?_)
    · rintro i e L hi ⟨v8, v9, x0, x1, x2, rfl, rfl, h0, h1, h2⟩
      rcases (show i = 0 ∨ i = 1 ∨ i = 2 by omega) with rfl | rfl | rfl
      · have e0 := h0 (by decide)
        rw [show ((0 : Nat) : Int) = 0 from rfl]
        refine setN ?_
        refine sxa_seq (sxa_no (k := 6) rfl ?_)
        simp only [List.set_cons_succ, List.set_cons_zero, List.map_cons, List.map_nil, rawL]
        rw [e0]
        walk_at "pu"
        refine ⟨_, bs, _, rfl, au, kr.b0, kr.b1, ?_⟩
        walk_at "pu"
        refine ⟨rfl, ?_⟩
        rw [← e0]
        refine sxa_seq (sxa_setI (k := 6) rfl ?_)
        simp only [List.set_cons_succ, List.set_cons_zero, List.map_cons, List.map_nil, rawL]
        walk_at "pu"
        refine ⟨trivial, ?_⟩
        refine setN ?_
        refine sxa_app (n := 9) (q := q0) (ds := x0) rfl (List.mem_cons_of_mem _ List.mem_cons_self) ?_
        walk_at "pu"
        refine ⟨by rw [e0, List.length_map]; exact lu, ?_⟩
        refine ⟨_, _, x0 ++ [pD (bs + 7000, bs + 7001)], x1, x2, rfl, ?_, fun z => absurd z (by decide), fun _ => h1 (by decide), fun _ => h2 (by decide)⟩
        simp [tree, rawL, n01, n02, n03, n12, n13, n23, n01.symm, n02.symm, n03.symm, n12.symm, n13.symm, n23.symm]
      · have e1 := h1 (by decide)
        rw [show ((1 : Nat) : Int) = 1 from rfl]
        refine setN ?_
        refine sxa_seq (sxa_no (k := 6) rfl ?_)
        simp only [List.set_cons_succ, List.set_cons_zero, List.map_cons, List.map_nil, rawL]
        rw [e1]
        walk_at "pu"
        refine ⟨_, bs, _, rfl, am, kr.b0, kr.b1, ?_⟩
        walk_at "pu"
        refine ⟨rfl, ?_⟩
        rw [← e1]
        refine sxa_seq (sxa_setI (k := 6) rfl ?_)
        simp only [List.set_cons_succ, List.set_cons_zero, List.map_cons, List.map_nil, rawL]
        walk_at "pu"
        refine ⟨trivial, ?_⟩
        refine setN ?_
        refine sxa_app (n := 9) (q := q1) (ds := x1) rfl (List.mem_cons_of_mem _ (List.mem_cons_of_mem _ List.mem_cons_self)) ?_
        walk_at "pu"
        refine ⟨by rw [e1, List.length_map]; exact lm, ?_⟩
        refine ⟨_, _, x0, x1 ++ [pD (bs + 7000, bs + 7001)], x2, rfl, ?_, fun z => absurd z (by decide), fun z => absurd z (by decide), fun _ => h2 (by decide)⟩
        simp [tree, rawL, n01, n02, n03, n12, n13, n23, n01.symm, n02.symm, n03.symm, n12.symm, n13.symm, n23.symm]
      · have e2 := h2 (by decide)
        rw [show ((2 : Nat) : Int) = 2 from rfl]
        refine setN ?_
        refine sxa_seq (sxa_no (k := 6) rfl ?_)
        simp only [List.set_cons_succ, List.set_cons_zero, List.map_cons, List.map_nil, rawL]
        rw [e2]
        walk_at "pu"
        refine ⟨_, bs, _, rfl, ad, kr.b0, kr.b1, ?_⟩
        walk_at "pu"
        refine ⟨rfl, ?_⟩
        rw [← e2]
        refine sxa_seq (sxa_setI (k := 6) rfl ?_)
        simp only [List.set_cons_succ, List.set_cons_zero, List.map_cons, List.map_nil, rawL]
        walk_at "pu"
        refine ⟨trivial, ?_⟩
        refine setN ?_
        refine sxa_app (n := 9) (q := q2) (ds := x2) rfl (List.mem_cons_of_mem _ (List.mem_cons_of_mem _ (List.mem_cons_of_mem _ List.mem_cons_self))) ?_
        walk_at "pu"
        refine ⟨by rw [e2, List.length_map]; exact ld, ?_⟩
        refine ⟨_, _, x0, x1, x2 ++ [pD (bs + 7000, bs + 7001)], rfl, ?_, fun z => absurd z (by decide), fun z => absurd z (by decide), fun z => absurd z (by decide)⟩
        simp [tree, rawL, n01, n02, n03, n12, n13, n23, n01.symm, n02.symm, n03.symm, n12.symm, n13.symm, n23.symm]
    · rintro e L ⟨v8, v9, x0, x1, x2, rfl, rfl, h0, h1, h2⟩
      refine sxa_end ?_
      walk_at "pu"
      refine op_ne (cn_arcs _) (cn_arcs _) (fun z => absurd rfl z) (fun _ => ?_)
      walk_at "pu"
      refine op_ne (cn_arcs _) (cn_arcs _) (fun z => absurd rfl z) (fun _ => ?_)
      walk_at "pu"
      refine ⟨s, r, rfl, by omega, by omega, ?_⟩
      walk_at "pu"
      refine ⟨_, bs, _, rfl, WA.are_meet ks kr fun i _ _ => ?_, kr.b0, kr.b1, ?_⟩
      · rw [Bool.and_eq_true, WA.hb_iff, WA.hb_iff]
        exact And.comm
      walk_at "pu"
      refine ⟨s, r, rfl, fun a ha => (List.mem_append.mp ha).elim (ks.nf.o a) (kr.nf.o a), by rw [List.length_append]; omega, ?_⟩
      walk_at "pu"
      refine ⟨_, bs, _, rfl, WA.are_union ks kr fun i _ _ => ?_, kr.b0, kr.b1, ?_⟩
      · rw [Bool.or_eq_true, WA.hb_iff, WA.hb_iff]
        exact Or.comm
      walk_at "pu"
      refine ⟨r, s, rfl, by omega, by omega, ?_⟩
      walk_at "pu"
      refine ⟨_, bs, _, rfl, ad, kr.b0, kr.b1, ?_⟩
      exact h
end
end K09
namespace K09
open PySem PySem.Spec PyProof.Rows L2 Evl Lay Pu
section
variable {P : Program} {w : World} {K : PySem.W.Frag} {mg : Str → Option Value} {base : Heap} {CB CT cL_arcs_gathered PL_arcs_gathered : Addr} {tkL : Tok}
variable {Tb : List (Addr × Str)}
abbrev spLaw := Pu.spLawT
abbrev s_law : Stmt := top 38
theorem sc_law : FnScope ["script", "purse", "base", "r", "s", "low", "high", "pad"] ["script"] (defScope s_law) := ⟨rfl, rfl, rfl, by decide +kernel, rfl, by decide +kernel, by decide +kernel⟩
theorem ok_law (T : Txt K mg CB tkL  ) {f : Addr} {fd : FuncData} (F : Fun K "law" "law" s_law f fd) (hTb : ∀ p ∈ Tb, ∃ c, (c, p.1) ∈ [(cL_arcs_gathered, PL_arcs_gathered)]) (d__law_start : Def P w K mg base "_law_start" 2 ["script", "at"] (spP K Tb fStart)) (d__law_draw : Def P w K mg base "_law_draw" 1 ["purse", "many"] (spP K Tb fDraw)) (d__law_set : Def P w K mg base "_law_set" 2 ["purse", "base"] (spP K Tb fSet)) (d__law_pairs_ok : Def P w K mg base "_law_pairs_ok" 7 ["r", "s", "base"] (spP K Tb fPairsOk)) (d__law_moves_ok : Def P w K mg base "_law_moves_ok" 8 ["r", "base", "low", "high", "pad"] (spP K Tb fMovesOk)) (d__law_pulled_ok : Def P w K mg base "_law_pulled_ok" 7 ["r", "base", "low", "high", "pad"] (spP K Tb fPulledOk)) (d__law_lines_ok : DefG P w K mg base "_law_lines_ok" 5 ["r", "base", "top"] (spP K Tb fLinesOk)) (d__law_bound_ok : Def P w K mg base "_law_bound_ok" 5 ["r"] (spP K Tb fBoundOk)) :
    FnOkG P w K mg base 9 f fd ["script"] (spLaw K [(cL_arcs_gathered, PL_arcs_gathered)]) := by
  refine fn_okG F sc_law (fun vs H Q E h => ?_) (fun cdv Ar outer s H vs Q E hG hr h => ⟨_, (pss_cons (ps_set (i := 1) sc_law.nd rfl (Or.inl rfl) (pe_d d__law_start (hr.mono (by decide)) (passes_call (takes_of rfl rfl rfl rfl) (fun _ _ _ _ h => h)) (pa_cons (pv 0) (pa_cons pe_int pa_nil))))
      (pss_cons (ps_set (i := 2) sc_law.nd rfl (Or.inl rfl) (pe_ifExp (pt_cmpR op_eq (pe_d d__law_draw (hr.mono (by decide)) (passes_call (takes_of rfl rfl rfl rfl) (fun _ _ _ _ h => h)) (pa_cons (pv 1) (pa_cons pe_int pa_nil))) pe_int (nomark _)) pe_int (pe_d d__law_draw (hr.mono (by decide)) (passes_call (takes_of rfl rfl rfl rfl) (fun _ _ _ _ h => h)) (pa_cons (pv 1) (pa_cons pe_int pa_nil)))))
      (pss_cons (ps_set (i := 3) sc_law.nd rfl (Or.inl rfl) (pe_d d__law_set (hr.mono (by decide)) (passes_call (takes_of rfl rfl rfl rfl) (fun _ _ _ _ h => h)) (pa_cons (pv 1) (pa_cons (pv 2) pa_nil))))
      (pss_cons (ps_set (i := 4) sc_law.nd rfl (Or.inl rfl) (pe_d d__law_set (hr.mono (by decide)) (passes_call (takes_of rfl rfl rfl rfl) (fun _ _ _ _ h => h)) (pa_cons (pe_d d__law_start (hr.mono (by decide)) (passes_call (takes_of rfl rfl rfl rfl) (fun _ _ _ _ h => h)) (pa_cons (pv 0) (pa_cons pe_int pa_nil))) (pa_cons (pv 2) pa_nil))))
      (pss_cons (ps_set (i := 1) sc_law.nd rfl (Or.inl rfl) (pe_d d__law_start (hr.mono (by decide)) (passes_call (takes_of rfl rfl rfl rfl) (fun _ _ _ _ h => h)) (pa_cons (pv 0) (pa_cons pe_int pa_nil))))
      (pss_cons (ps_set (i := 5) sc_law.nd rfl (Or.inl rfl) (pe_op op_sub (pe_d d__law_draw (hr.mono (by decide)) (passes_call (takes_of rfl rfl rfl rfl) (fun _ _ _ _ h => h)) (pa_cons (pv 1) (pa_cons pe_int pa_nil))) pe_int))
      (pss_cons (ps_set (i := 6) sc_law.nd rfl (Or.inl rfl) (pe_op op_add (pv 5) (pe_d d__law_draw (hr.mono (by decide)) (passes_call (takes_of rfl rfl rfl rfl) (fun _ _ _ _ h => h)) (pa_cons (pv 1) (pa_cons pe_int pa_nil)))))
      (pss_cons (ps_set (i := 7) sc_law.nd rfl (Or.inl rfl) (pe_d d__law_draw (hr.mono (by decide)) (passes_call (takes_of rfl rfl rfl rfl) (fun _ _ _ _ h => h)) (pa_cons (pv 1) (pa_cons pe_int pa_nil))))
      (pss_cons (ps_if (PW.pt (pw_or (pt_not (pt_val (pe_d d__law_pairs_ok (hr.mono (by decide)) (passes_call (takes_of rfl rfl rfl rfl) (fun _ _ _ _ h => h)) (pa_cons (pv 3) (pa_cons (pv 4) (pa_cons (pv 2) pa_nil)))))) (pw_or1 (pt_not (pt_val (pe_d d__law_moves_ok (hr.mono (by decide)) (passes_call (takes_of rfl rfl rfl rfl) (fun _ _ _ _ h => h)) (pa_cons (pv 3) (pa_cons (pv 2) (pa_cons (pv 5) (pa_cons (pv 6) (pa_cons (pv 7) pa_nil))))))))))) (pss_one (ps_ret pe_bl)) pss_nil)
      (pss_cons (ps_if (pt_not (pt_val (pe_d d__law_moves_ok (hr.mono (by decide)) (passes_call (takes_of rfl rfl rfl rfl) (fun _ _ _ _ h => h)) (pa_cons (pv 4) (pa_cons (pv 2) (pa_cons (pv 5) (pa_cons (pe_op op_add (pv 5) (pv 7)) (pa_cons (pe_d d__law_draw (hr.mono (by decide)) (passes_call (takes_of rfl rfl rfl rfl) (fun _ _ _ _ h => h)) (pa_cons (pv 1) (pa_cons pe_int pa_nil))) pa_nil)))))))) (pss_one (ps_ret pe_bl)) pss_nil)
      (pss_cons (ps_if (PW.pt (pw_or (pt_not (pt_val (pe_d d__law_pulled_ok (hr.mono (by decide)) (passes_call (takes_of rfl rfl rfl rfl) (fun _ _ _ _ h => h)) (pa_cons (pv 3) (pa_cons (pv 2) (pa_cons (pv 5) (pa_cons (pv 6) (pa_cons (pv 7) pa_nil)))))))) (pw_or1 (pt_not (pt_val (pe_d d__law_pulled_ok (hr.mono (by decide)) (passes_call (takes_of rfl rfl rfl rfl) (fun _ _ _ _ h => h)) (pa_cons (pv 4) (pa_cons (pv 2) (pa_cons (pv 6) (pa_cons (pv 5) (pa_cons (pe_d d__law_draw (hr.mono (by decide)) (passes_call (takes_of rfl rfl rfl rfl) (fun _ _ _ _ h => h)) (pa_cons (pv 1) (pa_cons pe_int pa_nil))) pa_nil))))))))))) (pss_one (ps_ret pe_bl)) pss_nil)
      (pss_one (ps_ret (pe_and (pe_dG d__law_lines_ok hG (hr.mono (by decide)) (passes_call (takes_of rfl rfl rfl rfl) (fun _ _ _ _ h => h)) (pa_cons (pv 3) (pa_cons (pv 2) (pa_cons (pe_d d__law_draw (hr.mono (by decide)) (passes_call (takes_of rfl rfl rfl rfl) (fun _ _ _ _ h => h)) (pa_cons (pv 1) (pa_cons pe_int pa_nil))) pa_nil)))) (pe_and (pe_dG d__law_lines_ok hG (hr.mono (by decide)) (passes_call (takes_of rfl rfl rfl rfl) (fun _ _ _ _ h => h)) (pa_cons (pv 4) (pa_cons (pv 2) (pa_cons pe_int pa_nil)))) (pe_one (pe_d d__law_bound_ok (hr.mono (by decide)) (passes_call (takes_of rfl rfl rfl rfl) (fun _ _ _ _ h => h)) (pa_cons (pv 4) pa_nil)))))))))))))))))), bodyP_run (f := fLaw) (fun B W0 G0 ds R er h => ?_) (spLawT_P hTb h)⟩)
  · obtain ⟨a, ns, rfl, _⟩ := h
    rfl
  · obtain ⟨ns, rfl, hn, h⟩ := h
    walk_at "pu0"
    refine ⟨ns, 0, rfl, by decide, by decide, hn, ?_⟩
    walk_at "pg"
    refine sx_set' (ev_mid (fun d => ∃ b : Int, d = .int b ∧ 0 ≤ b ∧ b ≤ 900000) ?_ ?_)
    · walk_at "pu"
      refine ⟨2, rfl, by decide, by decide, fun z _ _ => ?_⟩
      walk_at "pu"
      refine iteP (fun c => ?_) (fun c => ?_)
      · walk_at "pu"
        exact ⟨by decide, by decide⟩
      · walk_at "pu"
        exact ⟨900001, rfl, by decide, by decide, fun b h0 h1 => ⟨b, rfl, h0, by omega⟩⟩
    rintro _ ⟨b, rfl, b0, b1⟩
    walk_at "pu"
    refine ⟨b, rfl, b0, by omega, fun r kr => ?_⟩
    walk_at "pu"
    refine ⟨ns, 1, rfl, by decide, by decide, hn, ?_⟩
    walk_at "pu"
    refine ⟨b, rfl, b0, by omega, fun s ks => ?_⟩
    walk_at "pu"
    refine ⟨ns, 2, rfl, by decide, by decide, hn, ?_⟩
    walk_at "pu"
    refine ⟨19, rfl, by decide, by decide, fun l l0 l1 => ?_⟩
    walk_at "pu"
    refine ⟨10, rfl, by decide, by decide, fun g g0 g1 => ?_⟩
    walk_at "pu"
    refine ⟨7, rfl, by decide, by decide, fun pad p0 p1 => ?_⟩
    walk_at "pu"
    refine ⟨b, r, s, rfl, kr, ks, ?_⟩
    walk_at "pu"
    refine ⟨b, r, l - 9, l - 9 + g, pad, rfl, kr, by omega, by omega, by omega, by omega, by omega, ?_⟩
    walk_at "pu"
    refine ⟨7, rfl, by decide, by decide, fun q q0 q1 => ?_⟩
    walk_at "pu"
    refine ⟨b, s, l - 9, l - 9 + pad, q, rfl, ks, by omega, by omega, by omega, by omega, by omega, ?_⟩
    walk_at "pu"
    refine ⟨b, r, l - 9, l - 9 + g, pad, rfl, kr, by omega, by omega, by omega, by omega, by omega, by omega, ?_⟩
    walk_at "pu"
    refine ⟨4, rfl, by decide, by decide, fun u u0 u1 => ?_⟩
    walk_at "pu"
    refine ⟨b, s, l - 9 + g, l - 9, u, rfl, ks, by omega, by omega, by omega, by omega, by omega, by omega, ?_⟩
    walk_at "pu"
    refine ⟨99, rfl, by decide, by decide, fun t t0 t1 => ?_⟩
    walk_at "pu"
    refine ⟨b, r, t, rfl, kr, by omega, by omega, by omega, ?_⟩
    walk_at "pu"
    refine ⟨b, s, 98, rfl, ks, by omega, by omega, by omega, ?_⟩
    walk_at "pu"
    exact ⟨b, s, rfl, ks, h⟩
end
end K09
namespace K09
open PySem PySem.Spec PyProof.Rows L2 Evl Lay Pu
theorem all_mk {q0 : Program} {l : PySem.W.OpenLaw} {w : World} {K : PySem.W.Frag} {h : Heap} {mg : Str → Option Value} {fa : Addr} (X : K.In h) (G : h.Ns mainGlobals mg) (hfa : mg "law" = some (.ref fa))
    {tkL : Tok}
    {CB : Addr}
    {CT fT NT : Addr} {nmT qT : Str} {bsT : List Value} {snT : List Str} {subT : List Value} {abT : Bool} {colT : Option Bool} {ddT odT anT : Option Addr} {maT mbT mcT mdT meT : Option Value} {ocT dcT pmT cdT ctT kvT : Value} {slT : Array (Option Value)}
    {p1 : Addr} {e1 n1 : Option Addr} {v1 : Array (Option Value)} {o1 k1 d1 m1 c1 t1 : Value}
    {p2 : Addr} {e2 n2 : Option Addr} {v2 : Array (Option Value)} {o2 k2 d2 m2 c2 t2 : Value}
    {p3 : Addr} {e3 n3 : Option Addr} {v3 : Array (Option Value)} {o3 k3 d3 m3 c3 t3 : Value}
    {p4 : Addr} {e4 n4 : Option Addr} {v4 : Array (Option Value)} {o4 k4 d4 m4 t4 : Value}
    {cL_arcs_gathered PL_arcs_gathered : Addr}
    {wA4 : Value} {wB4 : Option Addr} {wC4 : Array Value} {wD4 : Array (Option Value)}
    {p5 : Addr} {e5 n5 : Option Addr} {v5 : Array (Option Value)} {o5 k5 d5 m5 c5 t5 : Value}
    {p6 : Addr} {e6 n6 : Option Addr} {v6 : Array (Option Value)} {o6 k6 d6 m6 c6 t6 : Value}
    {p7 : Addr} {e7 n7 : Option Addr} {v7 : Array (Option Value)} {o7 k7 d7 m7 c7 t7 : Value}
    {p8 : Addr} {e8 n8 : Option Addr} {v8 : Array (Option Value)} {o8 k8 d8 m8 c8 t8 : Value}
    {p9 : Addr} {e9 n9 : Option Addr} {v9 : Array (Option Value)} {o9 k9 d9 m9 c9 t9 : Value}
    {p10 : Addr} {e10 n10 : Option Addr} {v10 : Array (Option Value)} {o10 k10 d10 m10 c10 t10 : Value}
    {p11 : Addr} {e11 n11 : Option Addr} {v11 : Array (Option Value)} {o11 k11 d11 m11 c11 t11 : Value}
    {p12 : Addr} {e12 n12 : Option Addr} {v12 : Array (Option Value)} {o12 k12 d12 m12 c12 t12 : Value}
    {p13 : Addr} {e13 n13 : Option Addr} {v13 : Array (Option Value)} {o13 k13 d13 m13 c13 t13 : Value}
    {p14 : Addr} {e14 n14 : Option Addr} {v14 : Array (Option Value)} {o14 k14 d14 m14 c14 t14 : Value}
    {p15 : Addr} {e15 n15 : Option Addr} {v15 : Array (Option Value)} {o15 k15 d15 m15 c15 t15 : Value}
    {p16 : Addr} {e16 n16 : Option Addr} {v16 : Array (Option Value)} {o16 k16 d16 m16 c16 t16 : Value}
    {p17 : Addr} {e17 n17 : Option Addr} {v17 : Array (Option Value)} {o17 k17 d17 m17 c17 t17 : Value}
    {p18 : Addr} {e18 n18 : Option Addr} {v18 : Array (Option Value)} {o18 k18 d18 m18 c18 t18 : Value}
    {p19 : Addr} {e19 n19 : Option Addr} {v19 : Array (Option Value)} {o19 k19 d19 m19 c19 t19 : Value}
    {p20 : Addr} {e20 n20 : Option Addr} {v20 : Array (Option Value)} {o20 k20 d20 m20 c20 t20 : Value}
    {p21 : Addr} {e21 n21 : Option Addr} {v21 : Array (Option Value)} {o21 k21 d21 m21 c21 t21 : Value}
    {p22 : Addr} {e22 n22 : Option Addr} {v22 : Array (Option Value)} {o22 k22 d22 m22 c22 t22 : Value}
    {p23 : Addr} {e23 n23 : Option Addr} {v23 : Array (Option Value)} {o23 k23 d23 m23 c23 t23 : Value}
    {p24 : Addr} {e24 n24 : Option Addr} {v24 : Array (Option Value)} {o24 k24 d24 m24 c24 t24 : Value}
    {p25 : Addr} {e25 n25 : Option Addr} {v25 : Array (Option Value)} {o25 k25 d25 m25 c25 t25 : Value}
    {p26 : Addr} {e26 n26 : Option Addr} {v26 : Array (Option Value)} {o26 k26 d26 m26 c26 t26 : Value}
    {p27 : Addr} {e27 n27 : Option Addr} {v27 : Array (Option Value)} {o27 k27 d27 m27 c27 t27 : Value}
    {p28 : Addr} {e28 n28 : Option Addr} {v28 : Array (Option Value)} {o28 k28 d28 m28 c28 t28 : Value}
    {p29 : Addr} {e29 n29 : Option Addr} {v29 : Array (Option Value)} {o29 k29 d29 m29 c29 t29 : Value}
    {p30 : Addr} {e30 n30 : Option Addr} {v30 : Array (Option Value)} {o30 k30 d30 m30 c30 t30 : Value}
    {pL : Addr} {eL nL : Option Addr} {vL : Array (Option Value)} {oL kL dL mL cL tL : Value}
    (z_abs : PySem.W.nsIn K mainGlobals "abs" = some none)
    (z_bool : PySem.W.nsIn K mainGlobals "bool" = some none)
    (z_int : PySem.W.nsIn K mainGlobals "int" = some none)
    (z_isinstance : PySem.W.nsIn K mainGlobals "isinstance" = some none)
    (z_len : PySem.W.nsIn K mainGlobals "len" = some none)
    (z_list : PySem.W.nsIn K mainGlobals "list" = some none)
    (z_max : PySem.W.nsIn K mainGlobals "max" = some none)
    (z_min : PySem.W.nsIn K mainGlobals "min" = some none)
    (z_range : PySem.W.nsIn K mainGlobals "range" = some none)
    (z_repr : PySem.W.nsIn K mainGlobals "repr" = some none)
    (z_sorted : PySem.W.nsIn K mainGlobals "sorted" = some none)
    (z_sum : PySem.W.nsIn K mainGlobals "sum" = some none)
    (z_tuple : PySem.W.nsIn K mainGlobals "tuple" = some none)
    (g_LINES : PySem.W.nsIn K mainGlobals "LINES" = some (some (.int 1000000 tkL)))
    (aB : PySem.W.nsIn K mainGlobals "ComesError" = some (some (.ref CB)))
    (rB : PySem.W.readsIn K CB (.type "type") = true)
    (sB : PySem.W.specialIn K (.ref CB) "__getattribute__" = some (some (.builtin "type.__getattribute__")))
    (vB : PySem.W.findCls K (.ref CB) (.type "type") "__init__" = some (.val (.builtin "ValueError.__init__")))
    (aT : PySem.W.nsIn K mainGlobals "TooMany" = some (some (.ref CT)))
    (xT : K.lookup CT = some (excClassObj nmT qT CT NT bsT [.ref CB, .type "ValueError", .type "Exception", .type "BaseException", .type "object"] true snT subT abT colT ddT maT mbT mcT mdT meT "ValueError.__new__"))
    (saT : PySem.W.findIn K (.ref CT) "__setattr__" = some (some (.builtin "object.__setattr__")))
    (gaT : PySem.W.findIn K (.ref CT) "__getattribute__" = some (some (.builtin "BaseException.__getattribute__")))
    (ggT : PySem.W.findIn K (.ref CT) "__getattr__" = some none)
    (noT : PySem.W.findIn K (.ref CT) "what" = some none)
    (iT : PySem.W.findIn K (.ref CT) "__init__" = some (some (.ref fT)))
    (tyT : PySem.W.typeIn K (.ref fT) = some (.type "function"))
    (lT : K.lookup fT = some ⟨ocT, odT, .func (PySem.W.fnOf "__init__" "TooMany.__init__" (defArgs s_TooMany___init__) (defBody s_TooMany___init__) (defScope s_TooMany___init__) .none kvT dcT pmT anT cdT ctT), slT⟩)
    (cT : PySem.W.codeIn K cdT "TooMany.__init__" = true)
    (kfT : PySem.W.keepIn K (.ref fT) = true)
    (kCT : PySem.W.keepIn K (.ref CT) = true)
    (eCT : PySem.W.subIn K (.ref CT) (.type "BaseException") = some true)
    (tCT : PySem.W.typeIn K (.ref CT) = some (.type "type"))
    (hCT : PySem.W.hasDictIn K CT = true)
    (iCT : PySem.W.isClsIn K CT = true)
    (sCT : PySem.W.subIn K (.ref CT) (.ref CT) = some true)
    (a1 : PySem.W.nsIn K mainGlobals "is_whole" = some (some (.ref p1)))
    (l1 : K.lookup p1 = some ⟨o1, e1, .func (PySem.W.fnOf "is_whole" "is_whole" (defArgs s_is_whole) (defBody s_is_whole) (defScope s_is_whole) .none k1 d1 m1 n1 c1 t1), v1⟩)
    (c1x : PySem.W.codeIn K c1 "is_whole" = true)
    (k1x : PySem.W.keepIn K (.ref p1) = true)
    (a2 : PySem.W.nsIn K mainGlobals "check_most" = some (some (.ref p2)))
    (l2 : K.lookup p2 = some ⟨o2, e2, .func (PySem.W.fnOf "check_most" "check_most" (defArgs s_check_most) (defBody s_check_most) (defScope s_check_most) .none k2 d2 m2 n2 c2 t2), v2⟩)
    (c2x : PySem.W.codeIn K c2 "check_most" = true)
    (k2x : PySem.W.keepIn K (.ref p2) = true)
    (a3 : PySem.W.nsIn K mainGlobals "lesser_end" = some (some (.ref p3)))
    (l3 : K.lookup p3 = some ⟨o3, e3, .func (PySem.W.fnOf "lesser_end" "lesser_end" (defArgs s_lesser_end) (defBody s_lesser_end) (defScope s_lesser_end) .none k3 d3 m3 n3 c3 t3), v3⟩)
    (c3x : PySem.W.codeIn K c3 "lesser_end" = true)
    (k3x : PySem.W.keepIn K (.ref p3) = true)
    (a4 : PySem.W.nsIn K mainGlobals "arcs_gathered" = some (some (.ref p4)))
    (l4 : K.lookup p4 = some ⟨o4, e4, .func (PySem.W.fnOf "arcs_gathered" "arcs_gathered" (defArgs s_arcs_gathered) (defBody s_arcs_gathered) (defScope s_arcs_gathered) .none k4 d4 m4 n4 (.ref cL_arcs_gathered) t4), v4⟩)
    (c4x : PySem.W.codeIn K (.ref cL_arcs_gathered) "arcs_gathered" = true)
    (lt4 : K.lookup cL_arcs_gathered = some ⟨wA4, wB4, .fields wC4, wD4⟩)
    (hv4 : wC4[11]? = some (.ref PL_arcs_gathered))
    (nl4 : K.lookup PL_arcs_gathered = none)
    (k4x : PySem.W.keepIn K (.ref p4) = true)
    (a5 : PySem.W.nsIn K mainGlobals "arcs_union" = some (some (.ref p5)))
    (l5 : K.lookup p5 = some ⟨o5, e5, .func (PySem.W.fnOf "arcs_union" "arcs_union" (defArgs s_arcs_union) (defBody s_arcs_union) (defScope s_arcs_union) .none k5 d5 m5 n5 c5 t5), v5⟩)
    (c5x : PySem.W.codeIn K c5 "arcs_union" = true)
    (k5x : PySem.W.keepIn K (.ref p5) = true)
    (a6 : PySem.W.nsIn K mainGlobals "arcs_meet" = some (some (.ref p6)))
    (l6 : K.lookup p6 = some ⟨o6, e6, .func (PySem.W.fnOf "arcs_meet" "arcs_meet" (defArgs s_arcs_meet) (defBody s_arcs_meet) (defScope s_arcs_meet) .none k6 d6 m6 n6 c6 t6), v6⟩)
    (c6x : PySem.W.codeIn K c6 "arcs_meet" = true)
    (k6x : PySem.W.keepIn K (.ref p6) = true)
    (a7 : PySem.W.nsIn K mainGlobals "arcs_other" = some (some (.ref p7)))
    (l7 : K.lookup p7 = some ⟨o7, e7, .func (PySem.W.fnOf "arcs_other" "arcs_other" (defArgs s_arcs_other) (defBody s_arcs_other) (defScope s_arcs_other) .none k7 d7 m7 n7 c7 t7), v7⟩)
    (c7x : PySem.W.codeIn K c7 "arcs_other" = true)
    (k7x : PySem.W.keepIn K (.ref p7) = true)
    (a8 : PySem.W.nsIn K mainGlobals "arcs_minus" = some (some (.ref p8)))
    (l8 : K.lookup p8 = some ⟨o8, e8, .func (PySem.W.fnOf "arcs_minus" "arcs_minus" (defArgs s_arcs_minus) (defBody s_arcs_minus) (defScope s_arcs_minus) .none k8 d8 m8 n8 c8 t8), v8⟩)
    (c8x : PySem.W.codeIn K c8 "arcs_minus" = true)
    (k8x : PySem.W.keepIn K (.ref p8) = true)
    (a9 : PySem.W.nsIn K mainGlobals "arcs_widen" = some (some (.ref p9)))
    (l9 : K.lookup p9 = some ⟨o9, e9, .func (PySem.W.fnOf "arcs_widen" "arcs_widen" (defArgs s_arcs_widen) (defBody s_arcs_widen) (defScope s_arcs_widen) .none k9 d9 m9 n9 c9 t9), v9⟩)
    (c9x : PySem.W.codeIn K c9 "arcs_widen" = true)
    (k9x : PySem.W.keepIn K (.ref p9) = true)
    (a10 : PySem.W.nsIn K mainGlobals "arcs_shift" = some (some (.ref p10)))
    (l10 : K.lookup p10 = some ⟨o10, e10, .func (PySem.W.fnOf "arcs_shift" "arcs_shift" (defArgs s_arcs_shift) (defBody s_arcs_shift) (defScope s_arcs_shift) .none k10 d10 m10 n10 c10 t10), v10⟩)
    (c10x : PySem.W.codeIn K c10 "arcs_shift" = true)
    (k10x : PySem.W.keepIn K (.ref p10) = true)
    (a11 : PySem.W.nsIn K mainGlobals "arcs_joined" = some (some (.ref p11)))
    (l11 : K.lookup p11 = some ⟨o11, e11, .func (PySem.W.fnOf "arcs_joined" "arcs_joined" (defArgs s_arcs_joined) (defBody s_arcs_joined) (defScope s_arcs_joined) .none k11 d11 m11 n11 c11 t11), v11⟩)
    (c11x : PySem.W.codeIn K c11 "arcs_joined" = true)
    (k11x : PySem.W.keepIn K (.ref p11) = true)
    (a12 : PySem.W.nsIn K mainGlobals "arcs_pulled" = some (some (.ref p12)))
    (l12 : K.lookup p12 = some ⟨o12, e12, .func (PySem.W.fnOf "arcs_pulled" "arcs_pulled" (defArgs s_arcs_pulled) (defBody s_arcs_pulled) (defScope s_arcs_pulled) .none k12 d12 m12 n12 c12 t12), v12⟩)
    (c12x : PySem.W.codeIn K c12 "arcs_pulled" = true)
    (k12x : PySem.W.keepIn K (.ref p12) = true)
    (a13 : PySem.W.nsIn K mainGlobals "arcs_hold" = some (some (.ref p13)))
    (l13 : K.lookup p13 = some ⟨o13, e13, .func (PySem.W.fnOf "arcs_hold" "arcs_hold" (defArgs s_arcs_hold) (defBody s_arcs_hold) (defScope s_arcs_hold) .none k13 d13 m13 n13 c13 t13), v13⟩)
    (c13x : PySem.W.codeIn K c13 "arcs_hold" = true)
    (k13x : PySem.W.keepIn K (.ref p13) = true)
    (a14 : PySem.W.nsIn K mainGlobals "arcs_lines" = some (some (.ref p14)))
    (l14 : K.lookup p14 = some ⟨o14, e14, .func (PySem.W.fnOf "arcs_lines" "arcs_lines" (defArgs s_arcs_lines) (defBody s_arcs_lines) (defScope s_arcs_lines) .none k14 d14 m14 n14 c14 t14), v14⟩)
    (c14x : PySem.W.codeIn K c14 "arcs_lines" = true)
    (k14x : PySem.W.keepIn K (.ref p14) = true)
    (a15 : PySem.W.nsIn K mainGlobals "_law_purse" = some (some (.ref p15)))
    (l15 : K.lookup p15 = some ⟨o15, e15, .func (PySem.W.fnOf "_law_purse" "_law_purse" (defArgs s__law_purse) (defBody s__law_purse) (defScope s__law_purse) .none k15 d15 m15 n15 c15 t15), v15⟩)
    (c15x : PySem.W.codeIn K c15 "_law_purse" = true)
    (k15x : PySem.W.keepIn K (.ref p15) = true)
    (a16 : PySem.W.nsIn K mainGlobals "_law_draw" = some (some (.ref p16)))
    (l16 : K.lookup p16 = some ⟨o16, e16, .func (PySem.W.fnOf "_law_draw" "_law_draw" (defArgs s__law_draw) (defBody s__law_draw) (defScope s__law_draw) .none k16 d16 m16 n16 c16 t16), v16⟩)
    (c16x : PySem.W.codeIn K c16 "_law_draw" = true)
    (k16x : PySem.W.keepIn K (.ref p16) = true)
    (a17 : PySem.W.nsIn K mainGlobals "_law_start" = some (some (.ref p17)))
    (l17 : K.lookup p17 = some ⟨o17, e17, .func (PySem.W.fnOf "_law_start" "_law_start" (defArgs s__law_start) (defBody s__law_start) (defScope s__law_start) .none k17 d17 m17 n17 c17 t17), v17⟩)
    (c17x : PySem.W.codeIn K c17 "_law_start" = true)
    (k17x : PySem.W.keepIn K (.ref p17) = true)
    (a18 : PySem.W.nsIn K mainGlobals "_law_same" = some (some (.ref p18)))
    (l18 : K.lookup p18 = some ⟨o18, e18, .func (PySem.W.fnOf "_law_same" "_law_same" (defArgs s__law_same) (defBody s__law_same) (defScope s__law_same) .none k18 d18 m18 n18 c18 t18), v18⟩)
    (c18x : PySem.W.codeIn K c18 "_law_same" = true)
    (k18x : PySem.W.keepIn K (.ref p18) = true)
    (a19 : PySem.W.nsIn K mainGlobals "_law_in" = some (some (.ref p19)))
    (l19 : K.lookup p19 = some ⟨o19, e19, .func (PySem.W.fnOf "_law_in" "_law_in" (defArgs s__law_in) (defBody s__law_in) (defScope s__law_in) .none k19 d19 m19 n19 c19 t19), v19⟩)
    (c19x : PySem.W.codeIn K c19 "_law_in" = true)
    (k19x : PySem.W.keepIn K (.ref p19) = true)
    (a20 : PySem.W.nsIn K mainGlobals "_law_set" = some (some (.ref p20)))
    (l20 : K.lookup p20 = some ⟨o20, e20, .func (PySem.W.fnOf "_law_set" "_law_set" (defArgs s__law_set) (defBody s__law_set) (defScope s__law_set) .none k20 d20 m20 n20 c20 t20), v20⟩)
    (c20x : PySem.W.codeIn K c20 "_law_set" = true)
    (k20x : PySem.W.keepIn K (.ref p20) = true)
    (a21 : PySem.W.nsIn K mainGlobals "_law_is_arcs" = some (some (.ref p21)))
    (l21 : K.lookup p21 = some ⟨o21, e21, .func (PySem.W.fnOf "_law_is_arcs" "_law_is_arcs" (defArgs s__law_is_arcs) (defBody s__law_is_arcs) (defScope s__law_is_arcs) .none k21 d21 m21 n21 c21 t21), v21⟩)
    (c21x : PySem.W.codeIn K c21 "_law_is_arcs" = true)
    (k21x : PySem.W.keepIn K (.ref p21) = true)
    (a22 : PySem.W.nsIn K mainGlobals "_law_arcs_are" = some (some (.ref p22)))
    (l22 : K.lookup p22 = some ⟨o22, e22, .func (PySem.W.fnOf "_law_arcs_are" "_law_arcs_are" (defArgs s__law_arcs_are) (defBody s__law_arcs_are) (defScope s__law_arcs_are) .none k22 d22 m22 n22 c22 t22), v22⟩)
    (c22x : PySem.W.codeIn K c22 "_law_arcs_are" = true)
    (k22x : PySem.W.keepIn K (.ref p22) = true)
    (a23 : PySem.W.nsIn K mainGlobals "_law_due_widen" = some (some (.ref p23)))
    (l23 : K.lookup p23 = some ⟨o23, e23, .func (PySem.W.fnOf "_law_due_widen" "_law_due_widen" (defArgs s__law_due_widen) (defBody s__law_due_widen) (defScope s__law_due_widen) .none k23 d23 m23 n23 c23 t23), v23⟩)
    (c23x : PySem.W.codeIn K c23 "_law_due_widen" = true)
    (k23x : PySem.W.keepIn K (.ref p23) = true)
    (a24 : PySem.W.nsIn K mainGlobals "_law_due_joined" = some (some (.ref p24)))
    (l24 : K.lookup p24 = some ⟨o24, e24, .func (PySem.W.fnOf "_law_due_joined" "_law_due_joined" (defArgs s__law_due_joined) (defBody s__law_due_joined) (defScope s__law_due_joined) .none k24 d24 m24 n24 c24 t24), v24⟩)
    (c24x : PySem.W.codeIn K c24 "_law_due_joined" = true)
    (k24x : PySem.W.keepIn K (.ref p24) = true)
    (a25 : PySem.W.nsIn K mainGlobals "_law_due_pulled" = some (some (.ref p25)))
    (l25 : K.lookup p25 = some ⟨o25, e25, .func (PySem.W.fnOf "_law_due_pulled" "_law_due_pulled" (defArgs s__law_due_pulled) (defBody s__law_due_pulled) (defScope s__law_due_pulled) .none k25 d25 m25 n25 c25 t25), v25⟩)
    (c25x : PySem.W.codeIn K c25 "_law_due_pulled" = true)
    (k25x : PySem.W.keepIn K (.ref p25) = true)
    (a26 : PySem.W.nsIn K mainGlobals "_law_pulled_ok" = some (some (.ref p26)))
    (l26 : K.lookup p26 = some ⟨o26, e26, .func (PySem.W.fnOf "_law_pulled_ok" "_law_pulled_ok" (defArgs s__law_pulled_ok) (defBody s__law_pulled_ok) (defScope s__law_pulled_ok) .none k26 d26 m26 n26 c26 t26), v26⟩)
    (c26x : PySem.W.codeIn K c26 "_law_pulled_ok" = true)
    (k26x : PySem.W.keepIn K (.ref p26) = true)
    (a27 : PySem.W.nsIn K mainGlobals "_law_moves_ok" = some (some (.ref p27)))
    (l27 : K.lookup p27 = some ⟨o27, e27, .func (PySem.W.fnOf "_law_moves_ok" "_law_moves_ok" (defArgs s__law_moves_ok) (defBody s__law_moves_ok) (defScope s__law_moves_ok) .none k27 d27 m27 n27 c27 t27), v27⟩)
    (c27x : PySem.W.codeIn K c27 "_law_moves_ok" = true)
    (k27x : PySem.W.keepIn K (.ref p27) = true)
    (a28 : PySem.W.nsIn K mainGlobals "_law_lines_ok" = some (some (.ref p28)))
    (l28 : K.lookup p28 = some ⟨o28, e28, .func (PySem.W.fnOf "_law_lines_ok" "_law_lines_ok" (defArgs s__law_lines_ok) (defBody s__law_lines_ok) (defScope s__law_lines_ok) .none k28 d28 m28 n28 c28 t28), v28⟩)
    (c28x : PySem.W.codeIn K c28 "_law_lines_ok" = true)
    (k28x : PySem.W.keepIn K (.ref p28) = true)
    (a29 : PySem.W.nsIn K mainGlobals "_law_bound_ok" = some (some (.ref p29)))
    (l29 : K.lookup p29 = some ⟨o29, e29, .func (PySem.W.fnOf "_law_bound_ok" "_law_bound_ok" (defArgs s__law_bound_ok) (defBody s__law_bound_ok) (defScope s__law_bound_ok) .none k29 d29 m29 n29 c29 t29), v29⟩)
    (c29x : PySem.W.codeIn K c29 "_law_bound_ok" = true)
    (k29x : PySem.W.keepIn K (.ref p29) = true)
    (a30 : PySem.W.nsIn K mainGlobals "_law_pairs_ok" = some (some (.ref p30)))
    (l30 : K.lookup p30 = some ⟨o30, e30, .func (PySem.W.fnOf "_law_pairs_ok" "_law_pairs_ok" (defArgs s__law_pairs_ok) (defBody s__law_pairs_ok) (defScope s__law_pairs_ok) .none k30 d30 m30 n30 c30 t30), v30⟩)
    (c30x : PySem.W.codeIn K c30 "_law_pairs_ok" = true)
    (k30x : PySem.W.keepIn K (.ref p30) = true)
    (kT1 : PySem.W.kitOne K (.ref CT) (.ref CB) = some true)
    (xT1 : (PySem.W.clsIn K CT).isSome = true)
    (xT5 : PySem.W.findIn K (.ref CT) "__class__" = some (some (.builtin "object.__class__")))
    (xT6 : PySem.W.specialIn K (.builtin "object.__class__") "__get__" = some (some (.builtin "getset_descriptor.__get__")))
    (xT7 : PySem.W.takesIn K (.builtin "object.__class__") = some true)
    (xT8 : PySem.W.mroIn K CT (.type "object") = some true)
    (rc_arcs_gathered : ((recsOf q0).find? fun e => e.name == ("arcs_gathered" : Str)).isSome = true)
    (aL : PySem.W.nsIn K mainGlobals "law" = some (some (.ref pL)))
    (lL : K.lookup pL = some ⟨oL, eL, .func (PySem.W.fnOf "law" "law" (defArgs s_law) (defBody s_law) (defScope s_law) .none kL dL mL nL cL tL), vL⟩)
    (cLx : PySem.W.codeIn K cL "law" = true)
    (kLx : PySem.W.keepIn K (.ref pL) = true)
    : ∃ (fd : FuncData) (cs : List (Addr × Addr)), (∀ p ∈ cs, (∃ x, ((recsOf q0).find? fun e => e.name == x).isSome = true ∧ PySem.W.tabIn K x = some p) ∧ K.lookup p.2 = none) ∧ (∀ (s : Shared) (v : Value), BindsTo s fd ⟨[v], []⟩ [("script", v)]) ∧ ∀ base : Heap, K.In base → base.Ns mainGlobals mg → (∀ p ∈ cs, LamX.TabB base mg p.1 p.2) → FnOkG l.prog w K mg base 9 fa fd ["script"] (spLaw K cs) := by
  have ef := hfa.symm.trans (PySem.W.mg_of X G aL)
  cases ef
  have T : Txt K mg CB tkL   := { n_abs := PySem.W.mg_none_of X G z_abs, n_bool := PySem.W.mg_none_of X G z_bool, n_int := PySem.W.mg_none_of X G z_int, n_isinstance := PySem.W.mg_none_of X G z_isinstance, n_len := PySem.W.mg_none_of X G z_len, n_list := PySem.W.mg_none_of X G z_list, n_max := PySem.W.mg_none_of X G z_max, n_min := PySem.W.mg_none_of X G z_min, n_range := PySem.W.mg_none_of X G z_range, n_repr := PySem.W.mg_none_of X G z_repr, n_sorted := PySem.W.mg_none_of X G z_sorted, n_sum := PySem.W.mg_none_of X G z_sum, n_tuple := PySem.W.mg_none_of X G z_tuple, g_LINES := PySem.W.mg_of X G g_LINES, g_ComesError := PySem.W.mg_of X G aB, rd_ComesError := ⟨rB, sB⟩, vi_ComesError := vB }
  have A_is_whole : At K mg "is_whole" s_is_whole ["value"] := at_mk X G a1 l1 c1x k1x (fun _ _ _ _ _ _ us hl => match us, hl with | [_], _ => rfl)
  have A_check_most : At K mg "check_most" s_check_most ["what", "many", "most"] := at_mk X G a2 l2 c2x k2x (fun _ _ _ _ _ _ us hl => match us, hl with | [_, _, _], _ => rfl)
  have A_lesser_end : At K mg "lesser_end" s_lesser_end ["one", "other"] := at_mk X G a3 l3 c3x k3x (fun _ _ _ _ _ _ us hl => match us, hl with | [_, _], _ => rfl)
  have A_arcs_gathered : AtL K mg "arcs_gathered" s_arcs_gathered ["rows"] cL_arcs_gathered := atL_mk X G a4 l4 c4x k4x (fun _ _ _ _ _ _ us hl => match us, hl with | [_], _ => rfl)
  have A_arcs_union : At K mg "arcs_union" s_arcs_union ["r", "s"] := at_mk X G a5 l5 c5x k5x (fun _ _ _ _ _ _ us hl => match us, hl with | [_, _], _ => rfl)
  have A_arcs_meet : At K mg "arcs_meet" s_arcs_meet ["r", "s"] := at_mk X G a6 l6 c6x k6x (fun _ _ _ _ _ _ us hl => match us, hl with | [_, _], _ => rfl)
  have A_arcs_other : At K mg "arcs_other" s_arcs_other ["r"] := at_mk X G a7 l7 c7x k7x (fun _ _ _ _ _ _ us hl => match us, hl with | [_], _ => rfl)
  have A_arcs_minus : At K mg "arcs_minus" s_arcs_minus ["r", "s"] := at_mk X G a8 l8 c8x k8x (fun _ _ _ _ _ _ us hl => match us, hl with | [_, _], _ => rfl)
  have A_arcs_widen : At K mg "arcs_widen" s_arcs_widen ["r", "low", "high"] := at_mk X G a9 l9 c9x k9x (fun _ _ _ _ _ _ us hl => match us, hl with | [_, _, _], _ => rfl)
  have A_arcs_shift : At K mg "arcs_shift" s_arcs_shift ["r", "lines"] := at_mk X G a10 l10 c10x k10x (fun _ _ _ _ _ _ us hl => match us, hl with | [_, _], _ => rfl)
  have A_arcs_joined : At K mg "arcs_joined" s_arcs_joined ["r", "pad"] := at_mk X G a11 l11 c11x k11x (fun _ _ _ _ _ _ us hl => match us, hl with | [_, _], _ => rfl)
  have A_arcs_pulled : At K mg "arcs_pulled" s_arcs_pulled ["r", "a", "b", "c"] := at_mk X G a12 l12 c12x k12x (fun _ _ _ _ _ _ us hl => match us, hl with | [_, _, _, _], _ => rfl)
  have A_arcs_hold : At K mg "arcs_hold" s_arcs_hold ["r", "line"] := at_mk X G a13 l13 c13x k13x (fun _ _ _ _ _ _ us hl => match us, hl with | [_, _], _ => rfl)
  have A_arcs_lines : At K mg "arcs_lines" s_arcs_lines ["r", "top"] := at_mk X G a14 l14 c14x k14x (fun _ _ _ _ _ _ us hl => match us, hl with | [_, _], _ => rfl)
  have A__law_purse : At K mg "_law_purse" s__law_purse ["script", "at"] := at_mk X G a15 l15 c15x k15x (fun _ _ _ _ _ _ us hl => match us, hl with | [_, _], _ => rfl)
  have A__law_draw : At K mg "_law_draw" s__law_draw ["purse", "many"] := at_mk X G a16 l16 c16x k16x (fun _ _ _ _ _ _ us hl => match us, hl with | [_, _], _ => rfl)
  have A__law_start : At K mg "_law_start" s__law_start ["script", "at"] := at_mk X G a17 l17 c17x k17x (fun _ _ _ _ _ _ us hl => match us, hl with | [_, _], _ => rfl)
  have A__law_same : At K mg "_law_same" s__law_same ["got", "due"] := at_mk X G a18 l18 c18x k18x (fun _ _ _ _ _ _ us hl => match us, hl with | [_, _], _ => rfl)
  have A__law_in : At K mg "_law_in" s__law_in ["known", "at"] := at_mk X G a19 l19 c19x k19x (fun _ _ _ _ _ _ us hl => match us, hl with | [_, _], _ => rfl)
  have A__law_set : At K mg "_law_set" s__law_set ["purse", "base"] := at_mk X G a20 l20 c20x k20x (fun _ _ _ _ _ _ us hl => match us, hl with | [_, _], _ => rfl)
  have A__law_is_arcs : At K mg "_law_is_arcs" s__law_is_arcs ["got"] := at_mk X G a21 l21 c21x k21x (fun _ _ _ _ _ _ us hl => match us, hl with | [_], _ => rfl)
  have A__law_arcs_are : At K mg "_law_arcs_are" s__law_arcs_are ["got", "base", "due"] := at_mk X G a22 l22 c22x k22x (fun _ _ _ _ _ _ us hl => match us, hl with | [_, _, _], _ => rfl)
  have A__law_due_widen : At K mg "_law_due_widen" s__law_due_widen ["known", "low", "high"] := at_mk X G a23 l23 c23x k23x (fun _ _ _ _ _ _ us hl => match us, hl with | [_, _, _], _ => rfl)
  have A__law_due_joined : At K mg "_law_due_joined" s__law_due_joined ["known", "pad"] := at_mk X G a24 l24 c24x k24x (fun _ _ _ _ _ _ us hl => match us, hl with | [_, _], _ => rfl)
  have A__law_due_pulled : At K mg "_law_due_pulled" s__law_due_pulled ["known", "a", "b", "c"] := at_mk X G a25 l25 c25x k25x (fun _ _ _ _ _ _ us hl => match us, hl with | [_, _, _, _], _ => rfl)
  have A__law_pulled_ok : At K mg "_law_pulled_ok" s__law_pulled_ok ["r", "base", "low", "high", "pad"] := at_mk X G a26 l26 c26x k26x (fun _ _ _ _ _ _ us hl => match us, hl with | [_, _, _, _, _], _ => rfl)
  have A__law_moves_ok : At K mg "_law_moves_ok" s__law_moves_ok ["r", "base", "low", "high", "pad"] := at_mk X G a27 l27 c27x k27x (fun _ _ _ _ _ _ us hl => match us, hl with | [_, _, _, _, _], _ => rfl)
  have A__law_lines_ok : At K mg "_law_lines_ok" s__law_lines_ok ["r", "base", "top"] := at_mk X G a28 l28 c28x k28x (fun _ _ _ _ _ _ us hl => match us, hl with | [_, _, _], _ => rfl)
  have A__law_bound_ok : At K mg "_law_bound_ok" s__law_bound_ok ["r"] := at_mk X G a29 l29 c29x k29x (fun _ _ _ _ _ _ us hl => match us, hl with | [_], _ => rfl)
  have A__law_pairs_ok : At K mg "_law_pairs_ok" s__law_pairs_ok ["r", "s", "base"] := at_mk X G a30 l30 c30x k30x (fun _ _ _ _ _ _ us hl => match us, hl with | [_, _, _], _ => rfl)
  have FL := fun_mk (st := s_law) lL cLx kLx
  refine ⟨PySem.W.fnOf "law" "law" (defArgs s_law) (defBody s_law) (defScope s_law) .none kL dL mL nL cL tL, [(cL_arcs_gathered, PL_arcs_gathered)], ?_, fun s v => .of_eq rfl, fun base _ _ hTB => ?_⟩
  · exact List.forall_mem_cons.mpr ⟨⟨⟨_, rc_arcs_gathered, tab_mk a4 l4 lt4 hv4⟩, nl4⟩, fun _ z => (List.not_mem_nil z).elim⟩
  have TB_arcs_gathered := hTB _ ( List.mem_cons_self)
  have LM_arcs_gathered : (PL_arcs_gathered, lamQ "arcs_gathered") ∈ ([(PL_arcs_gathered, lamQ "arcs_gathered")] : List (Addr × Str)) :=  List.mem_cons_self
  have LU_arcs_gathered : ∀ p ∈ ([(PL_arcs_gathered, lamQ "arcs_gathered")] : List (Addr × Str)), p.1 = PL_arcs_gathered → p.2 = lamQ "arcs_gathered" := fun p hp e => by rw [List.mem_singleton.mp hp]
  have hTb : ∀ p ∈ ([(PL_arcs_gathered, lamQ "arcs_gathered")] : List (Addr × Str)), ∃ c, (c, p.1) ∈ ([(cL_arcs_gathered, PL_arcs_gathered)] : List (Addr × Addr)) := fun p hp => by rw [List.mem_singleton.mp hp]; exact ⟨_, List.mem_cons_self⟩
  have oT : OexC K CT := ⟨⟨nmT, qT, NT, bsT, _, snT, subT, abT, colT, ddT, maT, mbT, mcT, mdT, meT, xT, rfl⟩, saT, eCT, tCT, kCT⟩
  have FT := fun_mk (st := s_TooMany___init__) lT cT kfT
  have bT := FT.binds (ps := ["self", "what"]) (fun _ _ _ _ _ _ us hl => match us, hl with | [_, _], _ => rfl)
  have x_TooMany : Exn l.prog w K mg base "TooMany" "what" CT := ⟨oT, PySem.W.mg_of X G aT, ⟨fT, _, iT, tyT, ok_initT T FT oT noT, bT⟩, ⟨gaT, ggT, eCT, hCT⟩, noT, exm_self eCT iCT tCT sCT⟩
  have xi_T : XI K CT := ⟨xT1, gaT, ggT, eCT, xT5, xT6, xT7, xT8⟩
  have d_is_whole : Def l.prog w K mg base "is_whole" 1 ["value"] (spP K [(PL_arcs_gathered, lamQ "arcs_gathered")] fWhole) := ok_is_whole T A_is_whole
  have d_check_most : Def l.prog w K mg base "check_most" 3 ["what", "many", "most"] (spP K [(PL_arcs_gathered, lamQ "arcs_gathered")] (fMost CT)) := ok_check_most T A_check_most x_TooMany d_is_whole
  have d_lesser_end : Def l.prog w K mg base "lesser_end" 1 ["one", "other"] (spP K [(PL_arcs_gathered, lamQ "arcs_gathered")] fLesser) := ok_lesser T A_lesser_end
  have d_arcs_gathered : Def l.prog w K mg base "arcs_gathered" 5 ["rows"] (spN K [(PL_arcs_gathered, lamQ "arcs_gathered")] fGath) := ok_gathered T A_arcs_gathered TB_arcs_gathered LM_arcs_gathered LU_arcs_gathered
  have d_arcs_union : Def l.prog w K mg base "arcs_union" 6 ["r", "s"] (spN K [(PL_arcs_gathered, lamQ "arcs_gathered")] fUnion) := ok_union T A_arcs_union d_arcs_gathered
  have d_arcs_meet : Def l.prog w K mg base "arcs_meet" 2 ["r", "s"] (spN K [(PL_arcs_gathered, lamQ "arcs_gathered")] fMeet) := ok_meet T A_arcs_meet d_lesser_end
  have d_arcs_other : Def l.prog w K mg base "arcs_other" 1 ["r"] (spN K [(PL_arcs_gathered, lamQ "arcs_gathered")] fOther) := ok_other T A_arcs_other
  have d_arcs_minus : Def l.prog w K mg base "arcs_minus" 3 ["r", "s"] (spN K [(PL_arcs_gathered, lamQ "arcs_gathered")] fMinus) := ok_minus T A_arcs_minus d_arcs_meet d_arcs_other
  have d_arcs_widen : Def l.prog w K mg base "arcs_widen" 6 ["r", "low", "high"] (spN K [(PL_arcs_gathered, lamQ "arcs_gathered")] fWiden) := ok_widen T A_arcs_widen d_arcs_gathered
  have d_arcs_shift : Def l.prog w K mg base "arcs_shift" 7 ["r", "lines"] (spN K [(PL_arcs_gathered, lamQ "arcs_gathered")] fShift) := ok_shift T A_arcs_shift d_arcs_widen
  have d_arcs_joined : Def l.prog w K mg base "arcs_joined" 1 ["r", "pad"] (spN K [(PL_arcs_gathered, lamQ "arcs_gathered")] fJoined) := ok_joined T A_arcs_joined
  have d_arcs_pulled : Def l.prog w K mg base "arcs_pulled" 6 ["r", "a", "b", "c"] (spN K [(PL_arcs_gathered, lamQ "arcs_gathered")] fPulled) := ok_pulled T A_arcs_pulled d_arcs_gathered d_arcs_joined
  have d_arcs_hold : Def l.prog w K mg base "arcs_hold" 1 ["r", "line"] (spP K [(PL_arcs_gathered, lamQ "arcs_gathered")] fHold) := ok_hold T A_arcs_hold
  have d_arcs_lines : Def l.prog w K mg base "arcs_lines" 4 ["r", "top"] (spN K [(PL_arcs_gathered, lamQ "arcs_gathered")] (fLines CT)) := ok_lines T A_arcs_lines d_check_most
  have d__law_purse : Def l.prog w K mg base "_law_purse" 1 ["script", "at"] (spP K [(PL_arcs_gathered, lamQ "arcs_gathered")] fPurse) := ok_purse T A__law_purse
  have d__law_draw : Def l.prog w K mg base "_law_draw" 1 ["purse", "many"] (spP K [(PL_arcs_gathered, lamQ "arcs_gathered")] fDraw) := ok_draw T A__law_draw
  have d__law_start : Def l.prog w K mg base "_law_start" 2 ["script", "at"] (spP K [(PL_arcs_gathered, lamQ "arcs_gathered")] fStart) := ok_start T A__law_start d__law_purse d__law_draw
  have d__law_same : DefG l.prog w K mg base "_law_same" 1 ["got", "due"] (spP K [(PL_arcs_gathered, lamQ "arcs_gathered")] fSame) := ok_same T A__law_same
  have d__law_in : Def l.prog w K mg base "_law_in" 1 ["known", "at"] (spP K [(PL_arcs_gathered, lamQ "arcs_gathered")] fIn) := ok_in T A__law_in
  have d__law_set : Def l.prog w K mg base "_law_set" 2 ["purse", "base"] (spP K [(PL_arcs_gathered, lamQ "arcs_gathered")] fSet) := ok_set T A__law_set d__law_draw
  have d__law_is_arcs : Def l.prog w K mg base "_law_is_arcs" 1 ["got"] (spP K [(PL_arcs_gathered, lamQ "arcs_gathered")] fIsArcs) := ok_is_arcs T A__law_is_arcs
  have d__law_arcs_are : Def l.prog w K mg base "_law_arcs_are" 2 ["got", "base", "due"] (spP K [(PL_arcs_gathered, lamQ "arcs_gathered")] fAre) := ok_are T A__law_arcs_are d__law_is_arcs
  have d__law_due_widen : Def l.prog w K mg base "_law_due_widen" 2 ["known", "low", "high"] (spP K [(PL_arcs_gathered, lamQ "arcs_gathered")] fDueW) := ok_due_widen T A__law_due_widen d__law_in
  have d__law_due_joined : Def l.prog w K mg base "_law_due_joined" 2 ["known", "pad"] (spP K [(PL_arcs_gathered, lamQ "arcs_gathered")] fDueJ) := ok_due_joined T A__law_due_joined d__law_in
  have d__law_due_pulled : Def l.prog w K mg base "_law_due_pulled" 2 ["known", "a", "b", "c"] (spP K [(PL_arcs_gathered, lamQ "arcs_gathered")] fDueP) := ok_due_pulled T A__law_due_pulled d__law_in
  have d__law_pulled_ok : Def l.prog w K mg base "_law_pulled_ok" 7 ["r", "base", "low", "high", "pad"] (spP K [(PL_arcs_gathered, lamQ "arcs_gathered")] fPulledOk) := ok_pulled_ok T A__law_pulled_ok d__law_due_pulled d_arcs_pulled d__law_arcs_are
  have d__law_moves_ok : Def l.prog w K mg base "_law_moves_ok" 8 ["r", "base", "low", "high", "pad"] (spP K [(PL_arcs_gathered, lamQ "arcs_gathered")] fMovesOk) := ok_moves_ok T A__law_moves_ok d__law_due_widen d__law_due_joined d_arcs_widen d_arcs_shift d_arcs_joined d__law_arcs_are
  have d__law_lines_ok : DefG l.prog w K mg base "_law_lines_ok" 5 ["r", "base", "top"] (spP K [(PL_arcs_gathered, lamQ "arcs_gathered")] fLinesOk) := ok_lines_ok T A__law_lines_ok d__law_in d_arcs_lines d__law_same d_arcs_hold
  have d__law_bound_ok : Def l.prog w K mg base "_law_bound_ok" 5 ["r"] (spP K [(PL_arcs_gathered, lamQ "arcs_gathered")] fBoundOk) := ok_bound_ok T A__law_bound_ok x_TooMany xi_T kT1 d_arcs_lines
  have d__law_pairs_ok : Def l.prog w K mg base "_law_pairs_ok" 7 ["r", "s", "base"] (spP K [(PL_arcs_gathered, lamQ "arcs_gathered")] fPairsOk) := ok_pairs_ok T A__law_pairs_ok d__law_in d_arcs_union d_arcs_meet d_arcs_minus d__law_arcs_are
  exact ok_law T FL hTb d__law_start d__law_draw d__law_set d__law_pairs_ok d__law_moves_ok d__law_pulled_ok d__law_lines_ok d__law_bound_ok
end K09

open PySem PySem.W PyProof.Rows in
set_option maxRecDepth 100000 in
set_option maxHeartbeats 0 in
theorem PySem.Challenge.cw_comestrue_k09_arcs_are_sets_of_lines_holds : PySem.Challenge.rw_comestrue_k09_arcs_are_sets_of_lines.Holds := by
  w_on; o_law; k_head; (case hw => w_witness2)
  k_fill
  refine Lay.end_ofTsG (l := PySem.Challenge.rw_comestrue_k09_arcs_are_sets_of_lines) (k := 9) (sp := K09.spLaw) rfl rfl ⟨rfl, by decide, by decide⟩ (fun w h Y => PySem.W.km_in_of Y) (fun K cs H a ns hl hT hS => ⟨a, ns, rfl, hS, hl, hT, fun _ => rfl⟩) ?F
  case F =>
    intro w mg fa h KX G hmg
    refine' K09.all_mk KX G hmg ?h_z_abs ?h_z_bool ?h_z_int ?h_z_isinstance ?h_z_len ?h_z_list ?h_z_max ?h_z_min ?h_z_range ?h_z_repr ?h_z_sorted ?h_z_sum ?h_z_tuple ?h_g_LINES ?h_aB ?h_rB ?h_sB ?h_vB ?h_aT ?h_xT ?h_saT ?h_gaT ?h_ggT ?h_noT ?h_iT ?h_tyT ?h_lT ?h_cT ?h_kfT ?h_kCT ?h_eCT ?h_tCT ?h_hCT ?h_iCT ?h_sCT ?h_a1 ?h_l1 ?h_c1x ?h_k1x ?h_a2 ?h_l2 ?h_c2x ?h_k2x ?h_a3 ?h_l3 ?h_c3x ?h_k3x ?h_a4 ?h_l4 ?h_c4x ?h_lt4 ?h_hv4 ?h_nl4 ?h_k4x ?h_a5 ?h_l5 ?h_c5x ?h_k5x ?h_a6 ?h_l6 ?h_c6x ?h_k6x ?h_a7 ?h_l7 ?h_c7x ?h_k7x ?h_a8 ?h_l8 ?h_c8x ?h_k8x ?h_a9 ?h_l9 ?h_c9x ?h_k9x ?h_a10 ?h_l10 ?h_c10x ?h_k10x ?h_a11 ?h_l11 ?h_c11x ?h_k11x ?h_a12 ?h_l12 ?h_c12x ?h_k12x ?h_a13 ?h_l13 ?h_c13x ?h_k13x ?h_a14 ?h_l14 ?h_c14x ?h_k14x ?h_a15 ?h_l15 ?h_c15x ?h_k15x ?h_a16 ?h_l16 ?h_c16x ?h_k16x ?h_a17 ?h_l17 ?h_c17x ?h_k17x ?h_a18 ?h_l18 ?h_c18x ?h_k18x ?h_a19 ?h_l19 ?h_c19x ?h_k19x ?h_a20 ?h_l20 ?h_c20x ?h_k20x ?h_a21 ?h_l21 ?h_c21x ?h_k21x ?h_a22 ?h_l22 ?h_c22x ?h_k22x ?h_a23 ?h_l23 ?h_c23x ?h_k23x ?h_a24 ?h_l24 ?h_c24x ?h_k24x ?h_a25 ?h_l25 ?h_c25x ?h_k25x ?h_a26 ?h_l26 ?h_c26x ?h_k26x ?h_a27 ?h_l27 ?h_c27x ?h_k27x ?h_a28 ?h_l28 ?h_c28x ?h_k28x ?h_a29 ?h_l29 ?h_c29x ?h_k29x ?h_a30 ?h_l30 ?h_c30x ?h_k30x ?h_kT1 ?h_xT1 ?h_xT5 ?h_xT6 ?h_xT7 ?h_xT8 ?h_rc_arcs_gathered ?h_aL ?h_lL ?h_cLx ?h_kLx
    (case h_z_abs => k_is)
    (case h_z_bool => k_is)
    (case h_z_int => k_is)
    (case h_z_isinstance => k_is)
    (case h_z_len => k_is)
    (case h_z_list => k_is)
    (case h_z_max => k_is)
    (case h_z_min => k_is)
    (case h_z_range => k_is)
    (case h_z_repr => k_is)
    (case h_z_sorted => k_is)
    (case h_z_sum => k_is)
    (case h_z_tuple => k_is)
    (case h_g_LINES => k_is)
    (case h_aB => k_is)
    (case h_rB => k_is)
    (case h_sB => k_is)
    (case h_vB => k_is)
    (case h_aT => k_is)
    (case h_xT => k_is)
    (case h_saT => k_is)
    (case h_gaT => k_is)
    (case h_ggT => k_is)
    (case h_noT => k_is)
    (case h_iT => k_is)
    (case h_tyT => k_is)
    (case h_lT => k_is)
    (case h_cT => k_is)
    (case h_kfT => k_is)
    (case h_kCT => k_is)
    (case h_eCT => k_is)
    (case h_tCT => k_is)
    (case h_hCT => k_is)
    (case h_iCT => k_is)
    (case h_sCT => first | rfl | k_is)
    (case h_a1 => k_is)
    (case h_l1 => k_is)
    (case h_c1x => k_is)
    (case h_k1x => k_is)
    (case h_a2 => k_is)
    (case h_l2 => k_is)
    (case h_c2x => k_is)
    (case h_k2x => k_is)
    (case h_a3 => k_is)
    (case h_l3 => k_is)
    (case h_c3x => k_is)
    (case h_k3x => k_is)
    (case h_a4 => k_is)
    (case h_l4 => k_is)
    (case h_c4x => k_is)
    (case h_lt4 => k_is)
    (case h_hv4 => exact rfl)
    (case h_nl4 => first | exact rfl | with_unfolding_all exact rfl | k_is)
    (case h_k4x => k_is)
    (case h_a5 => k_is)
    (case h_l5 => k_is)
    (case h_c5x => k_is)
    (case h_k5x => k_is)
    (case h_a6 => k_is)
    (case h_l6 => k_is)
    (case h_c6x => k_is)
    (case h_k6x => k_is)
    (case h_a7 => k_is)
    (case h_l7 => k_is)
    (case h_c7x => k_is)
    (case h_k7x => k_is)
    (case h_a8 => k_is)
    (case h_l8 => k_is)
    (case h_c8x => k_is)
    (case h_k8x => k_is)
    (case h_a9 => k_is)
    (case h_l9 => k_is)
    (case h_c9x => k_is)
    (case h_k9x => k_is)
    (case h_a10 => k_is)
    (case h_l10 => k_is)
    (case h_c10x => k_is)
    (case h_k10x => k_is)
    (case h_a11 => k_is)
    (case h_l11 => k_is)
    (case h_c11x => k_is)
    (case h_k11x => k_is)
    (case h_a12 => k_is)
    (case h_l12 => k_is)
    (case h_c12x => k_is)
    (case h_k12x => k_is)
    (case h_a13 => k_is)
    (case h_l13 => k_is)
    (case h_c13x => k_is)
    (case h_k13x => k_is)
    (case h_a14 => k_is)
    (case h_l14 => k_is)
    (case h_c14x => k_is)
    (case h_k14x => k_is)
    (case h_a15 => k_is)
    (case h_l15 => k_is)
    (case h_c15x => k_is)
    (case h_k15x => k_is)
    (case h_a16 => k_is)
    (case h_l16 => k_is)
    (case h_c16x => k_is)
    (case h_k16x => k_is)
    (case h_a17 => k_is)
    (case h_l17 => k_is)
    (case h_c17x => k_is)
    (case h_k17x => k_is)
    (case h_a18 => k_is)
    (case h_l18 => k_is)
    (case h_c18x => k_is)
    (case h_k18x => k_is)
    (case h_a19 => k_is)
    (case h_l19 => k_is)
    (case h_c19x => k_is)
    (case h_k19x => k_is)
    (case h_a20 => k_is)
    (case h_l20 => k_is)
    (case h_c20x => k_is)
    (case h_k20x => k_is)
    (case h_a21 => k_is)
    (case h_l21 => k_is)
    (case h_c21x => k_is)
    (case h_k21x => k_is)
    (case h_a22 => k_is)
    (case h_l22 => k_is)
    (case h_c22x => k_is)
    (case h_k22x => k_is)
    (case h_a23 => k_is)
    (case h_l23 => k_is)
    (case h_c23x => k_is)
    (case h_k23x => k_is)
    (case h_a24 => k_is)
    (case h_l24 => k_is)
    (case h_c24x => k_is)
    (case h_k24x => k_is)
    (case h_a25 => k_is)
    (case h_l25 => k_is)
    (case h_c25x => k_is)
    (case h_k25x => k_is)
    (case h_a26 => k_is)
    (case h_l26 => k_is)
    (case h_c26x => k_is)
    (case h_k26x => k_is)
    (case h_a27 => k_is)
    (case h_l27 => k_is)
    (case h_c27x => k_is)
    (case h_k27x => k_is)
    (case h_a28 => k_is)
    (case h_l28 => k_is)
    (case h_c28x => k_is)
    (case h_k28x => k_is)
    (case h_a29 => k_is)
    (case h_l29 => k_is)
    (case h_c29x => k_is)
    (case h_k29x => k_is)
    (case h_a30 => k_is)
    (case h_l30 => k_is)
    (case h_c30x => k_is)
    (case h_k30x => k_is)
    (case h_kT1 => first | rfl | k_is)
    (case h_xT1 => first | rfl | k_is)
    (case h_xT5 => k_is)
    (case h_xT6 => k_is)
    (case h_xT7 => k_is)
    (case h_xT8 => k_is)
    (case h_rc_arcs_gathered => decide +kernel)
    (case h_aL => k_is)
    (case h_lL => k_is)
    (case h_cLx => k_is)
    (case h_kLx => k_is)
