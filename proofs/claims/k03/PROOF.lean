import PyProof.Rows.All
import Wide.All
import OpenK.AllK
import Wide.FinOn
import PyProof.EqAt
import PyProof.EqKinds
import PyProof.TupleCall
import HandS.Base
import HandS.Call
import HandS.List
import HandS.Comp
import HandS.Ends
import HandS.Iter
import HandS.Exc
import HandS.ExcOwn
import HandS.ExcInit
import HandS.ClsMeth
import HandS.Words
import HandS.WordsList
import HandS.WordsExc
import HandS.ExcField
import HandS.TryMany
import HandS.IsInst
import HandS.FStr
import HandS.Conv
import HandS.Steps
import HandS.Evl
import HandS.RevTup
import HandS.Rev
import PyProof.ListRange
import HandS.NoneIn
import HandS.Defaults
import HandS.Lambda
import HandS.EndTab
import KE.KNest
import KE.KExcIs
import PySem.Challenge.RW_comestrue_k03_least_price_among_all_pads
set_option Elab.async false
set_option linter.all false
set_option maxRecDepth 100000
set_option maxHeartbeats 4000000
namespace Lay
open PySem PySem.Spec PyProof.Rows L2 Evl

section
variable {X : Cx} {e : Expr} {es : List Expr} {ta : TA} {x : Str} {C0 : Addr} {mc : Value} {p1 p2 pos : Pos}
/-- Base.__init__(self, ..), Base an own class over ValueError without one of its own -/
theorem pe_binit {pl : Sem Bool} (hg : Gl X x) (hm : X.mg x = some (.ref C0)) (hr : ClX.CRead X.K C0 mc) (vV : PySem.W.findCls X.K (.ref C0) mc "__init__" = some (.val (.builtin "ValueError.__init__"))) (ha : PA X (e :: es) ta)
    (hdb : (x == ("__debug__" : Str)) = false := by decide)
    (hc : eval (.Call (.Attribute (.Name x p1) "__init__" p2) (e :: es) [] pos) X.env = (do
      let ov ← eval (.Name x p1) X.env
      standAt p2.atName
      let (f, first) ← holding [ov] (getMethod ov "__init__" pl)
      callWith pos f first (backTo pos (starEach (e :: es) X.env)) (backToKw pos (keywordEach [] X.env))) := by rfl)
    (he : starEach (e :: es) X.env = (false, eval e X.env) :: starEach es X.env := by rfl) (hpl : (backTo pos (starEach es X.env)).any (·.1) = false := by rfl) :
    PE X (.Call (.Attribute (.Name x p1) "__init__" p2) (e :: es) [] pos) (tVeI X.K ta) := by
  refine ⟨fun pins s σ H Q I h => ?_⟩
  refine PySem.W.methodCall_KW (ld_glob I hg hm ?_ hdb) hc
  refine PySem.W.method_cls I.kIn hr.ga (PySem.W.cls_value I.kIn hr.rd vV (by decide +kernel) ?_)
  show wpAny _ _ (callWith pos (Value.builtin "ValueError.__init__") [] (backTo pos (starEach (e :: es) X.env)) []) _ _ _
  refine PyProof.Rows.callWith_method1 (thn (ha.run pos pins _ σ H _ (I.tok _) h) fun us s1 ⟨vs, H1, I1, r1, a, C, ws, ev, hl, T, ea, q⟩ => ?_) he hpl
  subst ev
  cases r1 with
  | @cons _ u0 _ ur ra rw' =>
    obtain rfl : u0 = Value.ref a := ra
    have hlen : ur.length ≤ sizeLine := by
      rw [← Paired.length rw', sizeLine_eq]
      omega
    exact oinit_ok T I1 ea hlen fun s' J => ⟨.non, H1, J, rfl, q⟩
end

/-! ### a def as callers know it -/
structure Def (P : Program) (w : World) (K : PySem.W.Frag) (mg : Str → Option Value) (base : Heap) (x : Str) (k : Nat) (ps : List Str) (sp : Sp) : Prop where
  ex : ∃ (f : Addr) (fd : FuncData), FnOk P w K mg base (L2.CX P w) k f fd ps sp ∧ mg x = some (.ref f) ∧ PySem.W.keepIn K (.ref f) = true ∧ Binds K fd ps []
/-- the text of a def as it stands behind the top -/
structure At (K : PySem.W.Frag) (mg : Str → Option Value) (x : Str) (st : Stmt) (ps : List Str) : Prop where
  ex : ∃ (f : Addr) (fd : FuncData), Fun K x x st f fd ∧ mg x = some (.ref f) ∧ Binds K fd ps []
section
variable {P : Program} {w : World} {K : PySem.W.Frag} {mg : Str → Option Value} {base : Heap}
theorem Def.mk' {x : Str} {st : Stmt} {N ps : List Str} {k : Nat} {sp : Sp} (F : At K mg x st ps) (S : FnScope N ps (defScope st)) (len : ∀ vs H Q E, sp vs H Q E → vs.length = ps.length)
    (hbody : ∀ (f : Addr) (cdv : Value) (A : Around) (outer : List Env) (s : Shared) (H : Hp) (vs : List V) (Q : VK) (E : XK), Room k (A.deeper (envOfC x (defScope st) s.heap.objs.size f cdv)) → sp vs H Q E →
      ∃ t, PSs (cxOf (L2.CX P w) P w K mg base N x (defScope st) f cdv A outer s H E) (defBody st) t ∧ t { nx := fun _ H' => Q .non H', rt := Q } (start N vs) H) : Def P w K mg base x (k + 1) ps sp := by
  obtain ⟨f, fd, Ff, g, b⟩ := F.ex
  exact ⟨f, fd, Ff.okX S len (hbody f), g, Ff.kp, b⟩
theorem Def.imp {x : Str} {k : Nat} {ps : List Str} {sp sp' : Sp} (d : Def P w K mg base x k ps sp) (h : ∀ vs H Q E, sp' vs H Q E → sp vs H Q E) : Def P w K mg base x k ps sp' := by
  obtain ⟨f, fd, F, r⟩ := d.ex
  exact ⟨f, fd, F.imp h, r⟩
end
section
variable {X : Cx} {k : Nat} {ps : List Str} {sp : Sp} {E : XK} {x : Str} {p pos : Pos} {e : Expr} {es : List Expr} {t : TA}
theorem pe_d (d : Def X.prog X.w X.K X.mg X.base x k ps sp) (hr : Room k X.A) (hx : Passes (L2.CX X.prog X.w) X E) (ha : PA X (e :: es) t) (hg : Gl X x := by rfl)
    (hdb : (x == ("__debug__" : Str)) = false := by decide) (he : starEach (e :: es) X.env = (false, eval e X.env) :: starEach es X.env := by rfl) (hpl : (backTo pos (starEach es X.env)).any (·.1) = false := by rfl) :
    PE X (.Call (.Name x p) (e :: es) [] pos) (tCallS sp (fun _ => E) t) := by
  obtain ⟨f, fd, F, g, kp, b⟩ := d.ex
  exact pe_callS F hr hg g kp b (fun σ pins H s e s' I c => hx pins σ H s e s' I c) ha hdb he hpl
/-- in a try's body -/
theorem pe_dT {W : WX} (d : Def X.prog X.w X.K X.mg X.base x k ps sp) (hr : Room k X.A) (tk : Takes X W) (ha : PA X (e :: es) t) (hg : Gl X x := by rfl)
    (hdb : (x == ("__debug__" : Str)) = false := by decide) (he : starEach (e :: es) X.env = (false, eval e X.env) :: starEach es X.env := by rfl) (hpl : (backTo pos (starEach es X.env)).any (·.1) = false := by rfl) :
    PE X (.Call (.Name x p) (e :: es) [] pos) (tCallS sp (WE W) t) := by
  obtain ⟨f, fd, F, g, kp, b⟩ := d.ex
  exact pe_callS F hr hg g kp b (fun σ => passAt tk σ) ha hdb he hpl
end

/-! ### heaps -/
/-- all but what stands at l is as it was -/
def ExB (l : Addr) (H H' : Hp) : Prop := ∀ a o, a ≠ l → H a = some o → H' a = some o
theorem Ex.b {l : Addr} {H H' : Hp} (e : Ex H H') : ExB l H H' := fun a o _ h => e a o h
theorem ExB.refl (l : Addr) (H : Hp) : ExB l H H := fun _ _ _ h => h
theorem ExB.trans {l : Addr} {H H1 H2 : Hp} (a : ExB l H H1) (b : ExB l H1 H2) : ExB l H H2 := fun x o n h => b x o n (a x o n h)
theorem ExB.upd {l : Addr} {o : HO} {H H' : Hp} (e : ExB l H H') : ExB l H (upd H' l o) := fun a u n h => by
  rw [upd_ne n]
  exact e a u n h
/-- l is new since H -/
theorem ExB.ex {l : Addr} {H H1 H2 : Hp} (e : Ex H H1) (b : ExB l H1 H2) (n : H l = none) : Ex H H2 := fun a o h => b a o (ne_of_none h n) (e a o h)
theorem ExB.exB {l m : Addr} {H H1 H2 : Hp} (e : ExB m H H1) (b : ExB l H1 H2) (n : H l = none) : ExB m H H2 := fun a o h' h => b a o (ne_of_none h n) (e a o h' h)
theorem ex_at {H H' : Hp} {a : Addr} {o : HO} (e : Ex H H') (h : H a = some o) : H' a = some o := e a o h
theorem exb_at {l : Addr} {H H' : Hp} {a : Addr} {o : HO} (e : ExB l H H') (n : a ≠ l) (h : H a = some o) : H' a = some o := e a o n h
theorem exb_l {K : PySem.W.Frag} {l : Addr} {H H' : Hp} {a : Addr} {xs : List V} (e : ExB l H H') (n : a ≠ l) (h : SqL K H a xs) : SqL K H' a xs := by
  rcases h with (h | ⟨o, h⟩) | h
  · exact .inl (.inl (e _ _ n h))
  · exact .inl (.inr ⟨o, e _ _ n h⟩)
  · exact .inr h
theorem fresh_b {l : Addr} {H H' : Hp} {p : Addr} (e : Ex H H') (h : H' p = none) : H p = none := fresh_back e h
theorem exn {H : Hp} {p : Addr} {o : HO} (h : H p = none) : Ex H (upd H p o) := Ex.new h

/-! ### ints of a list -/
def gi (ns : List Int) (i : Int) : Int := ns.getD i.toNat 0
theorem atI_gi {ns : List Int} {i : Int} (h0 : 0 ≤ i) (h1 : i < ns.length) : atI (ns.map V.int) i = some (.int (gi ns i)) := by
  obtain ⟨j, rfl⟩ : ∃ j : Nat, i = (j : Int) := ⟨i.toNat, by omega⟩
  have hj : j < ns.length := by omega
  refine atI_nat ?_
  rw [List.getElem?_map]
  unfold gi
  rw [Int.toNat_natCast, List.getD_eq_getElem?_getD, List.getElem?_eq_getElem hj]
  rfl
theorem atI_V {xs : List V} {i : Int} {v : V} {j : Nat} (e : i = (j : Int)) (h : xs[j]? = some v) : atI xs i = some v := by
  rw [e]
  exact atI_nat h

/-! ### named readings -/
def rList (K : PySem.W.Frag) : List V → Hp → VK → Prop := fun xs H Q => ∃ p ys, xs = [.ref p] ∧ (SqL K H p ys ∨ SqT K H p ys) ∧ ∀ l, H l = none → Q (.ref l) (upd H l (.lst ys))
def rLen (K : PySem.W.Frag) : List V → Hp → VK → Prop := fun xs H Q => ∃ p ys, xs = [.ref p] ∧ (SqL K H p ys ∨ SqT K H p ys) ∧ Q (.int ys.length) H
def rInt1 : List V → Hp → VK → Prop := fun xs H Q => (∃ i, xs = [.int i] ∧ Q (.int i) H) ∨ ∃ k, xs = [.bl k] ∧ Q (.int (if k then 1 else 0)) H
def rAbs : List V → Hp → VK → Prop := fun xs H Q => ∃ i, xs = [.int i] ∧ Q (.int (if i < 0 then -i else i)) H
def rMx2 : List V → Hp → VK → Prop := fun xs H Q => ∃ i j, xs = [.int i, .int j] ∧ Q (.int (if j > i then j else i)) H
def rMn2 : List V → Hp → VK → Prop := fun xs H Q => ∃ i j, xs = [.int i, .int j] ∧ Q (.int (if j < i then j else i)) H
section
variable {X : Cx}
theorem c_list : CallR X (.type "list") (rList X.K) := call_list_of
theorem c_len : CallR X (.builtin "len") (rLen X.K) := call_len_seq
theorem c_int : CallR X (.type "int") rInt1 := call_int1
theorem c_abs : CallR X (.builtin "abs") rAbs := call_abs
theorem c_max2 (hc : X.calm = true) : CallR X (.builtin "max") rMx2 := call_max2 hc
theorem c_min2 (hc : X.calm = true) : CallR X (.builtin "min") rMn2 := call_min2 hc
end
/-- a new list, a new tuple: what follows is wished of it -/
def NewL (xs : List V) (H : Hp) (Q : VK) : Prop := xs.length ≤ sizeLine ∧ ∀ p, H p = none → Q (.ref p) (upd H p (.lst xs))
def NewT (xs : List V) (H : Hp) (Q : VK) : Prop := xs.length ≤ sizeLine ∧ ∀ p, H p = none → Q (.ref p) (upd H p (.tup xs))
/-! ### readings, step by step -/
section
variable {K : PySem.W.Frag} {σ : L2.St} {H : Hp} {D : Ends} {t u : TS} {te ta tb tc : TE} {c d : TT} {tr : TA} {Q : VK} {R : Bool → Hp → Prop} {S : List V → Hp → Prop} {v x y : V} {i j : Int} {n : Nat} {r : R2} {sp : Sp} {E : L2.St → XK}
theorem r_seq (h : t ⟨u D, D.rt, D.bk, D.ct⟩ σ H) : tSeq t u D σ H := h
theorem r_set (h : te σ H fun x H1 => D.nx (σ.set n (some x)) H1) : tAsg te (gName n) D σ H := h
theorem r_sub {s : TSet} (h : te σ H fun v H1 => ta σ H1 fun o H2 => tb σ H2 fun i H3 => s o i v H3 fun H4 => D.nx σ H4) : tAsg te (gSub ta tb s) D σ H := h
theorem r_aug {ti : TIp} (e : σ[n]? = some (some x)) (h : te σ H fun y H1 => ti x y H1 fun z H2 => D.nx (σ.set n (some z)) H2) : tAug n te ti D σ H := ⟨_, e, h⟩
theorem r_ipI {f : Int → Int → Int} (h : Q (.int (f i j)) H) : ipI f (.int i) (.int j) H Q := ⟨i, j, rfl, rfl, h⟩
theorem r_drop (h : te σ H fun _ H1 => D.nx σ H1) : tDrop te D σ H := h
theorem r_ret (h : te σ H D.rt) : tRet te D σ H := h
theorem r_retN (h : D.rt .non H) : tRetN D σ H := h
theorem r_if (h : c σ H fun b H1 => if b = true then t D σ H1 else u D σ H1) : tIfS c t u D σ H := h
theorem r_next (h : D.nx σ H) : tNext D σ H := h
theorem r_brk (h : D.bk σ H) : tBreak D σ H := h
theorem r_cont (h : D.ct σ H) : tCont D σ H := h
theorem r_var (e : σ[n]? = some (some v)) (h : Q v H) : tVar n σ H Q := ⟨v, e, h⟩
theorem r_c (h : Q v H) : tC v σ H Q := h
theorem r_op (h : ta σ H fun x H1 => tb σ H1 fun y H2 => r x y H2 Q) : tOp r ta tb σ H Q := h
theorem r_un {r : V → Hp → VK → Prop} (h : ta σ H fun x H1 => r x H1 Q) : tUn r ta σ H Q := h
theorem r_I0 {g : Int → Int → V} (h : Q (g i j) H) : rI0 g (.int i) (.int j) H Q := ⟨i, j, rfl, rfl, h⟩
theorem r_I {C : Int → Int → Prop} {g : Int → Int → V} (k : C i j) (h : Q (g i j) H) : rI C g (.int i) (.int j) H Q := ⟨i, j, rfl, rfl, k, h⟩
theorem r_U {g : Int → V} (h : Q (g i) H) : rU g (.int i) H Q := ⟨i, rfl, h⟩
theorem dI {i j : Int} : decide (V.int i = V.int j) = decide (i = j) := by
  by_cases e : i = j
  · rw [e]
    simp
  · rw [decide_eq_false e, decide_eq_false (fun h => e (V.int.inj h))]
theorem r_eqI (h : Q (.bl (decide (i = j))) H) : rEq (.int i) (.int j) H Q := ⟨rfl, by rw [dI]; exact h⟩
theorem r_neI (h : Q (.bl (!decide (i = j))) H) : rNe (.int i) (.int j) H Q := ⟨rfl, by rw [dI]; exact h⟩
theorem r_isN (h : Q (.bl (decide (x = .non))) H) : rIsN x .non H Q := ⟨rfl, h⟩
theorem r_notN (h : Q (.bl (!decide (x = .non))) H) : rNotN x .non H Q := ⟨rfl, h⟩
theorem r_test (h : te σ H fun x H' => ∃ k, x = .bl k ∧ R k H') : tTest te σ H R := h
theorem r_tB (h : te σ H fun x H' => ∃ k, x = .bl k ∧ R k H') : tB te σ H R := h
theorem r_bl {b : Bool} {P : Bool → Prop} (h : P b) : ∃ k, V.bl b = .bl k ∧ P k := ⟨b, rfl, h⟩
theorem r_and (h : c σ H fun b H1 => if b = true then d σ H1 R else R false H1) : tAnd c d σ H R := h
theorem r_or (h : c σ H fun b H1 => if b = true then R true H1 else d σ H1 R) : tOr c d σ H R := h
theorem r_not (h : c σ H fun b H1 => R (!b) H1) : tNot c σ H R := h
theorem r_andV (h : ta σ H fun x H1 => ∃ c, x = .bl c ∧ if c = true then tb σ H1 Q else Q (.bl false) H1) : tAndV ta tb σ H Q := h
theorem r_orV (h : ta σ H fun x H1 => ∃ c, x = .bl c ∧ if c = true then Q (.bl true) H1 else tb σ H1 Q) : tOrV ta tb σ H Q := h
theorem r_notV (h : ta σ H fun x H1 => ∃ c, x = .bl c ∧ Q (.bl (!c)) H1) : tNotV ta σ H Q := h
theorem r_tIf (h : c σ H fun b H1 => if b = true then ta σ H1 Q else tb σ H1 Q) : tIf c ta tb σ H Q := h
theorem r_nil (h : S [] H) : tNil σ H S := h
theorem r_cons (h : te σ H fun x H1 => tr σ H1 fun xs H2 => S (x :: xs) H2) : tCons te tr σ H S := h
theorem r_call (h : tr σ H fun vs H1 => sp vs H1 Q (E σ)) : tCallS sp E tr σ H Q := h
theorem r_cb {r : List V → Hp → VK → Prop} (h : tr σ H fun vs H1 => r vs H1 Q) : tCB r tr σ H Q := h
theorem r_lst (h : tr σ H fun xs H1 => NewL xs H1 Q) : tLst tr σ H Q := h
theorem r_tup (h : tr σ H fun xs H1 => NewT xs H1 Q) : tTup tr σ H Q := h
theorem r_newL {xs : List V} (l : xs.length ≤ 100000) (h : ∀ p H2, H p = none → Ex H H2 → H2 p = some (.lst xs) → Q (.ref p) H2) : NewL xs H Q := ⟨sz_of l, fun p hp => h p _ hp (Ex.new hp) upd_same⟩
theorem r_newT {xs : List V} (l : xs.length ≤ 100000) (h : ∀ p H2, H p = none → Ex H H2 → H2 p = some (.tup xs) → Q (.ref p) H2) : NewT xs H Q := ⟨sz_of l, fun p hp => h p _ hp (Ex.new hp) upd_same⟩
theorem r_ite {P : Prop} [Decidable P] {A B : Prop} (h1 : P → A) (h2 : ¬ P → B) : if decide P = true then A else B := by
  by_cases h : P
  · rw [if_pos (decide_eq_true h)]
    exact h1 h
  · rw [if_neg (by rw [decide_eq_false h]; decide)]
    exact h2 h
theorem r_iteN {P : Prop} [Decidable P] {A B : Prop} (h1 : ¬ P → A) (h2 : P → B) : if (!decide P) = true then A else B := by
  by_cases h : P
  · rw [decide_eq_true h]
    exact iteF (h2 h)
  · rw [decide_eq_false h]
    exact iteT (h1 h)
theorem r_yes {P : Prop} [Decidable P] {A B : Prop} (p : P) (h : A) : if decide P = true then A else B := r_ite (fun _ => h) fun q => absurd p q
theorem r_no {P : Prop} [Decidable P] {A B : Prop} (p : ¬ P) (h : B) : if decide P = true then A else B := r_ite (fun q => absurd q p) fun _ => h
theorem r_yesN {P : Prop} [Decidable P] {A B : Prop} (p : ¬ P) (h : A) : if (!decide P) = true then A else B := r_iteN (fun _ => h) fun q => absurd q p
theorem r_noN {P : Prop} [Decidable P] {A B : Prop} (p : P) (h : B) : if (!decide P) = true then A else B := r_iteN (fun q => absurd p q) fun _ => h
theorem r_nb {b : Bool} {A B : Prop} (h : if b = true then B else A) : if (!b) = true then A else B := by cases b <;> exact h
/-- xs[i] -/
theorem r_ixL {p : Addr} {xs : List V} (h : SqL K H p xs) (e : atI xs i = some v) (q : Q v H) : rIxL K (.ref p) (.int i) H Q := ⟨p, xs, i, v, rfl, rfl, h, e, q⟩
theorem r_ixI {p : Addr} {ns : List Int} (h : SqL K H p (ns.map V.int)) (h0 : 0 ≤ i) (h1 : i < ns.length) (q : Q (.int (gi ns i)) H) : rIxL K (.ref p) (.int i) H Q := r_ixL h (atI_gi h0 h1) q
theorem r_ixT {p : Addr} {xs : List V} (h : SqT K H p xs) (e : atI xs i = some v) (q : Q v H) : rIxT K (.ref p) (.int i) H Q := ⟨p, xs, i, v, rfl, rfl, h, e, q⟩
/-- xs[i] = v -/
theorem r_setL {p : Addr} {xs : List V} {Z : Hp → Prop} (h : H p = some (.lst xs)) (h0 : 0 ≤ i) (h1 : i < xs.length) (q : ∀ H2, ExB p H H2 → H2 p = some (.lst (xs.set i.toNat v)) → (∀ a, H a = none → H2 a = none) → Z H2) : rSetL (.ref p) (.int i) v H Z :=
  ⟨p, xs, i, i.toNat, rfl, rfl, h, by unfold ixN; rw [if_pos h0, if_pos h1], q _ (fun a o n e => by rw [upd_ne n]; exact e) upd_same fun a e => by rw [upd_ne (fun z => by rw [z, h] at e; cases e)]; exact e⟩
/-- xs.append(y) -/
theorem r_app {p : Addr} {xs : List V} (h : H p = some (.lst xs)) (l : xs.length < 100000) (q : ∀ H2, ExB p H H2 → H2 p = some (.lst (xs ++ [y])) → (∀ a, H a = none → H2 a = none) → Q .non H2) : rAppend (.ref p) [y] H Q :=
  ⟨p, xs, y, rfl, rfl, h, sz_lt l, q _ (fun a o n e => by rw [upd_ne n]; exact e) upd_same fun a e => by rw [upd_ne (fun z => by rw [z, h] at e; cases e)]; exact e⟩
theorem r_bmL {r : V → List V → Hp → VK → Prop} {p : Addr} {xs : List V} (h : SqL K H p xs) (q : tr σ H fun vs H2 => r (.ref p) vs H2 Q) (e : σ[n]? = some (some (.ref p))) : tBM K "list" r (tVar n) tr σ H Q := ⟨_, e, .inl ⟨rfl, _, h⟩, q⟩
theorem r_slL {p : Addr} {xs : List V} {lo hi : Option Int} (h : SqL K H p xs) (q : ∀ p2 H2, H p2 = none → Ex H H2 → H2 p2 = some (.lst (cutV xs lo hi)) → Q (.ref p2) H2) : rSlL K (.ref p) lo hi H Q := ⟨p, xs, rfl, h, fun p2 n => q p2 _ n (Ex.new n) upd_same⟩
theorem r_cat {p q : Addr} {xs ys : List V} (h : H p = some (.lst xs)) (h' : H q = some (.lst ys)) (l : xs.length + ys.length ≤ 100000) (k : ∀ p2 H2, H p2 = none → Ex H H2 → H2 p2 = some (.lst (xs ++ ys)) → Q (.ref p2) H2) : rCat (.ref p) (.ref q) H Q :=
  ⟨p, q, xs, ys, rfl, rfl, h, h', sz_of l, fun p2 n => k p2 _ n (Ex.new n) upd_same⟩
theorem r_list {p : Addr} {xs : List V} (h : SqL K H p xs) (k : ∀ p2 H2, H p2 = none → Ex H H2 → H2 p2 = some (.lst xs) → Q (.ref p2) H2) : rList K [.ref p] H Q := ⟨p, xs, rfl, .inl h, fun p2 n => k p2 _ n (Ex.new n) upd_same⟩
theorem r_len {p : Addr} {xs : List V} (h : SqL K H p xs) (q : Q (.int xs.length) H) : rLen K [.ref p] H Q := ⟨p, xs, rfl, .inl h, q⟩
theorem r_lenI {p : Addr} {ns : List Int} (h : SqL K H p (ns.map V.int)) (q : Q (.int ns.length) H) : rLen K [.ref p] H Q := r_len h (by rw [List.length_map]; exact q)
theorem r_int (q : Q (.int i) H) : rInt1 [.int i] H Q := .inl ⟨i, rfl, q⟩
theorem r_abs (q : Q (.int (if i < 0 then -i else i)) H) : rAbs [.int i] H Q := ⟨i, rfl, q⟩
theorem r_mx2 (q : Q (.int (if j > i then j else i)) H) : rMx2 [.int i, .int j] H Q := ⟨i, j, rfl, q⟩
theorem r_mn2 (q : Q (.int (if j < i then j else i)) H) : rMn2 [.int i, .int j] H Q := ⟨i, j, rfl, q⟩
theorem r_sum {p : Addr} {ns : List Int} (h : SqL K H p (ns.map V.int)) (q : Q (.int ns.sum) H) : rSum K [.ref p] H Q := ⟨p, ns, rfl, h, q⟩
theorem r_max {p : Addr} {ns : List Int} (h : SqL K H p (ns.map V.int)) (l : 0 < ns.length) (q : ∀ m, m ∈ ns → (∀ y, y ∈ ns → y ≤ m) → Q (.int m) H) : rMax K [.ref p] H Q := ⟨p, ns, rfl, h, l, q⟩
theorem r_eqD {x y : V} {d e : PyData} (hx : Dp K H x d) (hy : Dp K H y e) (s1 : SeqAt.shaped d = true) (s2 : SeqAt.shaped e = true) (q : Q (.bl (PyData.eqv d e)) H) : rEqD K x y H Q := ⟨d, e, hx, hy, s1, s2, q⟩
theorem r_neD {x y : V} {d e : PyData} (hx : Dp K H x d) (hy : Dp K H y e) (s1 : SeqAt.shaped d = true) (s2 : SeqAt.shaped e = true) (q : Q (.bl (!PyData.eqv d e)) H) : rNeD K x y H Q := ⟨d, e, hx, hy, s1, s2, q⟩
/-- isinstance of an int -/
theorem r_isiI {nm : String} {b : Bool} (h : PySem.W.kitOne K (.type "int") (.type nm) = some b) (q : Q (.bl b) H) : rIsi K [.int i, .ty nm] H Q := ⟨.int i, .ty nm, .type "int", .type nm, b, rfl, .ty nm, .base (.int i), h, q⟩
theorem r_isiL {nm : String} {b : Bool} {p : Addr} {xs : List V} (h : PySem.W.kitOne K (.type "list") (.type nm) = some b) (hp : H p = some (.lst xs)) (q : Q (.bl b) H) : rIsi K [.ref p, .ty nm] H Q := ⟨.ref p, .ty nm, .type "list", .type nm, b, rfl, .ty nm, .base (.lst hp), h, q⟩
end

/-! ### o[i] of a list, by values; o[i] op= e -/
section
variable {X : Cx}
theorem get_list : PGet X (rIxL X.K) := by
  intro pins s σ H ov iv xv yv Q I rx ry h
  obtain ⟨p, xs, i, z, rfl, rfl, hq, he, q⟩ := h
  cases rx
  obtain ⟨t, rfl⟩ := ry
  obtain ⟨its, r, pl, hz⟩ := I.list hq
  obtain ⟨j, h1, h2, h3, h4, h5⟩ := atI_get he
  obtain ⟨w, ew, rw'⟩ := r.get h2
  have hl := r.length
  have hn := line63
  have done : EP X pins σ Q w s := ⟨z, H, I, rw', q⟩
  by_cases h0 : 0 ≤ i
  · have hj : i.toNat = j := Option.some.inj ((seqIndex_of h0 h5).symm.trans h1)
    exact wpAny_getItem_list pl.isList h0 (by omega) (by rw [hj]; simpa using ew) done
  · have hj : (i + (its.toArray.size : Int)).toNat = j := by
      rw [List.size_toArray, ← hl]
      exact Option.some.inj ((seqIndex_neg (by omega) h4).symm.trans h1)
    exact wpAny_getItem_list_neg pl.isList (by omega) (by rw [List.size_toArray] <;> omega) (by omega) (by rw [hj]; simpa using ew) done
end
section
variable {K : PySem.W.Frag} {σ : L2.St} {H : Hp} {D : Ends} {to ti te : TE} {tg : V → V → Hp → VK → Prop} {tp : TIp} {ts : TSet}
theorem r_augS (h : to σ H fun o H1 => ti σ H1 fun i H2 => tg o i H2 fun x H3 => te σ H3 fun y H4 => tp x y H4 fun z H5 => ts o i z H5 fun H6 => D.nx σ H6) : tAugS to ti te tg tp ts D σ H := h
end

/-! ### several except clauses, each with a name -/
/-- behind a clause its name's slot is empty -/
def finA (i : Nat) (D : Ends) : Ends := ⟨fun s h => D.nx (s.set i none) h, D.rt, fun s h => D.bk (s.set i none) h, fun s h => D.ct (s.set i none) h⟩
abbrev ClA := Value × Nat × (Addr → Value → Option Addr → TS)
def wManyA (K : PySem.W.Frag) (W0 : WX) (D : Ends) : List ClA → WX
  | [] => W0
  | (c, i, ts) :: l => fun cls d σ H => ∃ b, PySem.W.exmOne K cls c = some b ∧ (b = true → ∀ a, H a = none → ts a cls d (finA i D) (σ.set i (some (.ref a))) H) ∧ (b = false → wManyA K W0 D l cls d σ H)
inductive HdsA (X : Cx) : List ExceptHandler → List ClA → Prop
  | nil : HdsA X [] []
  | cons {x n : Str} {c : Value} {i : Nat} {ts : Addr → Value → Option Addr → TS} {b0 : Stmt} {suite : List Stmt} {np ps : Pos} {hds : List ExceptHandler} {l : List ClA} (hc : Names X x c) (hi : X.N[i]? = some n) (hln : X.env.kindOf n = some .local)
      (hsu : ∀ (a : Addr) (oe : Obj) (cls : Value) (d : Option Addr) (pn : List (Addr × Obj)), Zc cls d oe → (∃ vs, oe.data = .fields vs) → PSs (X.suite a ((a, oe) :: pn)) (b0 :: suite) (ts a cls d)) (r : HdsA X hds l) :
      HdsA X (.ExceptHandler (some (.Name x np)) (some n) (b0 :: suite) ps :: hds) ((c, i, ts) :: l)
section
variable {X : Cx} {body : List Stmt} {h0 : ExceptHandler} {hds : List ExceptHandler} {l : List ClA} {pos : Pos} {tb : WX → TS} {W0 : WX}
theorem ps_tryA (hs : X.stack = X.env :: X.outer) (hf : X.env.frame = some X.env.locals) (hN : X.N.Nodup) (tk : Takes X W0)
    (hb : ∀ (W : WX) (pn : List (Addr × Obj)) (xe : Value → Shared → Prop), Takes (X.tr pn xe) W → PassesOwn (model X.prog X.w) X.A X.env xe → PSs (X.tr pn xe) body (tb W))
    (hh : HdsA X (h0 :: hds) l) : PS X (.Try body (h0 :: hds) [] [] pos) (fun D σ H => tb (wManyA X.K W0 D l) D σ H) := by
  refine ⟨fun pins s σ H D I hyp => ?_⟩
  have ok := I.ok
  have hfr : X.A.frames = some (X.env :: X.outer) := by rw [ok.frames, hs]
  refine wpAny_Try_except ?_
  refine wpAny_mono ((hb (wManyA X.K W0 D l) (X.pn ++ pins) (fun e z1 => wpAny (model X.prog X.w) X.A (noteFrame e X.env) (fun _ z2 => wpAny (model X.prog X.w) X.A (setFlight e none) (fun _ z3 =>
    wpAny (model X.prog X.w) X.A (handleBy e X.env (h0 :: hds)) (SP X pins D) X.xe z3) X.xe z2) X.xe z1) (fun u s' xx => ?_) PassesOwn.looking).run [] s σ H D (I.toTry _) hyp) (fun f s1 hsp => ?_) (fun _ _ z => z)
  · obtain ⟨a, B, sI, pins', σ', H', cls, d, rfl, Jt, nb, up, sky, na, os, ag, w⟩ := xx
    have J : Inv X pins σ' H' sI := Jt.ofTry ok
    have sk2 : Sky B (X.env :: X.outer) a (Zc cls d) X.env.locals s'.heap := by rw [← hs]; exact sky
    show wpAny (model X.prog X.w) X.A (noteFrame (.ref a) X.env) _ _ _
    refine Sky.land Zc.steady hfr hf sk2 fun h3 fl3 up3 => ?_
    have J3 : Inv X pins σ' H' { s' with heap := h3 } := J.landed nb fl3.1 (up.trans up3) os ag
    obtain ⟨oe3, vs3, he3, hz3, hd3⟩ := fl3.there
    have nfr : a ∉ frs (X.env :: X.outer) := fun hm => by
      obtain ⟨_, o', e', hnf⟩ := fl3.2.2.1.mem hm
      rw [he3] at e'
      cases e'
      exact hnf _ hd3
    have nL : a ≠ X.env.locals := fun z => nfr (List.mem_filterMap.mpr ⟨X.env, List.mem_cons_self, by rw [hf, z]⟩)
    have nF : a ∉ X.fs := fun hm => by
      obtain ⟨e, he, q⟩ := List.mem_filterMap.mp hm
      exact nfr (List.mem_filterMap.mpr ⟨e, List.mem_cons_of_mem _ he, q⟩)
    have S3 := J3.suite he3 hd3 na nL nF
    have go : ∀ {hd' : List ExceptHandler} {l' : List ClA}, HdsA X hd' l' → wManyA X.K W0 D l' cls d σ' H' →
        wpAny (model X.prog X.w) X.A (handleBy (.ref a) X.env hd') (SP X pins D) X.xe { s' with heap := h3 } := by
      intro hd' l' hk
      induction hk with
      | nil =>
        intro w
        refine wpAny_handleBy_nil ?_
        obtain ⟨_, _, _, oe, vs, T, oT, _, he, hz, hd, h1, hr⟩ := id fl3
        unfold PySem.passOn
        refine wpAny_bind (wpAny_field he hd h1 ?_)
        rw [if_neg (show ¬ ((Value.ref T == Value.none) = true) by simp)]
        have outw : wpAny (model X.prog X.w) X.A (setFlight (.ref a) X.env.frame) (fun _ s4 => wpAny (model X.prog X.w) X.A (throw (.ref a) : Sem Flow) (SP X pins D) X.xe s4) X.xe { s' with heap := h3 } := by
          rw [hf]
          refine HandSPX.setFlight_upZ fl3 fun h4 hh4 up4 => wpAny_throw (tk _ _ ?_)
          exact ⟨a, B, sI, pins, σ', H', cls, d, rfl, J, nb, (up.trans up3).trans up4, .inr (.inr (by rw [hs]; exact hh4)), na, os, ag, w⟩
        first
          | exact wpAny_bind (wpAny_pure (wpAny_bind outw))
          | exact wpAny_bind outw
      | @cons x n c i ts b0 suite np ps hd2 l2 hc hi hln hsu r ih =>
        intro w
        obtain ⟨b, hb1, hyes, hno⟩ := w
        refine wpAny_handleBy_cons (codeAny_handlers_test ?_) (by intro q; cases q)
        have LT : PySem.W.Looks (model X.prog X.w) h3 (typeOf (.ref a)) cls := fun A Q E s k q => wpAny_typeOf_ref (k _ _ he3) (by rw [hz3.1]; exact q)
        have LM := PySem.W.exm_one (M := model X.prog X.w) (J3.kIn) LT hb1
        have tst : ∀ {Q : Value → Shared → Prop} {E : Value → Shared → Prop}, Q c { s' with heap := h3 } → wpAny (model X.prog X.w) (X.A.mark (some (.ref a))) (eval (.Name x np) X.env) Q E { s' with heap := h3 } := fun {Q E} q => by
          obtain ⟨hg, hdbg, hm | ⟨hm, hv, hnn⟩⟩ := hc
          · exact ld_glob (X := X.suite a ((a, oe3) :: (X.pn ++ pins))) S3 hg hm q hdbg
          · exact ld_blt (X := X.suite a ((a, oe3) :: (X.pn ++ pins))) S3 hg hm hv q hnn hdbg
        refine tst (LM.here ?_)
        cases b with
        | false =>
          show wpAny _ X.A (handleBy (.ref a) X.env hd2) _ _ _
          exact ih (hno rfl)
        | true =>
          refine codeAny_handlers_suite_as ?_
          refine HandSPX.lands_againZ fl3 fun h4 fl4 up4 => ?_
          have J4 : Inv X pins σ' H' { s' with heap := h4 } := J.landed nb fl4.1 ((up.trans up3).trans up4) os ag
          obtain ⟨oe4, vs4, he4, hz4, hd4⟩ := fl4.there
          have S4 := J4.suite he4 hd4 na nL nF
          refine store_ok (X := X.suite a ((a, oe4) :: (X.pn ++ pins))) (v := .ref a) S4 hN hi (.inl hln) rfl (fun s5 S5 => ?_) (.inr hln)
          refine wpAny_mono ((hsu a oe4 cls d (X.pn ++ pins) hz4 ⟨_, hd4⟩).run [] s5 _ H' _ S5 (hyes rfl a na)) (fun f s6 hsp => ?_) (fun _ _ z => False.elim z)
          have fin_ : ∀ {σ6 : L2.St} {H6 : Hp} {Q : Shared → Prop}, Inv (X.suite a ((a, oe4) :: (X.pn ++ pins))) [] σ6 H6 s6 → (∀ s7, Inv X pins (σ6.set i none) H6 s7 → Q s7) →
              wpAny (model X.prog X.w) X.A (do bindName X.env n .none; unbindBehindTheSuite X.env n ps) (fun _ s7 => Q s7) X.xe s6 := fun {σ6 H6 Q} S6 hq => gone_ok (S6.unsuite ok) hN hi hln hq
          cases f with
          | next =>
            obtain ⟨σ6, H6, S6, q6⟩ := hsp
            exact fin_ S6 fun s7 J7 => ⟨_, _, J7, q6⟩
          | brk =>
            obtain ⟨σ6, H6, S6, q6⟩ := hsp
            exact fin_ S6 fun s7 J7 => ⟨_, _, J7, q6⟩
          | cont =>
            obtain ⟨σ6, H6, S6, q6⟩ := hsp
            exact fin_ S6 fun s7 J7 => ⟨_, _, J7, q6⟩
          | ret u =>
            obtain ⟨v6, σ6, H6, S6, r6, q6⟩ := hsp
            exact fin_ S6 fun s7 J7 => ⟨_, _, _, J7, r6, q6⟩
    exact go hh w
  · cases f with
    | next =>
      obtain ⟨σ', H', Jt, q⟩ := hsp
      exact wpAny_execs_nil ⟨σ', H', Jt.ofTry ok, q⟩
    | brk =>
      obtain ⟨σ', H', Jt, q⟩ := hsp
      exact ⟨σ', H', Jt.ofTry ok, q⟩
    | cont =>
      obtain ⟨σ', H', Jt, q⟩ := hsp
      exact ⟨σ', H', Jt.ofTry ok, q⟩
    | ret u =>
      obtain ⟨v, σ', H', Jt, r, q⟩ := hsp
      exact ⟨v, σ', H', Jt.ofTry ok, r, q⟩
end

/-! ### own exception classes with one field -/
theorem app_len (a b : Str) : (a ++ b).length = a.length + b.length := by
  show (a.cps ++ b.cps).size = _
  rw [Array.size_append]
  rfl
section
variable {σ : L2.St} {H : Hp} {ts : List TE} {te : TE} {acc s : Str} {R : Str → Hp → Prop} {i : Int}
theorem js_nil (h : R acc H) : tJs [] acc σ H R := h
theorem js_c {n : Nat} (ha : acc.length ≤ n) (hs : n + s.length ≤ 100000) (h : ∀ acc' : Str, acc'.length ≤ n + s.length → tJs ts acc' σ H R) : tJs (tC (.str s) :: ts) acc σ H R :=
  ⟨s, rfl, sz_of (by rw [app_len]; omega), h _ (by rw [app_len]; omega)⟩
theorem js_i {n : Nat} (ha : acc.length ≤ n) (hs : n ≤ 50000) (hv : i.natAbs.log2 < 1920) (hte : ∀ Q : VK, Q (.int i) H → te σ H Q) (h : ∀ acc' : Str, acc'.length ≤ n + 1921 → tJs ts acc' σ H R) : tJs (tFmt te :: ts) acc σ H R := by
  have hl : (Str.ofString (toString i)).length ≤ 1921 := by
    have e := PySem.int_text_length_le (k := 1920) (by decide) hv
    rw [PySem.ofString_length]
    omega
  exact hte _ (.inr ⟨i, rfl, hv, _, rfl, sz_of (by rw [app_len]; omega), h _ (by rw [app_len]; omega)⟩)
theorem js_s {n : Nat} (ha : acc.length ≤ n) (hs : n + s.length ≤ 100000) (hte : ∀ Q : VK, Q (.str s) H → te σ H Q) (h : ∀ acc' : Str, acc'.length ≤ n + s.length → tJs ts acc' σ H R) : tJs (tFmt te :: ts) acc σ H R :=
  hte _ (.inl ⟨s, rfl, sz_of (by omega), s, rfl, sz_of (by rw [app_len]; omega), h _ (by rw [app_len]; omega)⟩)
end
/-- what may be told in an error's text -/
def tellV : V → Prop
  | .int i => i.natAbs.log2 < 1920
  | .str s => s.length ≤ 1000
  | _ => False
/-- __init__(self, f): self.f = f -/
def spExc (K : PySem.W.Frag) (C : Addr) (f : Str) : Sp := fun vs H Q _ => ∃ (a : Addr) (v : V), vs = [.ref a, v] ∧ tellV v ∧ H a = some (exo a C none) ∧
  ∀ dx, H dx = none → dx ≠ a → Q .non (upd (upd H dx (exd dx [(f, v)])) a (exo a C (some dx)))
structure Exn (P : Program) (w : World) (K : PySem.W.Frag) (mg : Str → Option Value) (base : Heap) (x f : Str) (C : Addr) : Prop where
  o : OexC K C
  g : mg x = some (.ref C)
  init : ∃ (fI : Addr) (fd : FuncData), PySem.W.findIn K (.ref C) "__init__" = some (some (.ref fI)) ∧ PySem.W.typeIn K (.ref fI) = some (.type "function") ∧ FnOk P w K mg base (L2.CX P w) 1 fI fd ["self", f] (spExc K C f) ∧ Binds K fd ["self", f] []
  xf : XfC K C
  no : PySem.W.findIn K (.ref C) f = some none
  te : PySem.W.exmOne K (.ref C) (.ref C) = some true
def tRaiseE (C : Addr) (f : Str) (W : WX) (te : TE) : TS := fun _ σ H => te σ H fun v H1 => tellV v ∧ ∀ d H2, Ex H1 H2 → H2 d = some (.xd [(f, v)]) → W (.ref C) (some d) σ H2
section
variable {X : Cx} {x f : Str} {C : Addr} {W : WX} {e : Expr} {te : TE} {p pos pos2 : Pos}
theorem pe_cl (h : PE X e te) : PE X e (fun σ H Q => ∃ P1 : VK, te σ H P1 ∧ ∀ v H1, P1 v H1 → Q v H1) :=
  ⟨fun pins s σ H Q I ⟨P1, hp, pq⟩ => thn (h.run pins s σ H P1 I hp) fun u s1 ⟨v, H1, I1, r, q⟩ => ⟨v, H1, I1, r, pq v H1 q⟩⟩
theorem ps_raiseE (T : Exn X.prog X.w X.K X.mg X.base x f C) (hc : X.calm = true) (hr : Room 2 X.A) (tk : Takes X W) (he : PE X e te) (hg : Gl X x := by rfl) (hdb : (x == ("__debug__" : Str)) = false := by decide)
    (hs : starEach (e :: []) X.env = (false, eval e X.env) :: starEach [] X.env := by rfl) (hpl : (backTo pos (starEach [] X.env)).any (·.1) = false := by rfl) :
    PS X (.Raise (some (.Call (.Name x p) [e] [] pos)) none pos2) (tRaiseE C f W te) := by
  obtain ⟨fI, fd, iC, tI, F, b⟩ := T.init
  have hx : Passes (L2.CX X.prog X.w) X (fun _ _ _ => False) := passL
  have m := pmk_oex (pos := pos) (p := p) T.o iC tI F (hr.mono (Nat.le_refl _)) b .nil hx hg T.g (pa_cons (pe_cl he) pa_nil hs) hdb hs hpl
  have r := ps_raise (pos := pos2) hc tk m
  refine ⟨fun pins s σ H D I h => r.run pins s σ H D I ?_⟩
  show ∃ P1 : VK, te σ H P1 ∧ _
  have key : ∀ v H1, (tellV v ∧ ∀ d H2, Ex H1 H2 → H2 d = some (.xd [(f, v)]) → W (.ref C) (some d) σ H2) →
      ([v] : List V).length ≤ 1000 ∧ ∀ a, H1 a = none → spExc X.K C f (.ref a :: ([v] ++ [])) (upd H1 a (exo a C none))
        (fun u H2 => u = .non ∧ ∃ (d : Addr) (fs : List (Str × V)), H2 a = some (exo a C (some d)) ∧ H2 d = some (exd d fs) ∧ H1 d = none ∧ W (.ref C) (some d) σ (upd (del H2 a) d (.xd fs))) (fun _ _ _ => False) := by
    intro v H1 q
    refine ⟨by show 1 ≤ 1000; decide, fun a ha => ⟨a, v, rfl, q.1, upd_same, fun dx hdx hne => ⟨rfl, dx, [(f, v)], upd_same, ?_, ?_, ?_⟩⟩⟩
    · rw [upd_ne hne, upd_same]
    · rw [upd_ne hne] at hdx
      exact hdx
    · have hd1 : H1 dx = none := by
        rw [upd_ne hne] at hdx
        exact hdx
      refine q.2 dx _ (fun b o hb => ?_) upd_same
      have n1 : b ≠ dx := ne_of_none hb hd1
      have n2 : b ≠ a := ne_of_none hb ha
      rw [upd_ne n1, del_ne n2, upd_ne n2, upd_ne n1, upd_ne n2]
      exact hb
  exact ⟨_, h, fun v H1 q => key v H1 q⟩
end
section
variable {K : PySem.W.Frag} {H : Hp} {Q : VK} {i : Int}
theorem r_isII (q : Q (.bl true) H) : rIsi K [.int i, .ty "int"] H Q := r_isiI (kit_ty (by decide +kernel)) q
theorem r_isIB (q : Q (.bl false) H) : rIsi K [.int i, .ty "bool"] H Q := r_isiI (kit_ty (by decide +kernel)) q
theorem r_isLL {p : Addr} {xs : List V} (hp : H p = some (.lst xs)) (q : Q (.bl true) H) : rIsi K [.ref p, .ty "list"] H Q := r_isiL (kit_ty (by decide +kernel)) hp q
end

/-! ### loops -/
def ForW (g : TG) (tb : TS) (D : Ends) (σ : L2.St) (J : It) (H1 : Hp) : Prop := ∃ W : Nat → Nat → L2.St → Hp → Prop, (∃ m, W 0 m σ H1) ∧ ∀ i m σ H, W i m σ H →
  (J.stop i H ∧ D.nx σ H) ∨ (J.go i H ∧ ∃ N : L2.St → Hp → Prop, (∀ σ' H', N σ' H' → ∃ m', m' < m ∧ W (i + 1) m' σ' H') ∧ ∀ x H', J.yld i H x H' → g x σ H' fun σ2 H2 => tb { D with nx := N, ct := N, bk := D.nx } σ2 H2)
def ItL (K : PySem.W.Frag) (x : V) (H : Hp) (R : It → Hp → Prop) : Prop := ∃ a, x = .ref a ∧ (∃ xs, SqL K H a xs) ∧ R (Itl K a) H
def ItT (K : PySem.W.Frag) (x : V) (H : Hp) (R : It → Hp → Prop) : Prop := ∃ a, x = .ref a ∧ (∃ xs, SqT K H a xs) ∧ R (Itt K a) H
def ItR1 (vs : List V) (H : Hp) (R : It → Hp → Prop) : Prop := ∃ j : Int, vs = [.int j] ∧ -(2 ^ 62) ≤ j ∧ j < 2 ^ 62 ∧ R (Itr 0 j.toNat) H
def ItR2 (vs : List V) (H : Hp) (R : It → Hp → Prop) : Prop := ∃ i j : Int, vs = [.int i, .int j] ∧ (-(2 ^ 62) ≤ i ∧ i < 2 ^ 62 ∧ -(2 ^ 62) ≤ j ∧ j < 2 ^ 62) ∧ R (Itr i (j - i).toNat) H
def ItE (K : PySem.W.Frag) (vs : List V) (H : Hp) (R : It → Hp → Prop) : Prop := ∃ a xs, vs = [.ref a] ∧ SqL K H a xs ∧ R (Ite K a) H
def LcW (g : TG) (tt : TT) (te : TE) (vs : List Nat) (σ : L2.St) (Q : VK) (J : It) (H1 : Hp) : Prop := ∀ D, H1 D = none → ∃ W : Nat → Nat → Hp → Prop, (∃ m, W 0 m (upd H1 D (.lst []))) ∧ ∀ i m H, W i m H →
  (J.stop i H ∧ Q (.ref D) H) ∨ (J.go i H ∧ ∃ Nx : Hp → Prop, (∀ H', Nx H' → ∃ m', m' < m ∧ W (i + 1) m' H') ∧ ∀ x H', J.yld i H x H' → g x (wipe σ vs) H' fun σ2 H2 => wipe σ2 vs = wipe σ vs ∧ tt σ2 H2 fun b H3 =>
    if b = true then te σ2 H3 fun y H4 => ∃ acc, H4 D = some (.lst acc) ∧ acc.length < sizeLine ∧ Nx (upd H4 D (.lst (acc ++ [y]))) else Nx H3)
def AppW (p : Addr) (N : Hp → Prop) (y : V) (H4 : Hp) : Prop := ∃ acc, H4 p = some (.lst acc) ∧ acc.length < sizeLine ∧ N (upd H4 p (.lst (acc ++ [y])))
def WhB (tb : TS) (D : Ends) (W : Nat → L2.St → Hp → Prop) (m : Nat) (σ : L2.St) (b : Bool) (H1 : Hp) : Prop :=
  if b = true then ∃ N : L2.St → Hp → Prop, (∀ σ' H', N σ' H' → ∃ m', m' < m ∧ W m' σ' H') ∧ tb { D with nx := N, ct := N, bk := D.nx } σ H1 else D.nx σ H1
section
variable {K : PySem.W.Frag} {σ : L2.St} {H : Hp} {D : Ends} {tb : TS} {te : TE} {ta : TA} {g : TG} {wi : TI} {tt c : TT} {Q : VK} {R : It → Hp → Prop} {a : Addr} {xs : List V} {ns : List Int} {m m1 m2 : Nat} {vs : List Nat} {i j : Int}
theorem r_for (h : wi σ H (ForW g tb D σ)) : tFor wi g tb D σ H := h
theorem r_lc (h : wi σ H (LcW g tt te vs σ Q)) : tLc wi g tt te vs σ H Q := h
theorem r_iList (h : te σ H fun x H1 => ItL K x H1 R) : iList K te σ H R := h
theorem r_iTup (h : te σ H fun x H1 => ItT K x H1 R) : iTup K te σ H R := h
theorem r_iRng1 (h : ta σ H fun x H1 => ItR1 x H1 R) : iRng1 ta σ H R := h
theorem r_iRng2 (h : ta σ H fun x H1 => ItR2 x H1 R) : iRng2 ta σ H R := h
theorem r_iEnum (h : ta σ H fun x H1 => ItE K x H1 R) : iEnum K ta σ H R := h
theorem forL (hx : SqL K H a xs) (Pv : Nat → L2.St → Hp → Prop) (h0 : Pv 0 σ H) (hl : ∀ i s h, i ≤ xs.length → Pv i s h → SqL K h a xs)
    (hs : ∀ i x s h, xs[i]? = some x → Pv i s h → g x s h fun s2 h2 => tb ⟨Pv (i + 1), D.rt, D.nx, Pv (i + 1)⟩ s2 h2) (hd : ∀ s h, Pv xs.length s h → D.nx s h) : ItL K (.ref a) H (ForW g tb D σ) :=
  ⟨a, rfl, ⟨xs, hx⟩, for_list (K := K) (a := a) (xs := xs) Pv h0 hl hs hd⟩
theorem forI (hx : SqL K H a (ns.map V.int)) (Pv : Nat → L2.St → Hp → Prop) (h0 : Pv 0 σ H) (hl : ∀ i s h, i ≤ ns.length → Pv i s h → SqL K h a (ns.map V.int))
    (hs : ∀ i z s h, ns[i]? = some z → Pv i s h → tb ⟨Pv (i + 1), D.rt, D.nx, Pv (i + 1)⟩ (s.set m (some (.int z))) h) (hd : ∀ s h, Pv ns.length s h → D.nx s h) : ItL K (.ref a) H (ForW (gName m) tb D σ) := by
  refine forL hx Pv h0 (fun i s h hi p => hl i s h (by rw [List.length_map] at hi; exact hi) p) (fun i x s h hi p => ?_) (fun s h p => hd s h (by rw [List.length_map] at p; exact p))
  rw [List.getElem?_map] at hi
  cases e : ns[i]? with
  | none =>
    rw [e] at hi
    cases hi
  | some z =>
    rw [e] at hi
    cases hi
    exact hs i z s h e p
theorem forR1 (h1 : -1000000000 ≤ j) (h2 : j ≤ 1000000000) (Pv : Nat → L2.St → Hp → Prop) (h0 : Pv 0 σ H)
    (hs : ∀ (i : Nat) s h, (i : Int) < j → Pv i s h → tb ⟨Pv (i + 1), D.rt, D.nx, Pv (i + 1)⟩ (s.set m (some (.int i))) h) (hd : ∀ s h, Pv j.toNat s h → D.nx s h) : ItR1 [.int j] H (ForW (gName m) tb D σ) := by
  refine ⟨j, rfl, by omega, by omega, for_range (lo := 0) (n := j.toNat) Pv h0 (fun i s h hi p => ?_) hd⟩
  have e : (0 : Int) + (i : Int) = (i : Int) := Int.zero_add _
  show tb _ (s.set m (some (.int ((0 : Int) + (i : Int))))) h
  rw [e]
  exact hs i s h (by omega) p
theorem forR2 (h1 : -1000000000 ≤ i ∧ i ≤ 1000000000) (h2 : -1000000000 ≤ j ∧ j ≤ 1000000000) (Pv : Nat → L2.St → Hp → Prop) (h0 : Pv 0 σ H)
    (hs : ∀ (k : Nat) s h, i + (k : Int) < j → Pv k s h → tb ⟨Pv (k + 1), D.rt, D.nx, Pv (k + 1)⟩ (s.set m (some (.int (i + k)))) h) (hd : ∀ s h, Pv (j - i).toNat s h → D.nx s h) : ItR2 [.int i, .int j] H (ForW (gName m) tb D σ) :=
  ⟨i, j, rfl, ⟨by omega, by omega, by omega, by omega⟩, for_range (lo := i) (n := (j - i).toNat) Pv h0 (fun k s h hk p => hs k s h (by omega) p) hd⟩
theorem forE (hx : SqL K H a xs) (Pv : Nat → L2.St → Hp → Prop) (h0 : Pv 0 σ H) (hl : ∀ i s h, i ≤ xs.length → Pv i s h → SqL K h a xs)
    (hs : ∀ (i : Nat) x s h h2, xs[i]? = some x → Pv i s h → Ex h h2 → tb ⟨Pv (i + 1), D.rt, D.nx, Pv (i + 1)⟩ ((s.set m1 (some (.int i))).set m2 (some x)) h2) (hd : ∀ s h, Pv xs.length s h → D.nx s h) :
    ItE K [.ref a] H (ForW (gTup K 2 (gCons (gName m1) (gCons (gName m2) gNil))) tb D σ) := by
  refine ⟨a, xs, rfl, hx, fun i m s h => m = xs.length - i ∧ i ≤ xs.length ∧ Pv i s h, ⟨xs.length, by simp, Nat.zero_le _, h0⟩, ?_⟩
  rintro i m s h ⟨rfl, hi, p⟩
  have q := hl i s h hi p
  by_cases hlt : i < xs.length
  · refine .inr ⟨⟨xs, xs[i], q, by simp [hlt]⟩, Pv (i + 1), fun s' h' p' => ⟨xs.length - (i + 1), by omega, rfl, hlt, p'⟩, fun x h' y => ?_⟩
    obtain ⟨T, z, rfl, hT, rfl, hz⟩ := y
    exact ⟨T, _, rfl, .inl (.inl upd_same), rfl, _, _, rfl, _, _, rfl, rfl, hs i z s h _ (hz xs q) p (Ex.new hT)⟩
  · have e : i = xs.length := by omega
    subst e
    exact .inl ⟨⟨xs, q, Nat.le_refl _⟩, hd s h p⟩
theorem r_while (W : Nat → L2.St → Hp → Prop) (m0 : Nat) (h0 : W m0 σ H) (hs : ∀ m s h, W m s h → c s h (WhB tb D W m s)) : tWhile c tb D σ H := ⟨W, ⟨m0, h0⟩, fun m s h w => hs m s h w⟩
theorem whB {W : Nat → L2.St → Hp → Prop} {p : Prop} [Decidable p] (h1 : p → tb ⟨fun s h => ∃ m', m' < m ∧ W m' s h, D.rt, D.nx, fun s h => ∃ m', m' < m ∧ W m' s h⟩ σ H) (h2 : ¬ p → D.nx σ H) : WhB tb D W m σ (decide p) H := by
  by_cases hp : p
  · unfold WhB
    rw [if_pos (decide_eq_true hp)]
    exact ⟨_, fun _ _ z => z, h1 hp⟩
  · unfold WhB
    rw [decide_eq_false hp]
    exact iteF (h2 hp)
theorem whB_no {W : Nat → L2.St → Hp → Prop} (h : D.nx σ H) : WhB tb D W m σ false H := iteF h
theorem appW {p : Addr} {N : Hp → Prop} {y : V} {acc : List V} (h : H p = some (.lst acc)) (l : acc.length < 100000) (k : ∀ H5, ExB p H H5 → H5 p = some (.lst (acc ++ [y])) → N H5) : AppW p N y H :=
  ⟨acc, h, sz_lt l, k _ (fun a o n e => by rw [upd_ne n]; exact e) upd_same⟩
theorem yesL {K1 : VK} {B : Hp → Prop} (h : te σ H K1) : tYes σ H fun b H3 => if b = true then te σ H3 K1 else B H3 := by
  show if true = true then te σ H K1 else B H
  exact iteT h
theorem lcR1 (h1 : -1000000000 ≤ j) (h2 : j ≤ 1000000000) (Pv : Addr → Nat → Hp → Prop) (h0 : ∀ p h, H p = none → Ex H h → h p = some (.lst []) → Pv p 0 h)
    (hs : ∀ p (i : Nat) h, (i : Int) < j → Pv p i h → te ((wipe σ vs).set m (some (.int i))) h (AppW p (Pv p (i + 1)))) (hd : ∀ p h, Pv p j.toNat h → Q (.ref p) h)
    (hw : ∀ x, wipe ((wipe σ vs).set m (some x)) vs = wipe σ vs) : ItR1 [.int j] H (LcW (gName m) tYes te vs σ Q) := by
  refine ⟨j, rfl, by omega, by omega, fun p hp => lc_range (lo := 0) (n := j.toNat) (Pv p) (h0 p _ hp (Ex.new hp) upd_same) (fun i h hi q => ?_) (hd p)⟩
  have e : (0 : Int) + (i : Int) = (i : Int) := Int.zero_add _
  rw [e]
  exact ⟨hw _, yesL (hs p i h (by omega) q)⟩
theorem lcL (hx : SqL K H a xs) (Pv : Addr → Nat → Hp → Prop) (h0 : ∀ p h, H p = none → Ex H h → h p = some (.lst []) → Pv p 0 h) (hl : ∀ p i h, i ≤ xs.length → Pv p i h → SqL K h a xs)
    (hs : ∀ p (i : Nat) x h, xs[i]? = some x → Pv p i h → te ((wipe σ vs).set m (some x)) h (AppW p (Pv p (i + 1)))) (hd : ∀ p h, Pv p xs.length h → Q (.ref p) h)
    (hw : ∀ x, wipe ((wipe σ vs).set m (some x)) vs = wipe σ vs) : ItL K (.ref a) H (LcW (gName m) tYes te vs σ Q) :=
  ⟨a, rfl, ⟨xs, hx⟩, fun p hp => lc_list (K := K) (a := a) (xs := xs) (Pv p) (h0 p _ hp (Ex.new hp) upd_same) (fun i h hi q => hl p i h hi q) (fun i x h hi q => ⟨hw x, yesL (hs p i x h hi q)⟩) (hd p)⟩
theorem lcI (hx : SqL K H a (ns.map V.int)) (Pv : Addr → Nat → Hp → Prop) (h0 : ∀ p h, H p = none → Ex H h → h p = some (.lst []) → Pv p 0 h) (hl : ∀ p i h, i ≤ ns.length → Pv p i h → SqL K h a (ns.map V.int))
    (hs : ∀ p (i : Nat) z h, ns[i]? = some z → Pv p i h → te ((wipe σ vs).set m (some (.int z))) h (AppW p (Pv p (i + 1)))) (hd : ∀ p h, Pv p ns.length h → Q (.ref p) h)
    (hw : ∀ x, wipe ((wipe σ vs).set m (some x)) vs = wipe σ vs) : ItL K (.ref a) H (LcW (gName m) tYes te vs σ Q) := by
  refine lcL hx Pv h0 (fun p i h hi q => hl p i h (by rw [List.length_map] at hi; exact hi) q) (fun p i x h hi q => ?_) (fun p h q => hd p h (by rw [List.length_map] at q; exact q)) hw
  rw [List.getElem?_map] at hi
  cases e : ns[i]? with
  | none =>
    rw [e] at hi
    cases hi
  | some z =>
    rw [e] at hi
    cases hi
    exact hs p i z h e q
theorem r_raise {C : Addr} {f : Str} {W : WX} (h : te σ H fun v H1 => tellV v ∧ ∀ d H2, Ex H1 H2 → H2 d = some (.xd [(f, v)]) → W (.ref C) (some d) σ H2) : tRaiseE C f W te D σ H := h
end
/-- lists of ints, deep -/
theorem dp_int {K : PySem.W.Frag} {H : Hp} {i : Int} : Dp K H (.int i) (.int i) := .int i
section
variable {K : PySem.W.Frag} {σ : L2.St} {H : Hp} {ts : List TE} {acc : Str} {R : Str → Hp → Prop} {v : V} {n k : Nat} {D : Ends} {a C : Addr} {f : Str}
theorem js_v (tv : tellV v) (e1 : σ[n]? = some (some v)) (ha : acc.length ≤ k) (hk : k ≤ 50000) (h : ∀ acc' : Str, acc'.length ≤ k + 1921 → tJs ts acc' σ H R) : tJs (tFmt (tVar n) :: ts) acc σ H R := by
  cases v with
  | int i => exact js_i ha hk tv (fun Q q => ⟨_, e1, q⟩) h
  | str s =>
    have hs : s.length ≤ 1000 := tv
    exact js_s (n := k) ha (by omega) (fun Q q => ⟨_, e1, q⟩) fun acc' l => h acc' (by omega)
  | non => exact tv.elim
  | bl b => exact tv.elim
  | byt b => exact tv.elim
  | flt b => exact tv.elim
  | ref b => exact tv.elim
  | ty b => exact tv.elim
theorem exc_body {parts : List TE} (js : ∀ R : Str → Hp → Prop, (∀ s, R s H) → tJs parts Str.empty σ H R) (e0 : σ[0]? = some (some (.ref a))) (e1 : σ[1]? = some (some v)) (o : OexC K C) (no : PySem.W.findIn K (.ref C) f = some none)
    (ha : H a = some (exo a C none)) (q : ∀ dx, H dx = none → dx ≠ a → D.nx σ (upd (upd H dx (exd dx [(f, v)])) a (exo a C (some dx)))) :
    tSeq (tDrop (tVeI K (tCons (tVar 0) (tCons (fun σ H Q => tJs parts Str.empty σ H fun out H1 => Q (.str out) H1) tNil)))) (tOst K f (tVar 0) (tVar 1)) D σ H := by
  refine ⟨_, e0, ?_⟩
  refine js _ fun s => ?_
  exact ⟨a, C, [.str s], rfl, by show 1 ≤ 1000; decide, o, ha, _, e1, _, e0, a, C, rfl, o, no, .inl ⟨ha, q⟩⟩
end
/-! ### comparing lists of ints -/
theorem ints_lay : ∀ ns : List Int, PyData.canLayAll0 (ns.map PyData.int) = true
  | [] => rfl
  | n :: ns => by
    have h := ints_lay ns
    simp only [List.map_cons, PyData.canLayAll0, PyData.canLay0, Bool.true_and]
    exact h
theorem ints_depth : ∀ ns : List Int, PyData.depthAll (ns.map PyData.int) ≤ 1
  | [] => by simp [PyData.depthAll]
  | n :: ns => by
    have h := ints_depth ns
    simp only [List.map_cons, PyData.depthAll, PyData.depth]
    omega
theorem shape_of {d : PyData} (h1 : d.canLay0 = true) (h2 : d.depth ≤ 64) : SeqAt.shaped d = true := by
  show (d.canLay0 && decide (d.depth ≤ 64)) = true
  rw [h1, decide_eq_true h2]
  rfl
theorem sh_ints (ns : List Int) : SeqAt.shaped (.list (ns.map PyData.int)) = true := by
  have h := ints_depth ns
  refine shape_of ?_ ?_
  · simp only [PyData.canLay0]
    exact ints_lay ns
  · simp only [PyData.depth]
    omega
theorem eqv_ints : ∀ ns ms : List Int, PyData.eqvAll (ns.map PyData.int) (ms.map PyData.int) = decide (ns = ms)
  | [], [] => by simp [PyData.eqvAll]
  | [], m :: ms => by simp [PyData.eqvAll]
  | n :: ns, [] => by simp [PyData.eqvAll]
  | n :: ns, m :: ms => by
    have h := eqv_ints ns ms
    simp only [List.map_cons, PyData.eqvAll, PyData.eqv, h]
    by_cases e1 : n = m
    · by_cases e2 : ns = ms
      · simp [e1, e2]
      · simp [e2]
    · simp [e1]
theorem eqv_listI (ns ms : List Int) : PyData.eqv (.list (ns.map PyData.int)) (.list (ms.map PyData.int)) = decide (ns = ms) := by
  simp only [PyData.eqv]
  exact eqv_ints ns ms
theorem dpa_ints {K : PySem.W.Frag} {H : Hp} : ∀ ns : List Int, DpAll K H (ns.map V.int) (ns.map PyData.int)
  | [] => .nil
  | n :: ns => .cons (.int n) (dpa_ints ns)
theorem dp_ints {K : PySem.W.Frag} {H : Hp} {p : Addr} {ns : List Int} (h : SqL K H p (ns.map V.int)) : Dp K H (.ref p) (.list (ns.map PyData.int)) := .lst h (dpa_ints ns)
section
variable {K : PySem.W.Frag} {H : Hp} {Q : VK} {p q : Addr} {ns ms : List Int}
theorem r_eqL (h1 : SqL K H p (ns.map V.int)) (h2 : SqL K H q (ms.map V.int)) (k : Q (.bl (decide (ns = ms))) H) : rEqD K (.ref p) (.ref q) H Q :=
  r_eqD (dp_ints h1) (dp_ints h2) (sh_ints _) (sh_ints _) (by rw [eqv_listI]; exact k)
theorem r_neL (h1 : SqL K H p (ns.map V.int)) (h2 : SqL K H q (ms.map V.int)) (k : Q (.bl (!decide (ns = ms))) H) : rNeD K (.ref p) (.ref q) H Q :=
  r_neD (dp_ints h1) (dp_ints h2) (sh_ints _) (sh_ints _) (by rw [eqv_listI]; exact k)
theorem r_eqSame {x y : V} {d : PyData} (hx : Dp K H x d) (hy : Dp K H y d) (s1 : SeqAt.shaped d = true) (k : Q (.bl true) H) : rEqD K x y H Q :=
  r_eqD hx hy s1 s1 (by rw [SeqAt.eqv_refl d (SeqAt.canLay_of_shaped s1)]; exact k)
theorem r_neSame {x y : V} {d : PyData} (hx : Dp K H x d) (hy : Dp K H y d) (s1 : SeqAt.shaped d = true) (k : Q (.bl false) H) : rNeD K x y H Q :=
  r_neD hx hy s1 s1 (by rw [SeqAt.eqv_refl d (SeqAt.canLay_of_shaped s1)]; exact k)
end
theorem tell_int {i : Int} (h1 : -1000000000 ≤ i) (h2 : i ≤ 1000000000) : tellV (.int i) := by
  show i.natAbs.log2 < 1920
  by_cases h : i.natAbs = 0
  · rw [h]
    decide
  · have a : i.natAbs.log2 < 30 := (Nat.log2_lt h).mpr (by omega)
    omega
/-- a part is shown apart from what follows -/
theorem r_K {te : TE} {σ : L2.St} {H : Hp} {Q : VK} (h1 : ∀ Q' : VK, (∀ i H1, Ex H H1 → Q' (.int i) H1) → te σ H Q') (h2 : ∀ i H1, Ex H H1 → Q (.int i) H1) : te σ H Q := h1 Q h2
/-- three ints at p -/
def Pur (H : Hp) (p : Addr) : Prop := ∃ a b c : Int, H p = some (.lst [.int a, .int b, .int c])
theorem Pur.ex {H H2 : Hp} {p : Addr} (h : Pur H p) (e : Ex H H2) : Pur H2 p := by
  obtain ⟨a, b, c, h⟩ := h
  exact ⟨a, b, c, e _ _ h⟩
theorem cut_ints (ns : List Int) (lo hi : Option Int) : cutV (ns.map V.int) lo hi = ((ns.drop (HT.sIx ns.length 0 lo)).take (HT.sIx ns.length ns.length hi - HT.sIx ns.length 0 lo)).map V.int := by
  unfold cutV
  rw [List.length_map, ← List.map_drop, ← List.map_take]
section
variable {σ : L2.St} {H : Hp} {Q : VK} {te : TE} {tl th : TO} {r : V → Option Int → Option Int → Hp → VK → Prop} {i : Int} {Z : Option Int → Hp → Prop}
theorem r_sl (h : te σ H fun x H1 => tl σ H1 fun l H2 => th σ H2 fun u H3 => r x l u H3 Q) : tSl r te tl th σ H Q := h
theorem r_noP (h : Z none H) : tNoPart σ H Z := h
theorem r_part (h : te σ H fun x H1 => ∃ i, x = .int i ∧ Z (some i) H1) : tPart te σ H Z := h
theorem r_in {P : Int → Prop} (h : P i) : ∃ j, V.int i = .int j ∧ P j := ⟨i, rfl, h⟩
end
theorem len3 {n : Nat} {xs : List V} (h : xs.length.ble n = true) : xs.length ≤ n := Nat.le_of_ble_eq_true h
theorem r_nT {A B : Prop} (h : B) : if (!true) = true then A else B := iteF h
theorem r_nF {A B : Prop} (h : A) : if (!false) = true then A else B := iteT h
section
variable {K : PySem.W.Frag} {σ : L2.St} {H : Hp} {Q : VK} {p q : Addr} {ns : List Int} {xs : List V} {k : Int} {v : V} {n : Nat} {f : Str} {C a dd : Addr}
theorem r_rep (h : H p = some (.lst [v])) (h0 : -1000000 ≤ k) (h1 : k ≤ 1000000) (q : ∀ p2 H2, H p2 = none → Ex H H2 → H2 p2 = some (.lst (List.replicate k.toNat v)) → Q (.ref p2) H2) : rRep (.ref p) (.int k) H Q :=
  ⟨p, k, _, rfl, rfl, h, by omega, by omega, by rw [List.length_singleton, sizeLine_eq]; omega, fun p2 n => q p2 _ n (Ex.new n) (by rw [List.flatten_replicate_singleton]; exact upd_same)⟩
theorem r_xf (e : σ[n]? = some (some (.ref a))) (h : H dd = some (.xd [(f, v)])) (q : Q v H) : tXf a (.ref C) (some dd) C f (tVar n) σ H Q :=
  ⟨_, e, rfl, rfl, dd, [(f, v)], v, rfl, h, by simp [List.lookup], q⟩
theorem r_eqT (h1 : SqL K H p (ns.map V.int)) (h2 : SqL K H q (ns.map V.int)) (k : Q (.bl true) H) : rEqD K (.ref p) (.ref q) H Q :=
  r_eqSame (dp_ints h1) (dp_ints h2) (sh_ints _) k
end
section
variable {K : PySem.W.Frag} {H : Hp} {Q : VK} {p : Addr} {xs : List V} {v a b : V}
theorem r_ix0 (h : SqL K H p (v :: xs)) (q : Q v H) : rIxL K (.ref p) (.int 0) H Q := r_ixL h (atI_V (j := 0) rfl rfl) q
theorem r_ix1 (h : SqL K H p (a :: v :: xs)) (q : Q v H) : rIxL K (.ref p) (.int 1) H Q := r_ixL h (atI_V (j := 1) rfl rfl) q
theorem r_ix2 (h : SqL K H p (a :: b :: v :: xs)) (q : Q v H) : rIxL K (.ref p) (.int 2) H Q := r_ixL h (atI_V (j := 2) rfl rfl) q
end
theorem Pur.upd {H H2 : Hp} {p l : Addr} (h : Pur H p) (e : ExB l H H2) (n : p ≠ l) : Pur H2 p := by
  obtain ⟨a, b, c, h⟩ := h
  exact ⟨a, b, c, e _ _ n h⟩
theorem Pur.ne {H : Hp} {p l : Addr} (h : Pur H p) (n : H l = none) : l ≠ p := by
  obtain ⟨a, b, c, h⟩ := h
  exact (ne_of_none h n).symm
/-! ### the end -/
section
variable {K : PySem.W.Frag} {mg : Str → Option Value} {h : Heap}
theorem at_mk {x : Str} {st : Stmt} {f : Addr} {ps : List Str} {oc : Value} {od an : Option Addr} {osl : Array (Option Value)} {kV doc pm cdv ct : Value} (X : K.In h) (G : h.Ns mainGlobals mg)
    (a : PySem.W.nsIn K mainGlobals x = some (some (.ref f))) (l : K.lookup f = some ⟨oc, od, .func (PySem.W.fnOf x x (defArgs st) (defBody st) (defScope st) .none kV doc pm an cdv ct), osl⟩) (c : PySem.W.codeIn K cdv x = true) (k : PySem.W.keepIn K (.ref f) = true)
    (hb : ∀ (kV doc pm : Value) (an : Option Addr) (cdv ct : Value) (us : List Value), us.length = ps.length → bindArgs (PySem.W.fnOf x x (defArgs st) (defBody st) (defScope st) .none kV doc pm an cdv ct) ⟨us, []⟩ = pure (ps.zip us)) : At K mg x st ps :=
  ⟨f, _, fun_mk l c k, PySem.W.mg_of X G a, (fun_mk l c k).binds hb⟩
theorem exm_is {A B : Addr} {b : Bool} (h1 : PySem.W.subIn K (.ref B) (.type "BaseException") = some true) (h2 : PySem.W.isClsIn K B = true) (h3 : PySem.W.typeIn K (.ref B) = some (.type "type")) (h4 : PySem.W.subIn K (.ref A) (.ref B) = some b) :
    PySem.W.exmOne K (.ref A) (.ref B) = some b := by
  have e1 : (PySem.W.subIn K (.ref B) (.type "BaseException") == some true) = true := by
    rw [h1]
    rfl
  have e2 : ((PySem.W.clsIn K B).isSome && PySem.W.typeIn K (.ref B) == some (.type "type")) = true := by
    have h2' : (PySem.W.clsIn K B).isSome = true := h2
    rw [h2', h3]
    rfl
  show (if (PySem.W.subIn K (.ref B) (.type "BaseException") == some true) = true then (if ((PySem.W.clsIn K B).isSome && PySem.W.typeIn K (.ref B) == some (.type "type")) = true then PySem.W.subIn K (.ref A) (.ref B) else none) else none) = some b
  rw [if_pos e1, if_pos e2, h4]
theorem exm_self {A : Addr} (h1 : PySem.W.subIn K (.ref A) (.type "BaseException") = some true) (h2 : PySem.W.isClsIn K A = true) (h3 : PySem.W.typeIn K (.ref A) = some (.type "type")) (h4 : PySem.W.subIn K (.ref A) (.ref A) = some true) :
    PySem.W.exmOne K (.ref A) (.ref A) = some true := exm_is h1 h2 h3 h4
theorem exm_not {A B : Addr} (h1 : PySem.W.subIn K (.ref B) (.type "BaseException") = some true) (h2 : PySem.W.isClsIn K B = true) (h3 : PySem.W.typeIn K (.ref B) = some (.type "type")) (h4 : PySem.W.subIn K (.ref A) (.ref B) = some false) :
    PySem.W.exmOne K (.ref A) (.ref B) = some false := exm_is h1 h2 h3 h4
end
section
variable {P : Program} {w : World} {K : PySem.W.Frag} {mg : Str → Option Value} {base : Heap}
/-- the law itself: its own def stays in sight -/
theorem fnK {x : Str} {st : Stmt} {f : Addr} {fd : FuncData} {N ps : List Str} {k : Nat} {sp : Sp} (F : Fun K x x st f fd) (S : FnScope N ps (defScope st)) (len : ∀ vs H Q E, sp vs H Q E → vs.length = ps.length)
    (hbody : ∀ (f : Addr) (cdv : Value) (A : Around) (outer : List Env) (s : Shared) (H : Hp) (vs : List V) (Q : VK) (E : XK), Room k (A.deeper (envOfC x (defScope st) s.heap.objs.size f cdv)) → sp vs H Q E →
      ∃ t, PSs (cxOf (L2.CX P w) P w K mg base N x (defScope st) f cdv A outer s H E) (defBody st) t ∧ t { nx := fun _ H' => Q .non H', rt := Q } (start N vs) H) : FnOk P w K mg base (L2.CX P w) (k + 1) f fd ps sp := F.okX S len (hbody f)
end
theorem end_of {l : PySem.W.OpenLaw} {k : Nat} {q : Program} {loose : List Str} {XP : (Str → Option Value) → Heap → Prop} {YP : World → Heap → Prop} {d : DefRec} {K : Params → PySem.W.Frag} {sp : PySem.W.Frag → Sp}
    (hn : l.most = some 63) (hdf : d.params.defaults = []) (hr : Room k callerA) (hY : ∀ (w : World) (h : Heap), YP w h → (K w.params).In h)
    (hsp : ∀ (K : PySem.W.Frag) (H : Hp) (a : Addr) (ns : List Int), ns.length ≤ 63 → SqL K H a (ns.map V.int) → sp K [.ref a] H (fun v _ => v = .bl true) fun _ _ _ => False)
    (F : ∀ (w : World) (mg : Str → Option Value) (fa : Addr) (h : Heap), (K w.params).In h → h.Ns mainGlobals mg → mg d.name = some (.ref fa) →
      ∃ fd : FuncData, (∀ (s : Shared) (u : Value), BindsTo s fd ⟨[u], []⟩ [("script", u)]) ∧ ∀ base : Heap, (K w.params).In base → base.Ns mainGlobals mg → FnOk l.prog w (K w.params) mg base (L2.CX l.prog w) k fa fd ["script"] (sp (K w.params))) :
    PySem.W.WalkO q loose XP YP l.row.toRowW d [] (fun f vs => PySem.call f vs) :=
  walk_of (n := 63) (x := "script") (CX := fun w => L2.CX l.prog w) (sp := fun w => sp (K w.params)) hn (by decide) hdf hr hY F (fun _ H a ns h1 _ h3 => hsp _ H a ns h1 h3) fun _ _ _ _ _ z => by
    obtain ⟨_, _, _, _, _, _, _, _, _, _, _, _, z⟩ := z
    exact z.elim
end Lay
namespace LayR
open PySem PySem.Spec PyProof.Rows L2 RT
section
variable {prog : Program} {w : World} {A : Around} {E : Value → Shared → Prop} {s : Shared}
/-- S.extend(it), S an empty list, it a list's reverse iterator at its begin -/
theorem extend_rev {it l S : Addr} {items : Array Value} {res : Value} {c0 : Nat} {R : Result → Shared → Prop} (hh : A.handled = none) (hit : s.heap.IsRevIter it l ((items.size : Int) - 1)) (hl : s.heap.IsList l items) (hne : l ≠ it) (hn : items.size ≤ sizeLine)
    (hSi : S ≠ it) (hSl : S ≠ l) (hS : s.heap.get? S = some { cls := .type "list", data := .seq #[] c0 })
    (hR : ∀ h' tk acc c', (∀ b o, b ≠ S → b ≠ it → s.heap.get? b = some o → h'.get? b = some o) → h'.get? S = some { cls := .type "list", dict := none, data := .seq acc c', slots := #[] } →
      ItemsOf (fun i v => items[items.size - 1 - i]? = some v) acc items.size → R (.ok (.ret res)) { s with heap := h', toks := tk }) :
    wpAny (model prog w) A.in1 (Builtin.List.listExtendWith (.ref S) (.ref it) res)
      (fun fin s' => match fin with | .done f => R (.ok f) s' | .again c' => c'.quiet = true ∧ codeAny (model prog w) A c' R s') (fun e s' => R (.error e) s') s := by
  have W := (Walks.listRev (prog := prog) (w := w) (A := A.in1) hh it l hne items).toS
  have hSf : S ∉ [it, l] := by
    simp only [List.mem_cons, List.not_mem_nil, or_false, not_or]
    exact ⟨hSi, hSl⟩
  have hT : s.TypeIs (.ref it) "list_reverseiterator" := hit.typeIs
  have h1 : Builtin.List.listSameRef (.ref S) (.ref it) = false := by simp [Builtin.List.listSameRef, hSi]
  unfold Builtin.List.listExtendWith
  refine wpAny_bind (wpAny_typeOf hT ?_)
  rw [if_neg (by rw [h1]; decide)]
  refine wpAny_bind (wpAny_pyIter_revIter hit ?_)
  refine wpAny_bind (wpAny_holding ?_)
  unfold Builtin.List.listLengthHint
  refine wpAny_bind (wpAny_specialOf hT nolen_lri ?_)
  show wpAny _ A.in1 (specialOf (Value.ref it) (Str.ofString "__length_hint__") >>= _) _ _ _
  refine wpAny_bind (wpAny_specialOf hT hint_lri ?_)
  generalize hid : ("list_reverseiterator.__length_hint__" : String) = id0
  wp_delta
  rw [show splitId id0 = some ("list_reverseiterator", "__length_hint__") by subst hid; decide +kernel]
  subst hid
  refine wpAny_bind (wpAny_isInstance (b := true) hT (by rw [isSubtype_type]; kernel_rfl) (wpAny_pure ?_))
  rw [if_neg (by decide)]
  have e0 : ((items.size : Nat) : Int) - 1 - ((0 : Nat) : Int) = (items.size : Int) - 1 := by omega
  refine wpAny_pure ⟨plainId_quiet F.plain_extend_loop _, codeAny_extend_loopS W hn S hSf _ items.size 0 _ _ _ rfl (Nat.zero_le _) ⟨Nat.zero_le _, by rw [e0]; exact hit, hl⟩ hS (ItemsOf.nil _) fun s' acc' c' hm hS' hacc => ?_⟩
  rw [Moved.eq_with hm]
  refine hR s'.heap s'.toks acc' c' (fun b o hb hb2 e => hm.heap b o (fun hmem => ?_) e) hS' hacc
  rcases List.mem_cons.mp hmem with e' | hmem
  · exact hb e'
  · exact hb2 (List.mem_singleton.mp hmem)
theorem call_list_rev {it l : Addr} {items : Array Value} {Q : Value → Shared → Prop} (hh : A.handled = none) (hit : s.heap.IsRevIter it l ((items.size : Int) - 1)) (hl : s.heap.IsList l items) (hne : l ≠ it) (hn : items.size ≤ sizeLine)
    (hQ : ∀ h' tk acc c', (∀ b o, b ≠ it → s.heap.get? b = some o → h'.get? b = some o) → h'.get? s.heap.objs.size = some { cls := .type "list", dict := none, data := .seq acc c', slots := #[] } →
      ItemsOf (fun i v => items[items.size - 1 - i]? = some v) acc items.size → Q (.ref s.heap.objs.size) { s with heap := h', toks := tk }) :
    wpAny (model prog w) A (call (.type "list") [.ref it]) Q E s := by
  obtain ⟨oi, hoi, _⟩ := id hit
  obtain ⟨ol, hol, _⟩ := id hl
  have hSi : s.heap.objs.size ≠ it := Nat.ne_of_gt (Heap.lt_size hoi)
  have hSl : s.heap.objs.size ≠ l := Nat.ne_of_gt (Heap.lt_size hol)
  refine callType_codes (Q₁ := fun obj s₁ => obj = .ref s.heap.objs.size ∧ s₁ = { s with heap := s.heap.push { cls := .type "list", data := .seq #[] } }) F.called_list (F.typeCall_list_1 _) F.entry_list_init (code_list_new _ ⟨rfl, rfl⟩) fun obj s₁ h₁ => ?_
  obtain ⟨rfl, rfl⟩ := h₁
  have hS : (s.heap.push { cls := .type "list", data := .seq #[] }).get? s.heap.objs.size = some { cls := .type "list", data := .seq #[] } := Heap.get?_push_size _ rfl
  refine ⟨⟨_, hS, rfl⟩, F.args_list_init_2 _ _, ?_⟩
  show wpAny _ _ (do let old ← Builtin.List.listItems (.ref s.heap.objs.size); Builtin.List.listUpdate (.ref s.heap.objs.size) (fun _ => #[]); letGo old.toList.reverse; Builtin.List.listExtendWith (.ref s.heap.objs.size) (.ref it) .none) _ _ _
  refine wpAny_bind ?_
  unfold Builtin.List.listItems
  refine wpAny_bind (wpAny_seqItems hS rfl (wpAny_pure ?_))
  show wpAny _ _ (updateSeq s.heap.objs.size (fun _ => #[]) >>= fun _ => letGo (#[] : Array Value).toList.reverse >>= fun _ => Builtin.List.listExtendWith (.ref s.heap.objs.size) (.ref it) .none) _ _ _
  refine wpAny_bind (wpAny_updateSeq hS rfl ?_)
  have hS2 := Heap.get?_update_self (Obj.mapSeq (fun _ => (#[] : Array Value))) hS rfl
  have oth : ∀ b o, b ≠ s.heap.objs.size → s.heap.get? b = some o → ((s.heap.push { cls := .type "list", data := .seq #[] }).update s.heap.objs.size (Obj.mapSeq (fun _ => (#[] : Array Value)))).get? b = some o :=
    fun b o hb e => (Heap.get?_update_other _ _ (Ne.symm hb)).trans (Heap.get?_push_of_some _ e)
  refine wpAny_bind (wpAny_letGo ?_)
  refine extend_rev (A := A.in1) hh (hit.at fun o e => oth it o hSi.symm e) (hl.at fun o e => oth l o hSl.symm e) hne hn hSi hSl hS2 fun h' tk acc c' hk hS' hacc => ?_
  exact ⟨rfl, hQ h' tk acc c' (fun b o hb e => hk b o (Nat.ne_of_lt (Heap.lt_size e)) hb (oth b o (Nat.ne_of_lt (Heap.lt_size e)) e)) hS' hacc⟩
end
/-- list(reversed(x)), x a list -/
def rLstRev (K : PySem.W.Frag) (te : TE) : TE := fun σ H Q => te σ H fun v H1 => ∃ (a : Addr) (xs : List V), v = .ref a ∧ SqL K H1 a xs ∧ Lay.NewL xs.reverse H1 Q
section
variable {X : Cx}
theorem pe_lstRev {e : Expr} {te : TE} {p p2 pos pos2 : Pos} (hc : X.calm = true) (hg : Gl X "list") (hm : X.mg "list" = none) (hg2 : Gl X "reversed") (hm2 : X.mg "reversed" = none) (he : PE X e te)
    (hs : starEach [e] X.env = (false, eval e X.env) :: starEach [] X.env := by rfl)
    (hs2 : starEach [.Call (.Name "reversed" p2) [e] [] pos2] X.env = (false, eval (.Call (.Name "reversed" p2) [e] [] pos2) X.env) :: starEach [] X.env := by rfl) :
    PE X (.Call (.Name "list" p) [.Call (.Name "reversed" p2) [e] [] pos2] [] pos) (rLstRev X.K te) := by
  refine ⟨fun pins s σ H Q I h => ?_⟩
  refine Call_ (ld_blt I hg hm boot_list (PyProof.Rows.callWith_type1 (args_cons (Call_ (ld_blt I hg2 hm2 PyProof.Rows.boot_reversed (PyProof.Rows.callWith_type1 (args_cons (thn (he.run pins s σ H _ I h) fun u s1 ⟨v, H1, I1, r1, q1⟩ => args_nil ?_) hs) hs rfl))) hs2) hs2 rfl))
  obtain ⟨a, xs, ev, hq, hz2, q⟩ := q1
  subst ev
  obtain rfl : u = Value.ref a := r1
  obtain ⟨its, rv, p', hz⟩ := I1.list hq
  refine call_reversed_list p'.isList (args_nil ?_)
  have k0 : ∀ b o, s1.heap.get? b = some o → (s1.heap.push (revObj a ((its.toArray.size : Int) - 1))).get? b = some o := fun b o e => Heap.get?_push_of_some _ e
  have I2 : Inv X pins σ H1 { s1 with heap := s1.heap.push (revObj a ((its.toArray.size : Int) - 1)) } := I1.kept (t' := s1.toks) k0
  obtain ⟨f0, f1, f2, f3, f4, f5⟩ := I1.fpOk (H' := H1) (b := s1.heap.objs.size) (Nat.le_refl _) (I1.hok.fresh (Nat.le_refl _))
  have hl := p'.isList
  obtain ⟨ol, hol, _⟩ := id hl
  have hne : a ≠ s1.heap.objs.size := Nat.ne_of_lt (Heap.lt_size hol)
  have hn : its.toArray.size ≤ sizeLine := by rw [List.size_toArray, ← rv.length]; exact hz
  refine call_list_rev (s := { s1 with heap := s1.heap.push (revObj a ((its.toArray.size : Int) - 1)) }) (I1.ok.hd hc) ⟨_, Heap.get?_push_size _ rfl, rfl, rfl⟩ (hl.push _) hne hn fun h' tk acc c' hk hS' hi => ?_
  have fp : FpOk X pins H1 s1.heap.objs.size := I1.fpOk (H' := H1) (b := s1.heap.objs.size) (Nat.le_refl _) (I1.hok.fresh (Nat.le_refl _))
  have I3 := I2.turnedNew (t' := tk) (ch := [s1.heap.objs.size]) (ob := .lst xs.reverse) (fun b o hb e => hk b o (by simpa using hb) e) (by intro b hb; obtain rfl := List.mem_singleton.mp hb; exact fp) (Nat.le_refl _)
    (show ObjOk X.prog X.w _ _ _ (.lst xs.reverse) from ⟨by rw [List.length_reverse]; exact hz, acc.toList, c', vals_rev rv hi, ?_⟩)
  · exact ⟨.ref _, _, I3, rfl, q _ (I2.hok.fresh (Nat.le_refl _))⟩
  · rw [Array.toArray_toList]
    exact hS'
end
end LayR
namespace Lay
open PySem PySem.Spec PyProof.Rows L2 Evl
section
variable {X : Cx}
/-- tuple(x) -/
def rTuple (K : PySem.W.Frag) : List V → Hp → VK → Prop := fun xs H Q => ∃ p ys, xs = [.ref p] ∧ ((SqL K H p ys ∧ ∀ l, H l = none → Q (.ref l) (upd H l (.tup ys))) ∨ (SqT K H p ys ∧ Q (.ref p) H))
theorem c_tuple : CallR X (.type "tuple") (rTuple X.K) := call_tuple_of
end
section
variable {K : PySem.W.Frag} {σ : L2.St} {H : Hp} {D : Ends} {te : TE} {Q : VK} {p q : Addr} {xs ys : List V} {ns ms : List Int} {v : V} {n : Nat} {i j k l : Int} {t : TGs} {g : TG} {R : L2.St → Hp → Prop}
theorem r_asg (h : te σ H fun x H1 => g x σ H1 D.nx) : tAsg te g D σ H := h
theorem r_gTup (h : SqT K H p xs) (l : xs.length = n) (q : t xs σ H R) : gTup K n t (.ref p) σ H R := ⟨p, xs, rfl, h, l, q⟩
theorem r_gUnl (h : SqL K H p xs) (l : xs.length = n) (q : t xs σ H R) : gUnl K n t (.ref p) σ H R := ⟨p, xs, rfl, h, l, q⟩
theorem r_gCons {u : TGs} (h : g v σ H fun σ' H' => u xs σ' H' R) : gCons g u (v :: xs) σ H R := ⟨v, xs, rfl, h⟩
theorem r_gNil (h : R σ H) : gNil [] σ H R := ⟨rfl, h⟩
theorem r_gName {m : Nat} (h : R (σ.set m (some v)) H) : gName m v σ H R := h
theorem r_revV (e : σ[n]? = some (some (.ref p))) (h : SqL K H p (ns.map V.int)) (l : ns.length ≤ 100000) (q : ∀ p2 H2, H p2 = none → Ex H H2 → H2 p2 = some (.lst (ns.reverse.map V.int)) → Q (.ref p2) H2) : LayR.rLstRev K (tVar n) σ H Q :=
  ⟨_, e, p, ns.map V.int, rfl, h, r_newL (by rw [List.length_reverse, List.length_map]; exact l) fun p2 H2 n e h => q p2 H2 n e (by rw [List.map_reverse]; exact h)⟩
/-! ### new lists of ints -/
theorem r_newI0 (h : ∀ p H2, H p = none → Ex H H2 → H2 p = some (.lst (([] : List Int).map V.int)) → Q (.ref p) H2) : NewL [] H Q := r_newL (by decide) h
theorem r_newI1 (h : ∀ p H2, H p = none → Ex H H2 → H2 p = some (.lst ([i].map V.int)) → Q (.ref p) H2) : NewL [.int i] H Q := r_newL (len3 rfl) h
theorem r_newI2 (h : ∀ p H2, H p = none → Ex H H2 → H2 p = some (.lst ([i, j].map V.int)) → Q (.ref p) H2) : NewL [.int i, .int j] H Q := r_newL (len3 rfl) h
theorem r_newI3 (h : ∀ p H2, H p = none → Ex H H2 → H2 p = some (.lst ([i, j, k].map V.int)) → Q (.ref p) H2) : NewL [.int i, .int j, .int k] H Q := r_newL (len3 rfl) h
theorem r_newI4 (h : ∀ p H2, H p = none → Ex H H2 → H2 p = some (.lst ([i, j, k, l].map V.int)) → Q (.ref p) H2) : NewL [.int i, .int j, .int k, .int l] H Q := r_newL (len3 rfl) h
theorem r_catI (h : H p = some (.lst (ns.map V.int))) (h' : H q = some (.lst (ms.map V.int))) (l : ns.length + ms.length ≤ 100000) (k : ∀ p2 H2, H p2 = none → Ex H H2 → H2 p2 = some (.lst ((ns ++ ms).map V.int)) → Q (.ref p2) H2) : rCat (.ref p) (.ref q) H Q :=
  r_cat h h' (by rw [List.length_map, List.length_map]; exact l) fun p2 H2 n e h => k p2 H2 n e (by rw [List.map_append]; exact h)
theorem r_appI (h : H p = some (.lst (ns.map V.int))) (l : ns.length < 100000) (q : ∀ H2, ExB p H H2 → H2 p = some (.lst ((ns ++ [i]).map V.int)) → (∀ a, H a = none → H2 a = none) → Q .non H2) : rAppend (.ref p) [.int i] H Q :=
  r_app h (by rw [List.length_map]; exact l) fun H2 e h2 f => q H2 e (by rw [List.map_append]; exact h2) f
theorem r_listI (h : SqL K H p (ns.map V.int)) (k : ∀ p2 H2, H p2 = none → Ex H H2 → H2 p2 = some (.lst (ns.map V.int)) → Q (.ref p2) H2) : rList K [.ref p] H Q := r_list h k
theorem r_listT (h : SqT K H p xs) (k : ∀ p2 H2, H p2 = none → Ex H H2 → H2 p2 = some (.lst xs) → Q (.ref p2) H2) : rList K [.ref p] H Q := ⟨p, xs, rfl, .inr h, fun p2 n => k p2 _ n (Ex.new n) upd_same⟩
theorem r_tupleL (h : SqL K H p xs) (k : ∀ p2 H2, H p2 = none → Ex H H2 → H2 p2 = some (.tup xs) → Q (.ref p2) H2) : rTuple K [.ref p] H Q := ⟨p, xs, rfl, .inl ⟨h, fun p2 n => k p2 _ n (Ex.new n) upd_same⟩⟩
theorem r_tupleT (h : SqT K H p xs) (k : Q (.ref p) H) : rTuple K [.ref p] H Q := ⟨p, xs, rfl, .inr ⟨h, k⟩⟩
theorem r_lenT (h : SqT K H p xs) (q : Q (.int xs.length) H) : rLen K [.ref p] H Q := ⟨p, xs, rfl, .inr h, q⟩
/-- ns[i] = z -/
theorem r_setI {Z : Hp → Prop} {z : Int} (h : H p = some (.lst (ns.map V.int))) (h0 : 0 ≤ i) (h1 : i < ns.length) (q : ∀ H2, ExB p H H2 → H2 p = some (.lst ((ns.set i.toNat z).map V.int)) → (∀ a, H a = none → H2 a = none) → Z H2) : rSetL (.ref p) (.int i) (.int z) H Z :=
  r_setL h h0 (by rw [List.length_map]; exact h1) fun H2 e h2 f => q H2 e (by rw [List.map_set]; exact h2) f
/-- ns[b:e] -/
theorem cut_nat {b e : Nat} (ns : List Int) (h1 : b ≤ e) (h2 : e ≤ ns.length) : cutV (ns.map V.int) (some (b : Int)) (some (e : Int)) = ((ns.drop b).take (e - b)).map V.int := by
  rw [cut_ints, HT.sIx_nat, HT.sIx_nat, Nat.min_eq_left (by omega), Nat.min_eq_left (by omega)]
theorem cut_from {b : Nat} (ns : List Int) (h1 : b ≤ ns.length) : cutV (ns.map V.int) (some (b : Int)) none = (ns.drop b).map V.int := by
  rw [cut_ints, HT.sIx_nat, Nat.min_eq_left (by omega)]
  show ((ns.drop b).take (ns.length - b)).map V.int = _
  rw [List.take_of_length_le (by rw [List.length_drop]; omega)]
theorem cut_to {e : Nat} (ns : List Int) (h1 : e ≤ ns.length) : cutV (ns.map V.int) none (some (e : Int)) = (ns.take e).map V.int := by
  rw [cut_ints, HT.sIx_nat, Nat.min_eq_left (by omega)]
  show ((ns.drop 0).take (e - 0)).map V.int = _
  rw [List.drop_zero, Nat.sub_zero]
theorem r_slBE {b e : Nat} {x y : Int} (h : SqL K H p (ns.map V.int)) (hx : x = (b : Int)) (hy : y = (e : Int)) (h1 : b ≤ e) (h2 : e ≤ ns.length) (q : ∀ p2 H2, H p2 = none → Ex H H2 → H2 p2 = some (.lst (((ns.drop b).take (e - b)).map V.int)) → Q (.ref p2) H2) : rSlL K (.ref p) (some x) (some y) H Q :=
  r_slL h fun p2 H2 n e h => q p2 H2 n e (by rw [hx, hy, cut_nat ns h1 h2] at h; exact h)
theorem r_slB {b : Nat} {x : Int} (h : SqL K H p (ns.map V.int)) (hx : x = (b : Int)) (h1 : b ≤ ns.length) (q : ∀ p2 H2, H p2 = none → Ex H H2 → H2 p2 = some (.lst ((ns.drop b).map V.int)) → Q (.ref p2) H2) : rSlL K (.ref p) (some x) none H Q :=
  r_slL h fun p2 H2 n e h => q p2 H2 n e (by rw [hx, cut_from ns h1] at h; exact h)
theorem r_slE {e : Nat} {y : Int} (h : SqL K H p (ns.map V.int)) (hy : y = (e : Int)) (h1 : e ≤ ns.length) (q : ∀ p2 H2, H p2 = none → Ex H H2 → H2 p2 = some (.lst ((ns.take e).map V.int)) → Q (.ref p2) H2) : rSlL K (.ref p) none (some y) H Q :=
  r_slL h fun p2 H2 n e h => q p2 H2 n e (by rw [hy, cut_to ns h1] at h; exact h)
/-! ### isinstance of tuples -/
theorem r_isiT {nm : String} {b : Bool} (h : PySem.W.kitOne K (.type "tuple") (.type nm) = some b) (hp : H p = some (.tup xs)) (q : Q (.bl b) H) : rIsi K [.ref p, .ty nm] H Q := ⟨.ref p, .ty nm, .type "tuple", .type nm, b, rfl, .ty nm, .base (.tup hp), h, q⟩
theorem r_isTT (hp : H p = some (.tup xs)) (q : Q (.bl true) H) : rIsi K [.ref p, .ty "tuple"] H Q := r_isiT (kit_ty (by decide +kernel)) hp q
theorem r_isTL (hp : H p = some (.tup xs)) (q : Q (.bl false) H) : rIsi K [.ref p, .ty "list"] H Q := r_isiT (kit_ty (by decide +kernel)) hp q
theorem r_isLT (hp : H p = some (.lst xs)) (q : Q (.bl false) H) : rIsi K [.ref p, .ty "tuple"] H Q := r_isiL (kit_ty (by decide +kernel)) hp q
end
/-! ### heaps, backwards -/
theorem freshB {p l : Addr} {A B : Hp} (e : ExB p A B) (n : l ≠ p) (h : B l = none) : A l = none := by
  cases hx : A l with
  | none => rfl
  | some o =>
    have := e _ _ n hx
    rw [h] at this
    cases this
theorem ext {K : PySem.W.Frag} {H H' : Hp} {a : Addr} {xs : List V} (e : Ex H H') (h : SqT K H a xs) : SqT K H' a xs := ex_t e h
theorem exb_t {K : PySem.W.Frag} {l : Addr} {H H' : Hp} {a : Addr} {xs : List V} (e : ExB l H H') (n : a ≠ l) (h : SqT K H a xs) : SqT K H' a xs := by
  rcases h with (h | ⟨o, h⟩) | h
  · exact .inl (.inl (e _ _ n h))
  · exact .inl (.inr ⟨o, e _ _ n h⟩)
  · exact .inr h
theorem ne_pur {H : Hp} {p l : Addr} (h : Pur H p) (n : H l = none) : p ≠ l := (h.ne n).symm
section
variable {K : PySem.W.Frag} {σ : L2.St} {H : Hp} {D : Ends} {te : TE} {g : TG} {tb : TS} {tt : TT} {Q : VK} {a : Addr} {xs : List V} {ns : List Int} {m : Nat} {vs : List Nat}
/-- over a tuple -/
theorem forT (hx : SqT K H a xs) (Pv : Nat → L2.St → Hp → Prop) (h0 : Pv 0 σ H) (hl : ∀ i s h, i ≤ xs.length → Pv i s h → SqT K h a xs)
    (hs : ∀ i x s h, xs[i]? = some x → Pv i s h → g x s h fun s2 h2 => tb ⟨Pv (i + 1), D.rt, D.nx, Pv (i + 1)⟩ s2 h2) (hd : ∀ s h, Pv xs.length s h → D.nx s h) : ItT K (.ref a) H (ForW g tb D σ) :=
  ⟨a, rfl, ⟨xs, hx⟩, for_tup (K := K) (a := a) (xs := xs) Pv h0 hl hs hd⟩
theorem lcT (hx : SqT K H a xs) (Pv : Addr → Nat → Hp → Prop) (h0 : ∀ p h, H p = none → Ex H h → h p = some (.lst []) → Pv p 0 h) (hl : ∀ p i h, i ≤ xs.length → Pv p i h → SqT K h a xs)
    (hs : ∀ p (i : Nat) x h, xs[i]? = some x → Pv p i h → te ((wipe σ vs).set m (some x)) h (AppW p (Pv p (i + 1)))) (hd : ∀ p h, Pv p xs.length h → Q (.ref p) h)
    (hw : ∀ x, wipe ((wipe σ vs).set m (some x)) vs = wipe σ vs) : ItT K (.ref a) H (LcW (gName m) tYes te vs σ Q) :=
  ⟨a, rfl, ⟨xs, hx⟩, fun p hp => lc_tup (K := K) (a := a) (xs := xs) (Pv p) (h0 p _ hp (Ex.new hp) upd_same) (fun i h hi q => hl p i h hi q) (fun i x h hi q => ⟨hw x, yesL (hs p i x h hi q)⟩) (hd p)⟩
/-- [one for one in xs] -/
theorem lcLcopy (hx : SqL K H a xs) (l : xs.length ≤ 100000) (e : (wipe σ vs).length > m) (q : ∀ p H2, H p = none → Ex H H2 → H2 p = some (.lst xs) → Q (.ref p) H2)
    (hw : ∀ x, wipe ((wipe σ vs).set m (some x)) vs = wipe σ vs) : ItL K (.ref a) H (LcW (gName m) tYes (tVar m) vs σ Q) := by
  refine lcL hx (fun p i h => h p = some (.lst (xs.take i)) ∧ Ex H h ∧ H p = none) (fun p h n e h1 => ⟨h1, e, n⟩) (fun p i h _ ⟨_, e, _⟩ => ex_l e hx) (fun p i x h hi ⟨h1, e1, n⟩ => ?_) (fun p h ⟨h1, e1, n⟩ => q p h n e1 (by rw [List.take_length] at h1; exact h1)) hw
  have hil := (List.getElem?_eq_some_iff.mp hi).1
  refine r_var (v := x) (by rw [List.getElem?_set_self e]) (appW h1 (by rw [List.length_take]; omega) fun H5 e5 h5 => ⟨?_, ExB.ex e1 e5 n, n⟩)
  rw [h5, List.take_succ, hi]
  rfl
theorem lcTcopy (hx : SqT K H a xs) (l : xs.length ≤ 100000) (e : (wipe σ vs).length > m) (q : ∀ p H2, H p = none → Ex H H2 → H2 p = some (.lst xs) → Q (.ref p) H2)
    (hw : ∀ x, wipe ((wipe σ vs).set m (some x)) vs = wipe σ vs) : ItT K (.ref a) H (LcW (gName m) tYes (tVar m) vs σ Q) := by
  refine lcT hx (fun p i h => h p = some (.lst (xs.take i)) ∧ Ex H h ∧ H p = none) (fun p h n e h1 => ⟨h1, e, n⟩) (fun p i h _ ⟨_, e, _⟩ => ex_t e hx) (fun p i x h hi ⟨h1, e1, n⟩ => ?_) (fun p h ⟨h1, e1, n⟩ => q p h n e1 (by rw [List.take_length] at h1; exact h1)) hw
  have hil := (List.getElem?_eq_some_iff.mp hi).1
  refine r_var (v := x) (by rw [List.getElem?_set_self e]) (appW h1 (by rw [List.length_take]; omega) fun H5 e5 h5 => ⟨?_, ExB.ex e1 e5 n, n⟩)
  rw [h5, List.take_succ, hi]
  rfl
end
/-! ### tuples of ints compared -/
theorem sh_tints (ns : List Int) : SeqAt.shaped (.tuple (ns.map PyData.int)) = true := by
  have h := ints_depth ns
  refine shape_of ?_ ?_
  · simp only [PyData.canLay0]
    exact ints_lay ns
  · simp only [PyData.depth]
    omega
theorem dp_tints {K : PySem.W.Frag} {H : Hp} {p : Addr} {ns : List Int} (h : SqT K H p (ns.map V.int)) : Dp K H (.ref p) (.tuple (ns.map PyData.int)) := .tup h (dpa_ints ns)
/-! ### lists of lists of ints -/
def ptab (t : List (List Int)) : PyData := .list (t.map fun ns => PyData.list (ns.map PyData.int))
theorem tab_lay : ∀ t : List (List Int), PyData.canLayAll0 (t.map fun ns => PyData.list (ns.map PyData.int)) = true
  | [] => rfl
  | ns :: t => by
    have h := tab_lay t
    simp only [List.map_cons, PyData.canLayAll0, PyData.canLay0, ints_lay, Bool.true_and]
    exact h
theorem tab_depth : ∀ t : List (List Int), PyData.depthAll (t.map fun ns => PyData.list (ns.map PyData.int)) ≤ 2
  | [] => by simp [PyData.depthAll]
  | ns :: t => by
    have h := tab_depth t
    have h2 := ints_depth ns
    simp only [List.map_cons, PyData.depthAll, PyData.depth]
    omega
theorem sh_tab (t : List (List Int)) : SeqAt.shaped (ptab t) = true := by
  have h := tab_depth t
  refine shape_of ?_ ?_
  · simp only [ptab, PyData.canLay0]
    exact tab_lay t
  · simp only [ptab, PyData.depth]
    omega
theorem dp_tab2 {K : PySem.W.Frag} {H : Hp} {p a b : Addr} {ns ms : List Int} (h : SqL K H p [.ref a, .ref b]) (ha : SqL K H a (ns.map V.int)) (hb : SqL K H b (ms.map V.int)) : Dp K H (.ref p) (ptab [ns, ms]) :=
  .lst h (.cons (dp_ints ha) (.cons (dp_ints hb) .nil))
/-! ### conditions that are values -/
section
variable {K : PySem.W.Frag} {σ : L2.St} {H : Hp} {Q : VK} {x y : V} {i j : Int} {P : Prop} [Decidable P]
theorem r_iteC (h : Q (.int (if P then i else j)) H) : if decide P = true then tC (.int i) σ H Q else tC (.int j) σ H Q := by
  by_cases c : P
  · rw [if_pos (decide_eq_true c)]
    rw [if_pos c] at h
    exact h
  · rw [if_neg (by rw [decide_eq_false c]; decide)]
    rw [if_neg c] at h
    exact h
theorem r_chain {r r' : R2} {ta tb tc : TE} (h : ta σ H fun x H1 => tb σ H1 fun y H2 => r x y H2 fun z H3 => ∃ k, z = .bl k ∧ (if k = true then tc σ H3 fun w' H4 => r' y w' H4 Q else Q (.bl false) H3)) : tChain r r' ta tb tc σ H Q := h
theorem r_tIfI {c : TT} (h : c σ H fun b H1 => if b = true then tC (.int i) σ H1 Q else tC (.int j) σ H1 Q) : tIf c (tC (.int i)) (tC (.int j)) σ H Q := h
theorem r_ixT0 {p : Addr} {xs : List V} {v : V} (h : SqT K H p (v :: xs)) (q : Q v H) : rIxT K (.ref p) (.int 0) H Q := r_ixT h (atI_V (j := 0) rfl rfl) q
theorem r_ixT1 {p : Addr} {xs : List V} {a v : V} (h : SqT K H p (a :: v :: xs)) (q : Q v H) : rIxT K (.ref p) (.int 1) H Q := r_ixT h (atI_V (j := 1) rfl rfl) q
theorem r_ixT2 {p : Addr} {xs : List V} {a b v : V} (h : SqT K H p (a :: b :: v :: xs)) (q : Q v H) : rIxT K (.ref p) (.int 2) H Q := r_ixT h (atI_V (j := 2) rfl rfl) q
end
/-! ### the greatest of ints -/
def mx (a b : Int) : Int := if b > a then b else a
def mn (a b : Int) : Int := if b < a then b else a
def mxl : List Int → Int
  | [] => 0
  | z :: ns => ns.foldl (fun a b => if b > a then b else a) z
theorem mxf_ge : ∀ (ns : List Int) (z : Int), z ≤ ns.foldl (fun a b => if b > a then b else a) z ∧ ∀ y ∈ ns, y ≤ ns.foldl (fun a b => if b > a then b else a) z
  | [], z => ⟨Int.le_refl z, fun y h => (List.not_mem_nil h).elim⟩
  | x :: ns, z => by
    have ih := mxf_ge ns (if x > z then x else z)
    rw [List.foldl_cons]
    refine ⟨Int.le_trans ?_ ih.1, fun y hy => ?_⟩
    · split <;> omega
    · rcases List.mem_cons.mp hy with q | q
      · rw [q]
        refine Int.le_trans ?_ ih.1
        split <;> omega
      · exact ih.2 y q
theorem mxf_mem : ∀ (ns : List Int) (z : Int), ns.foldl (fun a b => if b > a then b else a) z ∈ z :: ns
  | [], z => List.mem_cons_self
  | x :: ns, z => by
    have ih := mxf_mem ns (if x > z then x else z)
    rw [List.foldl_cons]
    rcases List.mem_cons.mp ih with q | q
    · rw [q]
      by_cases c : x > z
      · rw [if_pos c]; exact List.mem_cons_of_mem _ List.mem_cons_self
      · rw [if_neg c]; exact List.mem_cons_self
    · exact List.mem_cons_of_mem _ (List.mem_cons_of_mem _ q)
theorem mxl_mem {ns : List Int} (h : 0 < ns.length) : mxl ns ∈ ns := by
  cases ns with
  | nil => exact absurd h (Nat.lt_irrefl 0)
  | cons z ns => exact mxf_mem ns z
theorem mxl_ge {ns : List Int} {y : Int} (h : y ∈ ns) : y ≤ mxl ns := by
  cases ns with
  | nil => exact (List.not_mem_nil h).elim
  | cons z ns =>
    rcases List.mem_cons.mp h with q | q
    · rw [q]; exact (mxf_ge ns z).1
    · exact (mxf_ge ns z).2 y q
section
variable {K : PySem.W.Frag} {σ : L2.St} {H : Hp} {Q : VK} {p : Addr} {xs : List V} {ns : List Int} {i j k : Int} {a b : Bool} {n : Nat}
theorem r_maxI (h : SqL K H p (ns.map V.int)) (l : 0 < ns.length) (q : Q (.int (mxl ns)) H) : rMax K [.ref p] H Q :=
  r_max h l fun m hm hge => by
    have a := hge _ (mxl_mem l)
    have b := mxl_ge hm
    have e : m = mxl ns := by omega
    rw [e]
    exact q
theorem dB {a b : Bool} : decide (V.bl a = V.bl b) = decide (a = b) := by cases a <;> cases b <;> rfl
theorem r_eqB (h : Q (.bl (decide (a = b))) H) : rEq (.bl a) (.bl b) H Q := ⟨rfl, by rw [dB]; exact h⟩
theorem r_neB (h : Q (.bl (!decide (a = b))) H) : rNe (.bl a) (.bl b) H Q := ⟨rfl, by rw [dB]; exact h⟩
/-- xs * k -/
theorem r_repG (h : H p = some (.lst xs)) (h0 : 0 ≤ k) (h1 : xs.length * k.toNat ≤ 100000) (h2 : k ≤ 1000000) (q : ∀ p2 H2, H p2 = none → Ex H H2 → H2 p2 = some (.lst (List.replicate k.toNat xs).flatten) → Q (.ref p2) H2) : rRep (.ref p) (.int k) H Q :=
  ⟨p, k, xs, rfl, rfl, h, by omega, by omega, sz_of h1, fun p2 n => q p2 _ n (Ex.new n) upd_same⟩
def rStrI : List V → Hp → VK → Prop := fun xs H Q => ∃ i : Int, xs = [.int i] ∧ i.natAbs.log2 < 1920 ∧ Q (.str (toString i)) H
def rLenS : List V → Hp → VK → Prop := fun xs H Q => ∃ z : Str, xs = [.str z] ∧ z.length ≤ sizeLine ∧ Q (.int z.length) H
theorem r_strI (h0 : -1000000000 ≤ i) (h1 : i ≤ 1000000000) (q : Q (.str (toString i)) H) : rStrI [.int i] H Q := ⟨i, rfl, tell_int h0 h1, q⟩
theorem r_lenS {z : Str} (h : z.length ≤ 100000) (q : Q (.int z.length) H) : rLenS [.str z] H Q := ⟨z, rfl, sz_of h, q⟩
end
section
variable {X : Cx}
theorem c_str : CallR X (.type "str") rStrI := call_str_int
theorem c_lenS : CallR X (.builtin "len") rLenS := call_len_str
end
section
variable {K : PySem.W.Frag} {σ : L2.St} {H : Hp} {te : TE} {Q : VK} {m : Nat} {vs : List Nat} {i j : Int}
theorem lcR2 (h1 : -1000000000 ≤ i ∧ i ≤ 1000000000) (h2 : -1000000000 ≤ j ∧ j ≤ 1000000000) (Pv : Addr → Nat → Hp → Prop) (h0 : ∀ p h, H p = none → Ex H h → h p = some (.lst []) → Pv p 0 h)
    (hs : ∀ p (k : Nat) h, i + (k : Int) < j → Pv p k h → te ((wipe σ vs).set m (some (.int (i + k)))) h (AppW p (Pv p (k + 1)))) (hd : ∀ p h, Pv p (j - i).toNat h → Q (.ref p) h)
    (hw : ∀ x, wipe ((wipe σ vs).set m (some x)) vs = wipe σ vs) : ItR2 [.int i, .int j] H (LcW (gName m) tYes te vs σ Q) := by
  refine ⟨i, j, rfl, ⟨by omega, by omega, by omega, by omega⟩, fun p hp => lc_range (lo := i) (n := (j - i).toNat) (Pv p) (h0 p _ hp (Ex.new hp) upd_same) (fun k h hk q => ?_) (hd p)⟩
  exact ⟨hw _, yesL (hs p k h (by omega) q)⟩
/-- a list of ints by a comprehension over a range that only reads and calls what adds to the heap -/
theorem lcF1 {f : Nat → Int} (h1 : -1000000000 ≤ j) (h2 : j ≤ 90000)
    (hs : ∀ (k : Nat) h (R : VK), (k : Int) < j → Ex H h → (∀ h2, Ex h h2 → R (.int (f k)) h2) → te ((wipe σ vs).set m (some (.int k))) h R)
    (hd : ∀ p h, H p = none → Ex H h → h p = some (.lst (((List.range j.toNat).map f).map V.int)) → Q (.ref p) h)
    (hw : ∀ x, wipe ((wipe σ vs).set m (some x)) vs = wipe σ vs) : ItR1 [.int j] H (LcW (gName m) tYes te vs σ Q) := by
  refine lcR1 h1 (by omega) (fun p k h => h p = some (.lst (((List.range k).map f).map V.int)) ∧ Ex H h ∧ H p = none) (fun p h n e hp => ⟨hp, e, n⟩) (fun p k h hk ⟨hp, e, n⟩ => ?_) (fun p h ⟨hp, e, n⟩ => hd p h n e hp) hw
  refine hs k h _ hk e fun h2 e2 => appW (e2 _ _ hp) (by rw [List.length_map, List.length_map, List.length_range]; omega) fun H5 e5 h5 => ⟨?_, ExB.ex (e.trans e2) e5 n, n⟩
  rw [h5, List.range_succ, List.map_append, List.map_append]
  rfl
theorem lcF2 {f : Nat → Int} (h1 : -1000000000 ≤ i ∧ i ≤ 1000000000) (h2 : -1000000000 ≤ j ∧ j ≤ 1000000000) (h3 : j - i ≤ 90000)
    (hs : ∀ (k : Nat) h (R : VK), i + (k : Int) < j → Ex H h → (∀ h2, Ex h h2 → R (.int (f k)) h2) → te ((wipe σ vs).set m (some (.int (i + k)))) h R)
    (hd : ∀ p h, H p = none → Ex H h → h p = some (.lst (((List.range (j - i).toNat).map f).map V.int)) → Q (.ref p) h)
    (hw : ∀ x, wipe ((wipe σ vs).set m (some x)) vs = wipe σ vs) : ItR2 [.int i, .int j] H (LcW (gName m) tYes te vs σ Q) := by
  refine lcR2 h1 h2 (fun p k h => h p = some (.lst (((List.range k).map f).map V.int)) ∧ Ex H h ∧ H p = none) (fun p h n e hp => ⟨hp, e, n⟩) (fun p k h hk ⟨hp, e, n⟩ => ?_) (fun p h ⟨hp, e, n⟩ => hd p h n e hp) hw
  refine hs k h _ hk e fun h2 e2 => appW (e2 _ _ hp) (by rw [List.length_map, List.length_map, List.length_range]; omega) fun H5 e5 h5 => ⟨?_, ExB.ex (e.trans e2) e5 n, n⟩
  rw [h5, List.range_succ, List.map_append, List.map_append]
  rfl
end
theorem sq_fresh {K : PySem.W.Frag} {H0 H1 H2 : Hp} {s p : Addr} {xs : List V} (h0 : SqL K H0 s xs) (np : H0 p = none) (h : SqL K H1 s xs) (e : ExB p H1 H2) : SqL K H2 s xs := by
  rcases h0 with (h0 | ⟨o, h0⟩) | h0
  · exact exb_l e (ne_of_none h0 np) h
  · exact exb_l e (ne_of_none h0 np) h
  · exact .inr h0
end Lay
/-! own classes: their objects, fields, methods -/
namespace Lay
open PySem PySem.Spec PyProof.Rows L2 Evl
/-- an own class and the fields that its objects have -/
structure OC (K : PySem.W.Frag) (mg : Str → Option Value) (x : Str) (C : Addr) (fs : List Str) : Prop where
  cl : Cls K C
  g : mg x = some (.ref C)
  kp : PySem.W.keepIn K (.ref C) = true
  na : ∀ f ∈ fs, NoAttr K C f
/-- a def's text, with or without defaults -/
structure FunD (K : PySem.W.Frag) (x qual : Str) (st : Stmt) (f : Addr) (fd : FuncData) : Prop where
  ex : ∃ (oc : Value) (od : Option Addr) (dV kV doc pm : Value) (an : Option Addr) (cdv ct : Value) (osl : Array (Option Value)),
    fd = PySem.W.fnOf x qual (defArgs st) (defBody st) (defScope st) dV kV doc pm an cdv ct ∧ K.lookup f = some ⟨oc, od, .func fd, osl⟩ ∧ PySem.W.codeIn K cdv qual = true
section
variable {P : Program} {w : World} {K : PySem.W.Frag} {mg : Str → Option Value} {base : Heap}
theorem FunD.okX {x qual : Str} {st : Stmt} {f : Addr} {fd : FuncData} {N ps : List Str} {k : Nat} {sp : Sp} (F : FunD K x qual st f fd) (S : FnScope N ps (defScope st)) (len : ∀ vs H Q E, sp vs H Q E → vs.length = ps.length)
    (hbody : ∀ (cdv : Value) (A : Around) (outer : List Env) (s : Shared) (H : Hp) (vs : List V) (Q : VK) (E : XK), Room k (A.deeper (envOfC qual (defScope st) s.heap.objs.size f cdv)) → sp vs H Q E →
      ∃ t, PSs (cxOf (L2.CX P w) P w K mg base N qual (defScope st) f cdv A outer s H E) (defBody st) t ∧ t { nx := fun _ H' => Q .non H', rt := Q } (start N vs) H) : FnOk P w K mg base (L2.CX P w) (k + 1) f fd ps sp := by
  obtain ⟨oc, od, dV, kV, doc, pm, an, cdv, ct, osl, rfl, lk, hcd⟩ := F.ex
  exact fn_of lk hcd S len fun A outer s H vs Q E hr hsp => hbody cdv A outer s H vs Q E hr hsp
theorem funD_mk {x qual : Str} {st : Stmt} {f : Addr} {oc : Value} {od an : Option Addr} {osl : Array (Option Value)} {dV kV doc pm cdv ct : Value} (l : K.lookup f = some ⟨oc, od, .func (PySem.W.fnOf x qual (defArgs st) (defBody st) (defScope st) dV kV doc pm an cdv ct), osl⟩)
    (c : PySem.W.codeIn K cdv qual = true) : FunD K x qual st f (PySem.W.fnOf x qual (defArgs st) (defBody st) (defScope st) dV kV doc pm an cdv ct) := ⟨⟨oc, od, dV, kV, doc, pm, an, cdv, ct, osl, rfl, l, c⟩⟩
theorem FunD.binds {x qual : Str} {st : Stmt} {f : Addr} {fd : FuncData} {ps : List Str} (F : FunD K x qual st f fd)
    (h : ∀ (dV kV doc pm : Value) (an : Option Addr) (cdv ct : Value) (us : List Value), us.length = ps.length → bindArgs (PySem.W.fnOf x qual (defArgs st) (defBody st) (defScope st) dV kV doc pm an cdv ct) ⟨us, []⟩ = pure (ps.zip us)) : Binds K fd ps [] := by
  obtain ⟨oc, od, dV, kV, doc, pm, an, cdv, ct, osl, rfl, lk, hcd⟩ := F.ex
  exact .all (h dV kV doc pm an cdv ct)
end
/-- a method's text -/
structure AtM (K : PySem.W.Frag) (C : Addr) (m qual : Str) (st : Stmt) (ps : List Str) : Prop where
  ex : ∃ (f : Addr) (fd : FuncData), FunD K m qual st f fd ∧ Meth K C m f ∧ Binds K fd ps []
/-- a method as callers know it -/
structure DM (P : Program) (w : World) (K : PySem.W.Frag) (mg : Str → Option Value) (base : Heap) (C : Addr) (m : Str) (k : Nat) (ps : List Str) (sp : Sp) : Prop where
  ex : ∃ (f : Addr) (fd : FuncData), FnOk P w K mg base (L2.CX P w) k f fd ps sp ∧ Meth K C m f ∧ Binds K fd ps []
/-- an __init__'s text, and the making -/
structure AtI (K : PySem.W.Frag) (mg : Str → Option Value) (x : Str) (C : Addr) (qual : Str) (st : Stmt) (ps : List Str) : Prop where
  ex : ∃ (f : Addr) (fd : FuncData), FunD K "__init__" qual st f fd ∧ Mk K C f ∧ mg x = some (.ref C) ∧ Binds K fd ps []
structure DI (P : Program) (w : World) (K : PySem.W.Frag) (mg : Str → Option Value) (base : Heap) (x : Str) (C : Addr) (k : Nat) (ps : List Str) (sp : Sp) : Prop where
  ex : ∃ (f : Addr) (fd : FuncData), FnOk P w K mg base (L2.CX P w) k f fd ps sp ∧ Mk K C f ∧ mg x = some (.ref C) ∧ Binds K fd ps []
section
variable {P : Program} {w : World} {K : PySem.W.Frag} {mg : Str → Option Value} {base : Heap}
theorem DM.mk' {C : Addr} {m qual : Str} {st : Stmt} {N ps : List Str} {k : Nat} {sp : Sp} (F : AtM K C m qual st ps) (S : FnScope N ps (defScope st)) (len : ∀ vs H Q E, sp vs H Q E → vs.length = ps.length)
    (hbody : ∀ (f : Addr) (cdv : Value) (A : Around) (outer : List Env) (s : Shared) (H : Hp) (vs : List V) (Q : VK) (E : XK), Room k (A.deeper (envOfC qual (defScope st) s.heap.objs.size f cdv)) → sp vs H Q E →
      ∃ t, PSs (cxOf (L2.CX P w) P w K mg base N qual (defScope st) f cdv A outer s H E) (defBody st) t ∧ t { nx := fun _ H' => Q .non H', rt := Q } (start N vs) H) : DM P w K mg base C m (k + 1) ps sp := by
  obtain ⟨f, fd, Ff, g, b⟩ := F.ex
  exact ⟨f, fd, Ff.okX S len (hbody f), g, b⟩
theorem DI.mk' {x : Str} {C : Addr} {qual : Str} {st : Stmt} {N ps : List Str} {k : Nat} {sp : Sp} (F : AtI K mg x C qual st ps) (S : FnScope N ps (defScope st)) (len : ∀ vs H Q E, sp vs H Q E → vs.length = ps.length)
    (hbody : ∀ (f : Addr) (cdv : Value) (A : Around) (outer : List Env) (s : Shared) (H : Hp) (vs : List V) (Q : VK) (E : XK), Room k (A.deeper (envOfC qual (defScope st) s.heap.objs.size f cdv)) → sp vs H Q E →
      ∃ t, PSs (cxOf (L2.CX P w) P w K mg base N qual (defScope st) f cdv A outer s H E) (defBody st) t ∧ t { nx := fun _ H' => Q .non H', rt := Q } (start N vs) H) : DI P w K mg base x C (k + 1) ps sp := by
  obtain ⟨f, fd, Ff, g, m, b⟩ := F.ex
  exact ⟨f, fd, Ff.okX S len (hbody f), g, m, b⟩
end
section
variable {X : Cx} {k : Nat} {ps : List Str} {sp : Sp} {E : XK} {x m : Str} {C : Addr} {p pos apos : Pos} {o e : Expr} {es : List Expr} {ta : TE} {t : TA}
theorem pe_mD {pl : Sem Bool} (d : DM X.prog X.w X.K X.mg X.base C m k ps sp) (c : Cls X.K C) (hr : Room k X.A) (hx : Passes (L2.CX X.prog X.w) X E) (he : PE X o ta) (ha : PA X (e :: es) t)
    (hst : starEach (e :: es) X.env = (false, eval e X.env) :: starEach es X.env := by rfl) (hpl : (backTo pos (starEach es X.env)).any (·.1) = false := by rfl)
    (ht : eval (.Call (.Attribute o m apos) (e :: es) [] pos) X.env = (do
      let ov ← eval o X.env
      standAt apos.atName
      let (f, first) ← holding [ov] (getMethod ov m pl)
      callWith pos f first (backTo pos (starEach (e :: es) X.env)) (backToKw pos (keywordEach [] X.env))) := by rfl) :
    PE X (.Call (.Attribute o m apos) (e :: es) [] pos) (tMeth C m sp [] E ta t) := by
  obtain ⟨f, fd, F, hm, b⟩ := d.ex
  exact pe_meth (pl := pl) he c hm F hr b .nil hx ha hst hpl ht
theorem pe_mD0 {pl : Sem Bool} (d : DM X.prog X.w X.K X.mg X.base C m k ps sp) (c : Cls X.K C) (hr : Room k X.A) (hx : Passes (L2.CX X.prog X.w) X E) (he : PE X o ta)
    (ht : eval (.Call (.Attribute o m apos) [] [] pos) X.env = (do
      let ov ← eval o X.env
      standAt apos.atName
      let (f, first) ← holding [ov] (getMethod ov m pl)
      callWith pos f first (backTo pos (starEach [] X.env)) (backToKw pos (keywordEach [] X.env))) := by rfl) :
    PE X (.Call (.Attribute o m apos) [] [] pos) (tMeth C m sp [] E ta tNil) := by
  obtain ⟨f, fd, F, hm, b⟩ := d.ex
  exact pe_meth0 (pl := pl) he c hm F hr b .nil hx ht
theorem pe_mkD (d : DI X.prog X.w X.K X.mg X.base x C k ps sp) (hr : Room (k + 1) X.A) (hx : Passes (L2.CX X.prog X.w) X E) (ha : PA X (e :: es) t) (hg : Gl X x := by rfl)
    (hdb : (x == ("__debug__" : Str)) = false := by decide) (he : starEach (e :: es) X.env = (false, eval e X.env) :: starEach es X.env := by rfl) (hpl : (backTo pos (starEach es X.env)).any (·.1) = false := by rfl) :
    PE X (.Call (.Name x p) (e :: es) [] pos) (tMake C sp [] E t) := by
  obtain ⟨f, fd, F, hm, g, b⟩ := d.ex
  exact pe_make hm F hr hg g b .nil hx ha hdb he hpl
end
/-! ### readings -/
def rFld (K : PySem.W.Frag) (f : Str) (x : V) (H : Hp) (Q : VK) : Prop := ∃ a C dx fs v, x = .ref a ∧ H a = some (.ins C dx fs) ∧ Cls K C ∧ NoAttr K C f ∧ fs.lookup f = some v ∧ Q v H
def rFst (K : PySem.W.Frag) (f : Str) (y : V) (σ : L2.St) (N : L2.St → Hp → Prop) (x : V) (H : Hp) : Prop := ∃ a C dx fs, x = .ref a ∧ H a = some (.ins C dx fs) ∧ Cls K C ∧ NoAttr K C f ∧ fs.length < 1000 ∧ N σ (upd H a (.ins C dx (putF f y fs)))
def rMth (C : Addr) (m : Str) (sp : Sp) (E : XK) (σ : L2.St) (t : TA) (Q : VK) (x : V) (H : Hp) : Prop := ∃ a dx fs, x = .ref a ∧ H a = some (.ins C dx fs) ∧ fs.lookup m = none ∧ t σ H fun vs H2 => sp (x :: vs) H2 Q E
def rMk (C : Addr) (sp : Sp) (E : XK) (Q : VK) (vs : List V) (H : Hp) : Prop := ∀ x dx, H x = none → H dx = none → dx ≠ x → sp (.ref x :: (vs ++ [])) (upd (upd H dx (.own x)) x (.ins C dx [])) (fun v H2 => v = .non ∧ Q (.ref x) H2) E
section
variable {K : PySem.W.Frag} {mg : Str → Option Value} {σ : L2.St} {H : Hp} {D : Ends} {Q : VK} {N : L2.St → Hp → Prop} {ta tv : TE} {t : TA} {f m x : Str} {a C dx : Addr} {fs : List (Str × V)} {ff : List Str} {v y : V} {sp : Sp} {E : XK}
theorem r_fld (h : ta σ H fun x H1 => rFld K f x H1 Q) : tFld K ta f σ H Q := h
theorem r_rfld (h : H a = some (.ins C dx fs)) (c : OC K mg x C ff) (hf : f ∈ ff) (l : fs.lookup f = some v) (q : Q v H) : rFld K f (.ref a) H Q := ⟨a, C, dx, fs, v, rfl, h, c.cl, c.na f hf, l, q⟩
theorem r_fst (h : tv σ H fun y H1 => ta σ H1 fun x H2 => rFst K f y σ D.nx x H2) : sFld K ta tv f D σ H := h
theorem r_rfst (h : H a = some (.ins C dx fs)) (c : OC K mg x C ff) (hf : f ∈ ff) (l : fs.length < 1000) (q : ∀ H2, ExB a H H2 → H2 a = some (.ins C dx (putF f y fs)) → N σ H2) : rFst K f y σ N (.ref a) H :=
  ⟨a, C, dx, fs, rfl, h, c.cl, c.na f hf, l, q _ (fun b o n e => by rw [upd_ne n]; exact e) upd_same⟩
theorem r_mth (h : ta σ H fun x H1 => rMth C m sp E σ t Q x H1) : tMeth C m sp [] E ta t σ H Q := by
  refine Eq.mp ?_ h
  unfold tMeth rMth
  simp only [List.append_nil]
theorem r_rmth (h : H a = some (.ins C dx fs)) (l : fs.lookup m = none) (q : t σ H fun vs H2 => sp (.ref a :: vs) H2 Q E) : rMth C m sp E σ t Q (.ref a) H := ⟨a, dx, fs, rfl, h, l, q⟩
theorem r_make (h : t σ H fun vs H1 => rMk C sp E Q vs H1) : tMake C sp [] E t σ H Q := h
/-- a new object: __init__ is handed it, empty -/
theorem r_rmk {vs : List V} (h : ∀ x dx H2, H x = none → H dx = none → dx ≠ x → Ex H H2 → H2 x = some (.ins C dx []) → sp (.ref x :: vs) H2 (fun v H3 => v = .non ∧ Q (.ref x) H3) E) : rMk C sp E Q vs H := fun x dx nx nd ne => by
  have e : Ex H (upd (upd H dx (.own x)) x (.ins C dx [])) := fun b o hb => by
    rw [upd_ne (ne_of_none hb nx), upd_ne (ne_of_none hb nd)]
    exact hb
  rw [List.append_nil]
  exact h x dx _ nx nd ne e upd_same
end
/-- a statement that is never reached -/
theorem ps_dead {X : Cx} {st : Stmt} : PS X st (fun _ _ _ => False) := ⟨fun _ _ _ _ _ _ h => h.elim⟩
theorem pe_dead {X : Cx} {e : Expr} : PE X e (fun _ _ _ => False) := ⟨fun _ _ _ _ _ _ h => h.elim⟩
def rPar (i j : Nat) (N : L2.St → Hp → Prop) (σ : L2.St) (vs : List V) (H : Hp) : Prop := ∃ v w, vs = [v, w] ∧ N ((σ.set i (some v)).set j (some w)) H
theorem r_par {i j : Nat} {ta : TA} {D : Ends} {σ : L2.St} {H : Hp} (h : ta σ H fun vs H1 => rPar i j D.nx σ vs H1) : tPar i j ta D σ H := h
theorem r_rpar {i j : Nat} {N : L2.St → Hp → Prop} {σ : L2.St} {H : Hp} {v w : V} (h : N ((σ.set i (some v)).set j (some w)) H) : rPar i j N σ [v, w] H := ⟨v, w, rfl, h⟩
/-! ### o.append(e), o any expression -/
def rBMr (K : PySem.W.Frag) (r : V → List V → Hp → VK → Prop) (t : TA) (Q : VK) (σ : L2.St) (x : V) (H : Hp) : Prop := tyV K "list" x H ∧ t σ H fun xs H2 => r x xs H2 Q
section
variable {K : PySem.W.Frag} {σ : L2.St} {H : Hp} {Q : VK} {to : TE} {t : TA} {r : V → List V → Hp → VK → Prop} {p : Addr} {xs : List V}
theorem r_bmG (h : to σ H fun x H1 => rBMr K r t Q σ x H1) : tBM K "list" r to t σ H Q := h
theorem r_bmR (h : SqL K H p xs) (q : t σ H fun vs H2 => r (.ref p) vs H2 Q) : rBMr K r t Q σ (.ref p) H := ⟨.inl ⟨rfl, _, h⟩, q⟩
end
end Lay
/-! lists of references: rows of pairs; data of any shape compared; comprehensions with any target and a filter -/
namespace Lay
open PySem PySem.Spec PyProof.Rows L2 Evl
/-! ### data -/
mutual
theorem Dp.ex {K : PySem.W.Frag} {H H' : Hp} (e : Ex H H') : ∀ (d : PyData) (v : V), Dp K H v d → Dp K H' v d
  | .none, _, h => by cases h; exact .non
  | .bool b, _, h => by cases h; exact .bl b
  | .int i, _, h => by cases h; exact .int i
  | .str x, _, h => by cases h; exact .str x
  | .list ds, _, h => by
    cases h with
    | lst hs ha => exact .lst (ex_l e hs) (Dp.exAll e ds _ ha)
  | .tuple ds, _, h => by
    cases h with
    | tup hs ha => exact .tup (ex_t e hs) (Dp.exAll e ds _ ha)
  | .dict _, _, h => by cases h
theorem Dp.exAll {K : PySem.W.Frag} {H H' : Hp} (e : Ex H H') : ∀ (ds : List PyData) (vs : List V), DpAll K H vs ds → DpAll K H' vs ds
  | [], _, h => by cases h; exact .nil
  | d :: ds, _, h => by
    cases h with
    | cons h1 h2 => exact .cons (Dp.ex e d _ h1) (Dp.exAll e ds _ h2)
end
theorem DpAll.snoc {K : PySem.W.Frag} {H : Hp} {v : V} {d : PyData} (h : Dp K H v d) : ∀ {vs : List V} {ds : List PyData}, DpAll K H vs ds → DpAll K H (vs ++ [v]) (ds ++ [d])
  | _, _, .nil => .cons h .nil
  | _, _, .cons a r => .cons a (DpAll.snoc h r)
theorem DpAll.len {K : PySem.W.Frag} {H : Hp} : ∀ {vs : List V} {ds : List PyData}, DpAll K H vs ds → vs.length = ds.length
  | _, _, .nil => rfl
  | _, _, .cons a r => congrArg (· + 1) (DpAll.len r)
/-- flat data -/
def Fl (d : PyData) : Prop := d.canLay0 = true ∧ d.depth ≤ 3
theorem fl_all : ∀ {ds : List PyData}, (∀ d ∈ ds, Fl d) → PyData.canLayAll0 ds = true ∧ PyData.depthAll ds ≤ 3
  | [], _ => ⟨rfl, by simp [PyData.depthAll]⟩
  | d :: ds, h => by
    have a := h d List.mem_cons_self
    have b := fl_all fun x hx => h x (List.mem_cons_of_mem _ hx)
    refine ⟨?_, ?_⟩
    · simp only [PyData.canLayAll0, a.1, b.1, Bool.and_self]
    · simp only [PyData.depthAll]
      have := a.2
      have := b.2
      omega
theorem sh_fl {ds : List PyData} (h : ∀ d ∈ ds, Fl d) : SeqAt.shaped (.list ds) = true := by
  have a := fl_all h
  refine shape_of ?_ ?_
  · simp only [PyData.canLay0]
    exact a.1
  · simp only [PyData.depth]
    omega
theorem eqv_nil (ds : List PyData) : PyData.eqv (.list ds) (.list []) = decide (ds = []) := by
  cases ds with
  | nil => simp [PyData.eqv, PyData.eqvAll]
  | cons d ds => simp [PyData.eqv, PyData.eqvAll]
section
variable {K : PySem.W.Frag} {H : Hp} {Q : VK} {p q : Addr} {ds : List PyData} {xs : List V} {v : V} {i : Int}
theorem r_neNil (h1 : Dp K H (.ref p) (.list ds)) (hf : ∀ d ∈ ds, Fl d) (h2 : SqL K H q []) (k : Q (.bl (!decide (ds = []))) H) : rNeD K (.ref p) (.ref q) H Q :=
  r_neD h1 (.lst h2 .nil) (sh_fl hf) (sh_fl fun _ z => (List.not_mem_nil z).elim) (by rw [eqv_nil]; exact k)
theorem r_eqNil (h1 : Dp K H (.ref p) (.list ds)) (hf : ∀ d ∈ ds, Fl d) (h2 : SqL K H q []) (k : Q (.bl (decide (ds = []))) H) : rEqD K (.ref p) (.ref q) H Q :=
  r_eqD h1 (.lst h2 .nil) (sh_fl hf) (sh_fl fun _ z => (List.not_mem_nil z).elim) (by rw [eqv_nil]; exact k)
/-- x != None of a list or a tuple -/
theorem r_neNon {d : PyData} (h1 : Dp K H v d) (hs : SeqAt.shaped d = true) (hn : PyData.eqv d .none = false) (k : Q (.bl true) H) : rNeD K v .non H Q :=
  r_neD h1 .non hs rfl (by rw [hn]; exact k)
end
/-! ### isinstance of own classes -/
structure OI (K : PySem.W.Frag) (C : Addr) : Prop where
  ha : PySem.W.findIn K (.ref C) "__class__" = some (some (.builtin "object.__class__"))
  hn : PySem.W.specialIn K (.builtin "object.__class__") "__get__" = some (some (.builtin "getset_descriptor.__get__"))
  htk : PySem.W.takesIn K (.builtin "object.__class__") = some true
  hm : PySem.W.mroIn K C (.type "object") = some true
theorem r_isO {K : PySem.W.Frag} {mg : Str → Option Value} {x : Str} {ff : List Str} {H : Hp} {Q : VK} {a C C2 dx : Addr} {fs : List (Str × V)} {b : Bool} (h : H a = some (.ins C dx fs)) (c : OC K mg x C ff) (o : OI K C)
    (k : PySem.W.kitOne K (.ref C) (.ref C2) = some b) (q : Q (.bl b) H) : rIsi K [.ref a, .ref C2] H Q := ⟨.ref a, .ref C2, .ref C, .ref C2, b, rfl, .own C2, .base (.ins h c.cl o.ha o.hn o.htk o.hm), k, q⟩
/-! ### a list or a tuple is no object -/
theorem exb_lI {K : PySem.W.Frag} {l C dx : Addr} {fs : List (Str × V)} {H H' : Hp} {a : Addr} {xs : List V} (e : ExB l H H') (hl : H l = some (.ins C dx fs)) (h : SqL K H a xs) : SqL K H' a xs := by
  rcases h with (h | ⟨o, h⟩) | h
  · exact .inl (.inl (e _ _ (fun z => by rw [z, hl] at h; cases h) h))
  · exact .inl (.inr ⟨o, e _ _ (fun z => by rw [z, hl] at h; cases h) h⟩)
  · exact .inr h
theorem int_at {ns : List Int} {i : Nat} {x : V} (h : (ns.map V.int)[i]? = some x) : ∃ hi : i < ns.length, x = .int ns[i] := by
  rw [List.getElem?_map] at h
  cases e : ns[i]? with
  | none =>
    rw [e] at h
    cases h
  | some z =>
    rw [e] at h
    cases h
    obtain ⟨hi, q⟩ := List.getElem?_eq_some_iff.mp e
    exact ⟨hi, by rw [q]⟩
theorem gi_range {f : Nat → Int} {n : Nat} {i : Int} (h0 : 0 ≤ i) (h1 : i < n) : gi ((List.range n).map f) i = f i.toNat := by
  unfold gi
  rw [List.getD_eq_getElem?_getD, List.getElem?_map, List.getElem?_range (by omega)]
  rfl
theorem take_snoc {ns : List Int} {i : Nat} (h : i < ns.length) : ns.take i ++ [ns[i]] = ns.take (i + 1) := (List.take_succ_eq_append_getElem h).symm
theorem take_sum {ns : List Int} {i : Nat} (h : i < ns.length) : (ns.take i).sum + ns[i] = (ns.take (i + 1)).sum := by
  rw [List.take_succ_eq_append_getElem h, List.sum_append]
  simp
/-! ### lists of references -/
def ga (ps : List Addr) (i : Int) : Addr := ps.getD i.toNat 0
theorem atI_ga {ps : List Addr} {i : Int} (h0 : 0 ≤ i) (h1 : i < ps.length) : atI (ps.map V.ref) i = some (.ref (ga ps i)) := by
  obtain ⟨j, rfl⟩ : ∃ j : Nat, i = (j : Int) := ⟨i.toNat, by omega⟩
  have hj : j < ps.length := by omega
  refine atI_nat ?_
  rw [List.getElem?_map]
  unfold ga
  rw [Int.toNat_natCast, List.getD_eq_getElem?_getD, List.getElem?_eq_getElem hj]
  rfl
theorem ga_at {ps : List Addr} {i : Nat} {x : V} (h : (ps.map V.ref)[i]? = some x) : x = .ref (ga ps i) ∧ i < ps.length := by
  rw [List.getElem?_map] at h
  cases e : ps[i]? with
  | none =>
    rw [e] at h
    cases h
  | some z =>
    rw [e] at h
    cases h
    refine ⟨?_, (List.getElem?_eq_some_iff.mp e).1⟩
    unfold ga
    rw [Int.toNat_natCast, List.getD_eq_getElem?_getD, e]
    rfl
/-- pairs of ints -/
abbrev Prs := List (Int × Int)
def zl (sp : Prs) (i : Int) : Int := (sp.getD i.toNat (0, 0)).1
def zh (sp : Prs) (i : Int) : Int := (sp.getD i.toNat (0, 0)).2
/-- at a stands a list of these pairs -/
def PrL (K : PySem.W.Frag) (H : Hp) (a : Addr) (ps : List Addr) (sp : Prs) : Prop :=
  SqL K H a (ps.map V.ref) ∧ ps.length = sp.length ∧ ∀ i : Int, 0 ≤ i → i < sp.length → H (ga ps i) = some (.tup [.int (zl sp i), .int (zh sp i)])
theorem PrL.ex {K : PySem.W.Frag} {H H2 : Hp} {a : Addr} {ps : List Addr} {sp : Prs} (h : PrL K H a ps sp) (e : Ex H H2) : PrL K H2 a ps sp :=
  ⟨ex_l e h.1, h.2.1, fun i h0 h1 => e _ _ (h.2.2 i h0 h1)⟩
theorem PrL.exb {K : PySem.W.Frag} {H H2 : Hp} {a l : Addr} {ps : List Addr} {sp : Prs} (h : PrL K H a ps sp) (e : ExB l H H2) (n : a ≠ l) (nt : ∀ xs, H l ≠ some (.tup xs)) : PrL K H2 a ps sp :=
  ⟨exb_l e n h.1, h.2.1, fun i h0 h1 => e _ _ (fun z => nt _ (by rw [← z]; exact h.2.2 i h0 h1)) (h.2.2 i h0 h1)⟩
/-- one pair more at the list's end -/
theorem ga_snoc {ps : List Addr} {p : Addr} {i : Int} (h0 : 0 ≤ i) (h : i < ps.length) : ga (ps ++ [p]) i = ga ps i := by
  unfold ga
  rw [List.getD_eq_getElem?_getD, List.getD_eq_getElem?_getD, List.getElem?_append_left (by omega)]
theorem ga_last {ps : List Addr} {p : Addr} {i : Int} (h : i = ps.length) : ga (ps ++ [p]) i = p := by
  unfold ga
  rw [h, Int.toNat_natCast, List.getD_eq_getElem?_getD, List.getElem?_append_right (Nat.le_refl _), Nat.sub_self]
  rfl
theorem gd_snoc {sp : Prs} {p : Int × Int} {i : Int} (h0 : 0 ≤ i) (h : i < sp.length) : (sp ++ [p]).getD i.toNat (0, 0) = sp.getD i.toNat (0, 0) := by
  rw [List.getD_eq_getElem?_getD, List.getD_eq_getElem?_getD, List.getElem?_append_left (by omega)]
theorem gd_last {sp : Prs} {p : Int × Int} {i : Int} (h : i = sp.length) : (sp ++ [p]).getD i.toNat (0, 0) = p := by
  rw [h, Int.toNat_natCast, List.getD_eq_getElem?_getD, List.getElem?_append_right (Nat.le_refl _), Nat.sub_self]
  rfl
theorem snoc_at {H2 : Hp} {t : Addr} {ps : List Addr} {sp : Prs} {lo hi : Int} (hl : ps.length = sp.length) (ht : ∀ i : Int, 0 ≤ i → i < sp.length → H2 (ga ps i) = some (.tup [.int (zl sp i), .int (zh sp i)]))
    (hp : H2 t = some (.tup [.int lo, .int hi])) (i : Int) (h0 : 0 ≤ i) (h1 : i < (sp ++ [(lo, hi)]).length) : H2 (ga (ps ++ [t]) i) = some (.tup [.int (zl (sp ++ [(lo, hi)]) i), .int (zh (sp ++ [(lo, hi)]) i)]) := by
  rw [List.length_append] at h1
  change i < ((sp.length + 1 : Nat) : Int) at h1
  by_cases c : i < sp.length
  · rw [ga_snoc h0 (by omega)]
    unfold zl zh
    rw [gd_snoc h0 c]
    exact ht i h0 c
  · rw [ga_last (by omega)]
    unfold zl zh
    rw [gd_last (by omega)]
    exact hp
section
variable {K : PySem.W.Frag} {σ : L2.St} {H : Hp} {D : Ends} {g : TG} {tb : TS} {te : TE} {tt : TT} {Q : VK} {a p : Addr} {xs : List V} {ns : List Int} {m : Nat} {vs : List Nat} {i j : Int} {ps : List Addr} {sp : Prs} {v : V}
theorem r_ixP (h : PrL K H p ps sp) (h0 : 0 ≤ i) (h1 : i < sp.length) (q : H (ga ps i) = some (.tup [.int (zl sp i), .int (zh sp i)]) → Q (.ref (ga ps i)) H) : rIxL K (.ref p) (.int i) H Q :=
  r_ixL h.1 (atI_ga h0 (by rw [h.2.1]; exact h1)) (q (h.2.2 i h0 h1))
theorem r_lenP (h : PrL K H p ps sp) (q : Q (.int sp.length) H) : rLen K [.ref p] H Q := r_len h.1 (by rw [List.length_map, h.2.1]; exact q)
theorem r_listP (h : PrL K H p ps sp) (k : ∀ p2 H2, H p2 = none → Ex H H2 → PrL K H2 p2 ps sp → H2 p2 = some (.lst (ps.map V.ref)) → Q (.ref p2) H2) : rList K [.ref p] H Q :=
  r_list h.1 fun p2 H2 n e h2 => k p2 H2 n e ⟨L2.SqL.of h2, h.2.1, fun i h0 h1 => e _ _ (h.2.2 i h0 h1)⟩ h2
/-- for x in pairs -/
theorem forP (hx : PrL K H a ps sp) (Pv : Nat → L2.St → Hp → Prop) (h0 : Pv 0 σ H) (hl : ∀ i s h, i ≤ sp.length → Pv i s h → SqL K h a (ps.map V.ref))
    (hs : ∀ (i : Nat) s h, i < sp.length → Pv i s h → g (.ref (ga ps i)) s h fun s2 h2 => tb ⟨Pv (i + 1), D.rt, D.nx, Pv (i + 1)⟩ s2 h2) (hd : ∀ s h, Pv sp.length s h → D.nx s h) : ItL K (.ref a) H (ForW g tb D σ) := by
  refine forL hx.1 Pv h0 (fun i s h hi q => hl i s h (by rw [List.length_map, hx.2.1] at hi; exact hi) q) (fun i x s h hi q => ?_) (fun s h q => hd s h (by rw [List.length_map, hx.2.1] at q; exact q))
  obtain ⟨rfl, hj⟩ := ga_at hi
  exact hs i s h (by rw [← hx.2.1]; exact hj) q
/-- a comprehension with any target -/
theorem lcLG (hx : SqL K H a xs) (Pv : Addr → Nat → Hp → Prop) (h0 : ∀ p h, H p = none → Ex H h → h p = some (.lst []) → Pv p 0 h) (hl : ∀ p i h, i ≤ xs.length → Pv p i h → SqL K h a xs)
    (hs : ∀ p (i : Nat) x h, xs[i]? = some x → Pv p i h → g x (wipe σ vs) h fun σ2 h2 => wipe σ2 vs = wipe σ vs ∧ tt σ2 h2 fun b h3 => if b = true then te σ2 h3 (AppW p (Pv p (i + 1))) else Pv p (i + 1) h3)
    (hd : ∀ p h, Pv p xs.length h → Q (.ref p) h) : ItL K (.ref a) H (LcW g tt te vs σ Q) :=
  ⟨a, rfl, ⟨xs, hx⟩, fun p hp => lc_list (K := K) (a := a) (xs := xs) (Pv p) (h0 p _ hp (Ex.new hp) upd_same) (fun i h hi q => hl p i h hi q) (fun i x h hi q => hs p i x h hi q) (hd p)⟩
theorem lcP (hx : PrL K H a ps sp) (Pv : Addr → Nat → Hp → Prop) (h0 : ∀ p h, H p = none → Ex H h → h p = some (.lst []) → Pv p 0 h) (hl : ∀ p i h, i ≤ sp.length → Pv p i h → SqL K h a (ps.map V.ref))
    (hs : ∀ p (i : Nat) h, i < sp.length → Pv p i h → g (.ref (ga ps i)) (wipe σ vs) h fun σ2 h2 => wipe σ2 vs = wipe σ vs ∧ tt σ2 h2 fun b h3 => if b = true then te σ2 h3 (AppW p (Pv p (i + 1))) else Pv p (i + 1) h3)
    (hd : ∀ p h, Pv p sp.length h → Q (.ref p) h) : ItL K (.ref a) H (LcW g tt te vs σ Q) := by
  refine lcLG hx.1 Pv h0 (fun p i h hi q => hl p i h (by rw [List.length_map, hx.2.1] at hi; exact hi) q) (fun p i x h hi q => ?_) (fun p h q => hd p h (by rw [List.length_map, hx.2.1] at q; exact q))
  obtain ⟨rfl, hj⟩ := ga_at hi
  exact hs p i h (by rw [← hx.2.1]; exact hj) q
theorem r_yesC {P : Prop} {h3 : Hp} {K1 : VK} {B : Hp → Prop} (hp : P) (h : te σ h3 K1) : P ∧ tYes σ h3 fun b h3 => if b = true then te σ h3 K1 else B h3 := ⟨hp, yesL h⟩
theorem r_listRg (h : te σ H fun x H1 => NewL [] H1 Q) : te σ H fun x H1 => NewL [] H1 Q := h
end
/-! ### texts compared -/
theorem dS {a b : Str} : decide (V.str a = V.str b) = decide (a = b) := by
  by_cases e : a = b
  · rw [e]
    simp
  · rw [decide_eq_false e, decide_eq_false (fun h => e (V.str.inj h))]
section
variable {H : Hp} {Q : VK} {a b : Str}
theorem r_eqS (h : Q (.bl (decide (a = b))) H) : rEq (.str a) (.str b) H Q := ⟨rfl, by rw [dS]; exact h⟩
theorem r_neS (h : Q (.bl (!decide (a = b))) H) : rNe (.str a) (.str b) H Q := ⟨rfl, by rw [dS]; exact h⟩
end
/-! ### a list of pairs as it grows -/
def PB (h : Hp) (l : Addr) (qs : List Addr) (sp : Prs) : Prop := h l = some (.lst (qs.map V.ref)) ∧ qs.length = sp.length ∧ ∀ i : Int, 0 ≤ i → i < sp.length → h (ga qs i) = some (.tup [.int (zl sp i), .int (zh sp i)])
theorem PB.nil {h : Hp} {l : Addr} (hl : h l = some (.lst [])) : PB h l [] [] := ⟨hl, rfl, fun i a b => absurd b (by show ¬ i < 0; omega)⟩
theorem PB.ex {h h2 : Hp} {l : Addr} {qs : List Addr} {sp : Prs} (b : PB h l qs sp) (e : Ex h h2) : PB h2 l qs sp := ⟨e _ _ b.1, b.2.1, fun i h0 h1 => e _ _ (b.2.2 i h0 h1)⟩
theorem PB.exb {h h2 : Hp} {l p : Addr} {qs : List Addr} {sp : Prs} (b : PB h l qs sp) (e : ExB p h h2) (n : l ≠ p) (nt : ∀ xs, h p ≠ some (.tup xs)) : PB h2 l qs sp :=
  ⟨e _ _ n b.1, b.2.1, fun i h0 h1 => e _ _ (fun z => nt _ (by rw [← z]; exact b.2.2 i h0 h1)) (b.2.2 i h0 h1)⟩
theorem Pur.nt {h : Hp} {p : Addr} (hp : Pur h p) : ∀ xs, h p ≠ some (.tup xs) := fun xs z => by
  obtain ⟨a, b, c, hp⟩ := hp
  rw [hp] at z
  cases z
theorem PB.pr {K : PySem.W.Frag} {h : Hp} {l : Addr} {qs : List Addr} {sp : Prs} (b : PB h l qs sp) : PrL K h l qs sp := ⟨L2.SqL.of b.1, b.2⟩
theorem PB.put {h h1 H5 : Hp} {l t : Addr} {qs : List Addr} {sp : Prs} {lo hi : Int} (b : PB h l qs sp) (e : Ex h h1) (ht : h1 t = some (.tup [.int lo, .int hi])) (e5 : ExB l h1 H5) (h5 : H5 l = some (.lst (qs.map V.ref ++ [.ref t]))) : PB H5 l (qs ++ [t]) (sp ++ [(lo, hi)]) := by
  have hl := e _ _ b.1
  refine ⟨by rw [List.map_append]; exact h5, by rw [List.length_append, List.length_append, b.2.1]; rfl, snoc_at b.2.1 (fun i h0 h1' => ?_) (e5 _ _ (fun y => by rw [y, hl] at ht; cases ht) ht)⟩
  have z := e _ _ (b.2.2 i h0 h1')
  exact e5 _ _ (fun y => by rw [y, hl] at z; cases z) z
theorem PB.app {h h1 : Hp} {l t : Addr} {qs : List Addr} {sp : Prs} {lo hi : Int} {Q : VK} (b : PB h l qs sp) (lt : qs.length < 100000) (e : Ex h h1) (ht : h1 t = some (.tup [.int lo, .int hi]))
    (q : ∀ H5, ExB l h1 H5 → PB H5 l (qs ++ [t]) (sp ++ [(lo, hi)]) → Q .non H5) : rAppend (.ref l) [.ref t] h1 Q :=
  r_app (e _ _ b.1) (by rw [List.length_map]; exact lt) fun H5 e5 h5 _ => q H5 e5 (b.put e ht e5 h5)
theorem PB.appW {h h1 : Hp} {l t : Addr} {qs : List Addr} {sp : Prs} {lo hi : Int} {N : Hp → Prop} (b : PB h l qs sp) (lt : qs.length < 100000) (e : Ex h h1) (ht : h1 t = some (.tup [.int lo, .int hi]))
    (q : ∀ H5, ExB l h1 H5 → PB H5 l (qs ++ [t]) (sp ++ [(lo, hi)]) → N H5) : AppW l N (.ref t) h1 :=
  Lay.appW (e _ _ b.1) (by rw [List.length_map]; exact lt) fun H5 e5 h5 => q H5 e5 (b.put e ht e5 h5)
theorem ga_app {ps qs : List Addr} {i : Int} (h0 : 0 ≤ i) : ga (ps ++ qs) i = if i < ps.length then ga ps i else ga qs (i - ps.length) := by
  unfold ga
  split
  · rw [List.getD_eq_getElem?_getD, List.getD_eq_getElem?_getD, List.getElem?_append_left (by omega)]
  · rw [List.getD_eq_getElem?_getD, List.getD_eq_getElem?_getD, List.getElem?_append_right (by omega)]
    congr 2
    omega
theorem gd_app {ps qs : Prs} {i : Int} (h0 : 0 ≤ i) : (ps ++ qs).getD i.toNat (0, 0) = if i < ps.length then ps.getD i.toNat (0, 0) else qs.getD (i - ps.length).toNat (0, 0) := by
  split
  · rw [List.getD_eq_getElem?_getD, List.getD_eq_getElem?_getD, List.getElem?_append_left (by omega)]
  · rw [List.getD_eq_getElem?_getD, List.getD_eq_getElem?_getD, List.getElem?_append_right (by omega)]
    congr 2
    omega
theorem PB.cat {h : Hp} {l m : Addr} {qs rs : List Addr} {sp tp : Prs} {Q : VK} (b : PB h l qs sp) (c : PB h m rs tp) (lt : qs.length + rs.length ≤ 100000)
    (q : ∀ p2 H2, h p2 = none → Ex h H2 → PB H2 p2 (qs ++ rs) (sp ++ tp) → Q (.ref p2) H2) : rCat (.ref l) (.ref m) h Q :=
  r_cat b.1 c.1 (by rw [List.length_map, List.length_map]; exact lt) fun p2 H2 n e h2 => q p2 H2 n e ⟨by rw [List.map_append]; exact h2, by rw [List.length_append, List.length_append, b.2.1, c.2.1], fun i h0 h1 => by
    rw [List.length_append] at h1
    unfold zl zh
    rw [ga_app h0, gd_app h0, b.2.1]
    by_cases k : i < sp.length
    · rw [if_pos k, if_pos k]
      exact e _ _ (b.2.2 i h0 k)
    · rw [if_neg k, if_neg k]
      exact e _ _ (c.2.2 (i - sp.length) (by omega) (by omega))⟩
/-! ### a list of triples as it grows -/
def T3 (h : Hp) (t : Addr) : Prop := ∃ (a b : Int) (c : V), ((∃ k, c = .bl k) ∨ ∃ z, c = .int z) ∧ h t = some (.tup [.int a, .int b, c])
def TB (h : Hp) (l : Addr) (ts : List Addr) : Prop := h l = some (.lst (ts.map V.ref)) ∧ ∀ t ∈ ts, T3 h t
theorem TB.nil {h : Hp} {l : Addr} (hl : h l = some (.lst [])) : TB h l [] := ⟨hl, fun _ z => (List.not_mem_nil z).elim⟩
theorem T3.ex {h h2 : Hp} {t : Addr} (b : T3 h t) (e : Ex h h2) : T3 h2 t := by
  obtain ⟨a, b, c, k, z⟩ := b
  exact ⟨a, b, c, k, e _ _ z⟩
theorem TB.ex {h h2 : Hp} {l : Addr} {ts : List Addr} (b : TB h l ts) (e : Ex h h2) : TB h2 l ts := ⟨e _ _ b.1, fun t m => (b.2 t m).ex e⟩
theorem TB.put {h h1 H5 : Hp} {l t : Addr} {ts : List Addr} (b : TB h l ts) (e : Ex h h1) (ht : T3 h1 t) (e5 : ExB l h1 H5) (h5 : H5 l = some (.lst (ts.map V.ref ++ [.ref t]))) : TB H5 l (ts ++ [t]) := by
  have hl := e _ _ b.1
  have key : ∀ u, T3 h1 u → T3 H5 u := fun u ⟨a, b, c, k, z⟩ => ⟨a, b, c, k, e5 _ _ (fun y => by rw [y, hl] at z; cases z) z⟩
  refine ⟨by rw [List.map_append]; exact h5, fun u m => ?_⟩
  rcases List.mem_append.mp m with m | m
  · exact key u ((b.2 u m).ex e)
  · rw [List.mem_singleton.mp m]
    exact key t ht
theorem TB.app {h h1 : Hp} {l t : Addr} {ts : List Addr} {Q : VK} (b : TB h l ts) (lt : ts.length < 100000) (e : Ex h h1) (ht : T3 h1 t) (q : ∀ H5, ExB l h1 H5 → TB H5 l (ts ++ [t]) → Q .non H5) : rAppend (.ref l) [.ref t] h1 Q :=
  r_app (e _ _ b.1) (by rw [List.length_map]; exact lt) fun H5 e5 h5 _ => q H5 e5 (b.put e ht e5 h5)
theorem TB.appW {h h1 : Hp} {l t : Addr} {ts : List Addr} {N : Hp → Prop} (b : TB h l ts) (lt : ts.length < 100000) (e : Ex h h1) (ht : T3 h1 t) (q : ∀ H5, ExB l h1 H5 → TB H5 l (ts ++ [t]) → N H5) : AppW l N (.ref t) h1 :=
  Lay.appW (e _ _ b.1) (by rw [List.length_map]; exact lt) fun H5 e5 h5 => q H5 e5 (b.put e ht e5 h5)
theorem dp_t3 {K : PySem.W.Frag} {h : Hp} {t : Addr} (b : T3 h t) : ∃ d, Dp K h (.ref t) d ∧ Fl d := by
  obtain ⟨a, b, c, k | k, z⟩ := b
  · obtain ⟨k, rfl⟩ := k
    exact ⟨_, .tup (L2.SqT.of z) (.cons (.int a) (.cons (.int b) (.cons (.bl k) .nil))), by simp [PyData.canLay0, PyData.canLayAll0], by simp [PyData.depth, PyData.depthAll]⟩
  · obtain ⟨k, rfl⟩ := k
    exact ⟨_, .tup (L2.SqT.of z) (.cons (.int a) (.cons (.int b) (.cons (.int k) .nil))), by simp [PyData.canLay0, PyData.canLayAll0], by simp [PyData.depth, PyData.depthAll]⟩
theorem dp_t3s {K : PySem.W.Frag} {h : Hp} : ∀ {ts : List Addr}, (∀ t ∈ ts, T3 h t) → ∃ ds, DpAll K h (ts.map V.ref) ds ∧ (∀ d ∈ ds, Fl d) ∧ (ds = [] ↔ ts = [])
  | [], _ => ⟨[], .nil, fun _ z => (List.not_mem_nil z).elim, Iff.rfl.trans (by simp)⟩
  | t :: ts, b => by
    obtain ⟨d, h1, h2⟩ := dp_t3 (K := K) (b t List.mem_cons_self)
    obtain ⟨ds, g1, g2, _⟩ := dp_t3s (K := K) fun u m => b u (List.mem_cons_of_mem _ m)
    refine ⟨d :: ds, .cons h1 g1, fun e m => ?_, by simp⟩
    rcases List.mem_cons.mp m with r | m
    · rw [r]; exact h2
    · exact g2 e m
theorem r_neT3 {K : PySem.W.Frag} {h : Hp} {Q : VK} {l q : Addr} {ts : List Addr} (b : TB h l ts) (hq : SqL K h q []) (k : Q (.bl (!decide (ts = []))) h) : rNeD K (.ref l) (.ref q) h Q := by
  obtain ⟨ds, d1, d2, d3⟩ := dp_t3s (K := K) b.2
  refine r_neNil (.lst (L2.SqL.of b.1) d1) d2 hq ?_
  have e : decide (ds = []) = decide (ts = []) := decide_eq_decide.mpr d3
  rw [e]
  exact k
theorem PB.one {h : Hp} {l t : Addr} {lo hi : Int} (hl : h l = some (.lst [.ref t])) (ht : h t = some (.tup [.int lo, .int hi])) : PB h l [t] [(lo, hi)] := by
  refine ⟨hl, rfl, fun i h0 h1 => ?_⟩
  have e : i = 0 := by
    have h1' : i < 1 := h1
    omega
  rw [e]
  exact ht
theorem zl_snoc {sp : Prs} {p : Int × Int} {i : Int} (h0 : 0 ≤ i) (h : i < sp.length) : zl (sp ++ [p]) i = zl sp i := by unfold zl; rw [gd_snoc h0 h]
theorem zh_snoc {sp : Prs} {p : Int × Int} {i : Int} (h0 : 0 ≤ i) (h : i < sp.length) : zh (sp ++ [p]) i = zh sp i := by unfold zh; rw [gd_snoc h0 h]
theorem zl_last {sp : Prs} {p : Int × Int} {i : Int} (h : i = sp.length) : zl (sp ++ [p]) i = p.1 := by unfold zl; rw [gd_last h]
theorem zh_last {sp : Prs} {p : Int × Int} {i : Int} (h : i = sp.length) : zh (sp ++ [p]) i = p.2 := by unfold zh; rw [gd_last h]
theorem zl_take {sp : Prs} {i : Int} {n : Nat} (h0 : 0 ≤ i) (h : i < n) : zl (sp.take n) i = zl sp i := by unfold zl; rw [List.getD_eq_getElem?_getD, List.getD_eq_getElem?_getD, List.getElem?_take_of_lt (by omega)]
theorem zh_take {sp : Prs} {i : Int} {n : Nat} (h0 : 0 ≤ i) (h : i < n) : zh (sp.take n) i = zh sp i := by unfold zh; rw [List.getD_eq_getElem?_getD, List.getD_eq_getElem?_getD, List.getElem?_take_of_lt (by omega)]
theorem ga_take {ps : List Addr} {i : Int} {n : Nat} (h0 : 0 ≤ i) (h : i < n) : ga (ps.take n) i = ga ps i := by unfold ga; rw [List.getD_eq_getElem?_getD, List.getD_eq_getElem?_getD, List.getElem?_take_of_lt (by omega)]
/-- pairs[:e] -/
theorem r_slPE {K : PySem.W.Frag} {H : Hp} {Q : VK} {p : Addr} {ps : List Addr} {sp : Prs} {e : Nat} {y : Int} (hP : PrL K H p ps sp) (hy : y = (e : Int)) (h1 : e ≤ sp.length)
    (q : ∀ p2 H2, H p2 = none → Ex H H2 → PB H2 p2 (ps.take e) (sp.take e) → Q (.ref p2) H2) : rSlL K (.ref p) none (some y) H Q := by
  refine r_slL hP.1 fun p2 H2 n ex h => q p2 H2 n ex ⟨?_, ?_, fun i h0 hi => ?_⟩
  · have c : cutV (ps.map V.ref) none (some y) = (ps.take e).map V.ref := by
      unfold cutV
      rw [hy, List.length_map, HT.sIx_nat, Nat.min_eq_left (by rw [hP.2.1]; exact h1)]
      show ((ps.map V.ref).drop 0).take (e - 0) = _
      rw [List.drop_zero, Nat.sub_zero, List.map_take]
    rw [c] at h
    exact h
  · rw [List.length_take, List.length_take, hP.2.1]
  · rw [List.length_take] at hi
    rw [ga_take h0 (by omega), zl_take h0 (by omega), zh_take h0 (by omega)]
    exact ex _ _ (hP.2.2 i h0 (by omega))
/-- a part is shown apart, with what is known of it -/
theorem r_KP {te : TE} {σ : L2.St} {H : Hp} {Q : VK} (P : Int → Prop) (h1 : ∀ Q' : VK, (∀ i H1, P i → Ex H H1 → Q' (.int i) H1) → te σ H Q') (h2 : ∀ i H1, P i → Ex H H1 → Q (.int i) H1) : te σ H Q := h1 Q h2
/-! ### list(range(..)) -/
def rRg1 (Q : VK) (x : V) (H1 : Hp) : Prop := ∃ n : Int, x = .int n ∧ RgOk 0 n ∧ ∀ q, H1 q = none → Q (.ref q) (upd H1 q (.lst (rgV 0 n)))
theorem r_lRg1 {ta : TE} {σ : L2.St} {H : Hp} {Q : VK} (h : ta σ H fun x H1 => rRg1 Q x H1) : tLstRg (tRg1 ta) σ H Q := h
theorem rg_ints (n : Int) : rgV 0 n = ((List.range n.toNat).map fun i : Nat => (i : Int)).map V.int := by
  unfold rgV
  rw [List.map_map, Int.sub_zero]
  refine List.map_congr_left fun i _ => ?_
  show V.int (0 + (i : Int)) = V.int i
  rw [Int.zero_add]
theorem r_rRg1 {H : Hp} {Q : VK} {n : Int} (h0 : 0 ≤ n) (h1 : n ≤ 1000000) (k : ∀ p H2, H p = none → Ex H H2 → H2 p = some (.lst (((List.range n.toNat).map fun i : Nat => (i : Int)).map V.int)) → Q (.ref p) H2) : rRg1 Q (.int n) H :=
  ⟨n, rfl, RgOk.of_le (by decide) (by omega) (by decide) h0, fun q hq => k q _ hq (Ex.new hq) (by rw [← rg_ints]; exact upd_same)⟩
/-- a statement is shown apart from what follows it -/
theorem r_cut {t : TS} {D : Ends} {σ : L2.St} {H : Hp} (P : L2.St → Hp → Prop) (h1 : ∀ N : L2.St → Hp → Prop, (∀ s h, P s h → N s h) → t ⟨N, D.rt, D.bk, D.ct⟩ σ H) (h2 : ∀ s h, P s h → D.nx s h) : t D σ H := h1 D.nx h2
/-- x = e, x is .non or a list of ints -/
def NonL (F h : Hp) (v : V) (P : Prop) (L : List Int) : Prop := (v = .non ∧ P) ∨ ∃ l, v = .ref l ∧ F l = none ∧ h l = some (.lst (L.map V.int)) ∧ ¬ P
/-! ### a def with defaults, all its parameters written -/
theorem binds_d {K : PySem.W.Frag} {fd : FuncData} {ps : List Str} {T : Addr} {o : Obj} {its : List Value} {n : Nat} (lT : K.lookup T = some o) (oT : o.data = .seq its.toArray n)
    (h : ∀ us : List Value, us.length = ps.length → ∃ k, bindArgs fd ⟨us, []⟩ = seqItems? (.ref T) >>= k ∧ k (some its.toArray) = pure (ps.zip us)) : Binds K fd ps [] := fun s us X hl => by
  rw [List.append_nil] at hl ⊢
  obtain ⟨k, e1, e2⟩ := h us hl
  refine L2.BindsTo.of_looks fun M => ?_
  rw [e1]
  exact L2.looks_items X lT oT (.of_pure e2)
end Lay
/-! lambdas without parameters handed to a def that calls them in a try; isinstance of caught errors with fields -/
namespace Lay
open PySem PySem.Spec PyProof.Rows L2 Evl
/-! ### isinstance of a caught error -/
structure XI (K : PySem.W.Frag) (C : Addr) : Prop where
  cl : (PySem.W.clsIn K C).isSome = true
  ga : PySem.W.findIn K (.ref C) "__getattribute__" = some (some (.builtin "BaseException.__getattribute__"))
  gg : PySem.W.findIn K (.ref C) "__getattr__" = some none
  sub : PySem.W.subIn K (.ref C) (.type "BaseException") = some true
  ha : PySem.W.findIn K (.ref C) "__class__" = some (some (.builtin "object.__class__"))
  hn : PySem.W.specialIn K (.builtin "object.__class__") "__get__" = some (some (.builtin "getset_descriptor.__get__"))
  ht : PySem.W.takesIn K (.builtin "object.__class__") = some true
  hm : PySem.W.mroIn K C (.type "object") = some true
def rIsX (K : PySem.W.Frag) (C a : Addr) (cls : Value) (d : Option Addr) : List V → Hp → VK → Prop := fun xs H Q => ∃ (c : V) (u : Value) (b : Bool) (dd : Addr) (fs : List (Str × V)), xs = [.ref a, c] ∧ cls = .ref C ∧ ClsV c u ∧ d = some dd ∧ H dd = some (.xd fs) ∧ PySem.W.kitOne K (.ref C) u = some b ∧ Q (.bl b) H
def rIsXT (K : PySem.W.Frag) (C a : Addr) (cls : Value) (d : Option Addr) : List V → Hp → VK → Prop := fun xs H Q => ∃ (tp : Addr) (cs : List V) (us : List Value) (b : Bool) (dd : Addr) (fs : List (Str × V)), xs = [.ref a, .ref tp] ∧ cls = .ref C ∧ H tp = some (.tup cs) ∧ Paired ClsV cs us ∧ d = some dd ∧ H dd = some (.xd fs) ∧ PySem.W.kitAny K (.ref C) us = some b ∧ Q (.bl b) H
section
variable {X : Cx} {a C : Addr} {oe : Obj} {cls : Value} {d : Option Addr} {pn : List (Addr × Obj)}
theorem inst_exc {pins : List (Addr × Obj)} {σ : L2.St} {H : Hp} {s : Shared} {fs : List (Str × V)} {dd : Addr} (I : Inv (X.suite a ((a, oe) :: pn)) pins σ H s) (hz : Zc (.ref C) (some dd) oe) (hf : ∃ vs, oe.data = .fields vs) (ea : H dd = some (.xd fs)) :
    ∃ od, PySem.W.InstAt s.heap a oe C (some od) := by
  obtain ⟨ha, _⟩ := I.pin (a, oe) (List.mem_append_left _ List.mem_cons_self)
  obtain ⟨vs, hd⟩ := hf
  have hx : ObjOk X.prog X.w H s.heap dd (.xd fs) := I.hok dd _ ea
  obtain ⟨mA, hns, hr⟩ := hx
  obtain ⟨od, ho, hl⟩ := lookIn_ns hns
  exact ⟨od, ha, hz.1, by unfold PySem.W.notCls; rw [hd] <;> rfl, by rw [hz.2]; exact ho⟩
theorem call_isX (T : XI X.K C) (hz : Zc cls d oe) (hf : ∃ vs, oe.data = .fields vs) : CallR (X.suite a ((a, oe) :: pn)) (.builtin "isinstance") (rIsX X.K C a cls d) := by
  intro pins s σ H xs us Q I r h
  obtain ⟨c, u, b, dd, fs, rfl, rfl, k, rfl, ea, e, q⟩ := h
  obtain ⟨u1, u2, rfl, r1, r2⟩ := vals2 r
  have e2 := k.eq r2
  subst e2
  cases (show u1 = Value.ref a from r1)
  obtain ⟨od, J⟩ := inst_exc I hz hf ea
  exact PySem.W.kia_one (PySem.W.kitx_exc T.cl T.ga T.gg T.sub T.ha T.hn T.ht T.hm) I.kIn J e (fun z => nomatch z) fun tk => ⟨.bl b, H, I.tok tk, rfl, q⟩
theorem call_isXT (T : XI X.K C) (hz : Zc cls d oe) (hf : ∃ vs, oe.data = .fields vs) : CallR (X.suite a ((a, oe) :: pn)) (.builtin "isinstance") (rIsXT X.K C a cls d) := by
  intro pins s σ H xs us Q I r h
  obtain ⟨tp, cs, ws, b, dd, fs, rfl, rfl, hT, k, rfl, ea, e, q⟩ := h
  obtain ⟨u1, u2, rfl, r1, r2⟩ := vals2 r
  cases (show u1 = Value.ref a from r1)
  cases (show u2 = Value.ref tp from r2)
  obtain ⟨_, its, rv, o, h1, h2, n, h3⟩ := (show ObjOk X.prog X.w H s.heap tp (.tup cs) from I.hok tp _ hT)
  have e3 := ClsV.all k rv
  subst e3
  obtain ⟨oc, od, dt, sl⟩ := o
  simp only at h2 h3
  subst h2 h3
  obtain ⟨od, J⟩ := inst_exc I hz hf ea
  exact PySem.W.kia_tup (PySem.W.kitx_exc T.cl T.ga T.gg T.sub T.ha T.hn T.ht T.hm) I.kIn J h1 e (fun z => nomatch z) fun tk => ⟨.bl b, H, I.tok tk, rfl, q⟩
end
/-! ### heaps, but for the tables -/
abbrev ExN := LamX.ExtN
theorem exn_at {H H' : Hp} {a : Addr} {o : HO} (e : LamX.ExtN H H') (n : ∀ ps, o ≠ .tbl ps) (h : H a = some o) : H' a = some o := e a o h n
theorem exn_l {K : PySem.W.Frag} {H H' : Hp} {a : Addr} {xs : List V} (e : LamX.ExtN H H') (h : SqL K H a xs) : SqL K H' a xs := by
  rcases h with (h | ⟨o, h⟩) | h
  · exact .inl (.inl (e _ _ h fun _ z => by cases z))
  · exact .inl (.inr ⟨o, e _ _ h fun _ z => by cases z⟩)
  · exact .inr h
theorem Ex.n {H H' : Hp} (e : Ex H H') : LamX.ExtN H H' := fun b o h _ => e b o h
theorem Pur.exn {H H2 : Hp} {p : Addr} (h : Pur H p) (e : LamX.ExtN H H2) : Pur H2 p := by
  obtain ⟨a, b, c, h⟩ := h
  exact ⟨a, b, c, e _ _ h fun _ z => by cases z⟩
theorem Tabs.exb {T : List (Addr × Str)} {H H2 : Hp} {p : Addr} (t : LamX.Tabs T H) (e : ExB p H H2) (n : (∃ xs, H p = some (.lst xs)) ∨ ∃ C dx fs, H p = some (.ins C dx fs)) : LamX.Tabs T H2 := fun q hq => by
  obtain ⟨ps, h1, h2, h3⟩ := t q hq
  have np : ∀ b o, H b = some o → ((∃ qs, o = .tbl qs) ∨ ∃ f, o = .ext f) → b ≠ p := fun b o hb k z => by
    rw [z] at hb
    rcases n with ⟨xs, n⟩ | ⟨C, dx, fs, n⟩ <;> rw [n] at hb <;> cases hb <;> rcases k with ⟨_, k⟩ | ⟨_, k⟩ <;> cases k
  refine ⟨ps, e _ _ (np _ _ h1 (.inl ⟨_, rfl⟩)) h1, h2, fun pos cv hc => ?_⟩
  obtain ⟨c, e1, e2⟩ := h3 pos cv hc
  exact ⟨c, e1, e _ _ (np _ _ e2 (.inr ⟨_, rfl⟩)) e2⟩
theorem Pur.lst {H : Hp} {p : Addr} (h : Pur H p) : ∃ xs, H p = some (.lst xs) := by
  obtain ⟨a, b, c, h⟩ := h
  exact ⟨_, h⟩
/-- all but the purse and the tables -/
def ExP (p : Addr) (H H' : Hp) : Prop := ∀ b o, b ≠ p → H b = some o → (∀ ps, o ≠ .tbl ps) → H' b = some o
theorem ExP.refl (p : Addr) (H : Hp) : ExP p H H := fun _ _ _ h _ => h
theorem ExP.trans {p : Addr} {H H1 H2 : Hp} (a : ExP p H H1) (b : ExP p H1 H2) : ExP p H H2 := fun c o n h k => b c o n (a c o n h k) k
theorem ExP.ofN {p : Addr} {H H1 : Hp} (a : LamX.ExtN H H1) : ExP p H H1 := fun c o _ h k => a c o h k
theorem ExP.ofB {p : Addr} {H H1 : Hp} (a : ExB p H H1) : ExP p H H1 := fun c o n h _ => a c o n h
theorem ExP.ofE {p : Addr} {H H1 : Hp} (a : Ex H H1) : ExP p H H1 := fun c o _ h _ => a c o h
/-! ### a lambda handed to a def that calls it in a try -/
theorem takes_len {X : Cx} {W : WX} (t : Takes X W) : Takes X (fun cls d σ H => σ.length = X.N.length → W cls d σ H) := fun u s' ⟨a, B, sI, pins, σ, H, cls, d, e, I, nb, up, sky, na, os, ag, w⟩ =>
  t u s' ⟨a, B, sI, pins, σ, H, cls, d, e, I, nb, up, sky, na, os, ag, w I.len⟩
/-- try: a() / except ..: .. / the rest -/
def TTry (K : PySem.W.Frag) (Ng : List Str) (l : List ClA) (tr : TS) : (XK → Hp → VK → Prop) → Hp → VK → Prop := fun tl H Q =>
  ∀ f : Addr, tl (fun cls d H' => ∀ σ' : L2.St, σ'.length = Ng.length → wManyA K (fun _ _ _ _ => False) ⟨tr { nx := fun _ H' => Q .non H', rt := Q }, Q, fun _ _ => False, fun _ _ => False⟩ l cls d σ' H') H
    (fun _ H1 => tr { nx := fun _ H' => Q .non H', rt := Q } (start Ng [.ref f]) H1)
abbrev gX (X : Cx) (Ng : List Str) (x : Str) (sg : Scope) (g : Addr) (cdg : Value) (s : Shared) (H : Hp) : Cx := (cxOf C8.CX0 X.prog X.w X.K X.mg X.base Ng x sg g cdg X.A X.stack s H C8.E0).nox
theorem try_gives {X : Cx} {Ng : List Str} {x a q : Str} {sg : Scope} {h0 : ExceptHandler} {hds : List ExceptHandler} {l : List ClA} {r0 : Stmt} {rest : List Stmt} {tr : TS} {p1 p2 p3 p8 : Pos} (hn : Ng.Nodup) (hs : ∀ f : Addr, (start Ng [V.ref f])[0]? = some (some (V.ref f)))
    (hh : ∀ (g : Addr) (cdg : Value) (s : Shared) (H : Hp), HdsA (gX X Ng x sg g cdg s H) (h0 :: hds) l) (hr : ∀ (g : Addr) (cdg : Value) (s : Shared) (H : Hp), PSs (gX X Ng x sg g cdg s H) (r0 :: rest) tr) (g : Addr) (cdg : Value) :
    LamX.GivesTo X Ng x sg g cdg (.Try [.Expr (.Call (.Name a p1) [] [] p2) p3] (h0 :: hds) [] [] p8 :: r0 :: rest) a q (TTry X.K Ng l tr) := by
  intro f c' s H Q tl act hc h
  refine ⟨_, pss_cons (ps_tryA (X := gX X Ng x sg g cdg s H) (W0 := fun _ _ _ _ => False)
      (tb := fun W D σ H => ∃ Ech : XK, (∀ cls d σ' H', σ'.length = Ng.length → Ech cls d H' → W cls d σ' H') ∧ σ[0]? = some (some (.ref f)) ∧ H c' = some (LamX.CodeO c' q) ∧ tl Ech H (fun _ H1 => D.nx σ H1))
      rfl rfl hn takes0 (fun W pn xe tk _ => ?_) (hh g cdg s H)) (hr g cdg s H), ?_⟩
  · refine ⟨fun pins s' σ H' D I h' => ?_⟩
    obtain ⟨Ech, hW, h1, h2, h3⟩ := h'
    have tk' : Takes ((cxOf C8.CX0 X.prog X.w X.K X.mg X.base Ng x sg g cdg X.A X.stack s H C8.E0).tr pn xe) (fun cls d σ H => σ.length = Ng.length → W cls d σ H) := takes_len tk
    have hp := act _ pn xe Ech p1 p2 tk' (fun cls d σ' H' e l => hW cls d σ' H' l e)
    have hq := pss_one (ps_expr (pos := p3) hp)
    exact hq.run pins s' σ H' D I ⟨h1, h2, h3⟩
  · exact ⟨_, fun cls d σ' H' l e => e σ' l, hs f, hc, h f⟩
/-! ### defs that make lambdas: their code object is known -/
structure AtL (K : PySem.W.Frag) (mg : Str → Option Value) (x : Str) (st : Stmt) (ps : List Str) (c : Addr) : Prop where
  ex : ∃ (f : Addr) (oc : Value) (od : Option Addr) (kV doc pm : Value) (an : Option Addr) (ct : Value) (osl : Array (Option Value)),
    K.lookup f = some ⟨oc, od, .func (PySem.W.fnOf x x (defArgs st) (defBody st) (defScope st) .none kV doc pm an (.ref c) ct), osl⟩ ∧ PySem.W.codeIn K (.ref c) x = true ∧ mg x = some (.ref f) ∧ PySem.W.keepIn K (.ref f) = true ∧
    Binds K (PySem.W.fnOf x x (defArgs st) (defBody st) (defScope st) .none kV doc pm an (.ref c) ct) ps []
section
variable {P : Program} {w : World} {K : PySem.W.Frag} {mg : Str → Option Value} {base : Heap}
theorem Def.mkL {x : Str} {st : Stmt} {N ps : List Str} {k : Nat} {sp : Sp} {c : Addr} (F : AtL K mg x st ps c) (S : FnScope N ps (defScope st)) (len : ∀ vs H Q E, sp vs H Q E → vs.length = ps.length)
    (hbody : ∀ (f : Addr) (A : Around) (outer : List Env) (s : Shared) (H : Hp) (vs : List V) (Q : VK) (E : XK), Room k (A.deeper (envOfC x (defScope st) s.heap.objs.size f (.ref c))) → sp vs H Q E →
      ∃ t, PSs (cxOf (L2.CX P w) P w K mg base N x (defScope st) f (.ref c) A outer s H E) (defBody st) t ∧ t { nx := fun _ H' => Q .non H', rt := Q } (start N vs) H) : Def P w K mg base x (k + 1) ps sp := by
  obtain ⟨f, oc, od, kV, doc, pm, an, ct, osl, lk, hcd, g, kp, b⟩ := F.ex
  exact ⟨f, _, fn_of lk hcd S len fun A outer s H vs Q E hr hsp => hbody f A outer s H vs Q E hr hsp, g, kp, b⟩
theorem atL_mk {x : Str} {st : Stmt} {f c : Addr} {ps : List Str} {oc : Value} {od an : Option Addr} {osl : Array (Option Value)} {kV doc pm ct : Value} {h : Heap} (X : K.In h) (G : h.Ns mainGlobals mg)
    (a : PySem.W.nsIn K mainGlobals x = some (some (.ref f))) (l : K.lookup f = some ⟨oc, od, .func (PySem.W.fnOf x x (defArgs st) (defBody st) (defScope st) .none kV doc pm an (.ref c) ct), osl⟩) (hc : PySem.W.codeIn K (.ref c) x = true) (k : PySem.W.keepIn K (.ref f) = true)
    (hb : ∀ (kV doc pm : Value) (an : Option Addr) (cdv ct : Value) (us : List Value), us.length = ps.length → bindArgs (PySem.W.fnOf x x (defArgs st) (defBody st) (defScope st) .none kV doc pm an cdv ct) ⟨us, []⟩ = pure (ps.zip us)) : AtL K mg x st ps c :=
  ⟨f, oc, od, kV, doc, pm, an, ct, osl, l, hc, PySem.W.mg_of X G a, k, (fun_mk l hc k).binds hb⟩
end
def lamQ (x : Str) : Str := (x ++ ".<locals>.") ++ "<lambda>"
section
variable {X : Cx}
/-- x(lambda: body) -/
theorem pe_lam {T : List (Addr × Str)} {TT : (XK → Hp → VK → Prop) → Hp → VK → Prop} {x a : Str} {st : Stmt} {c P : Addr} {k : Nat} {Ng : List Str} {params : Arguments} {body : Expr} {scope : Scope} {t : XK → TE} {p lpos pos : Pos}
    (F : At X.K X.mg x st [a]) (Sg : FnScope Ng [a] (defScope st)) (hNg : Ng[0]? = some a) (hva : Vis (defScope st) a)
    (hG : ∀ (g : Addr) (cdg : Value), LamX.GivesTo X Ng x (defScope st) g cdg (defBody st) a (X.env.qual ++ "<lambda>") TT)
    (TB : LamX.TabB X.base X.mg c P) (hmT : (P, X.env.qual ++ "<lambda>") ∈ T) (hu : ∀ p ∈ T, p.1 = P → p.2 = X.env.qual ++ "<lambda>") (hr : Room (k + 2) X.A) (L : LamX.LamS X.env.scope scope)
    (hbind : ∀ (q : Str) (cl : List (Str × Addr)) (pm cv ctv : Value), bindArgs (PySem.W.kla_fn "<lambda>" q params body scope cl pm cv ctv) ⟨[], []⟩ = pure [])
    (hbody : ∀ (A : Around) (outer : List Env) (s : Shared) (H : Hp) (E : XK) (f c' : Addr), Room k (A.deeper (LamX.lamEnv X scope s.heap.objs.size f c')) → PE (LamX.lamCx X A outer s H E scope f c') body (t E))
    (hg : Gl X x := by rfl) (hcode : X.env.code = .ref c := by rfl) (hdef : defaultsOf params X.env = ([], []) := by rfl) (hdb : (x == ("__debug__" : Str)) = false := by decide) (hd : (a == ("__debug__" : Str)) = false := by decide) (hcd : (a == ("__classdict__" : Str)) = false := by decide) :
    PE X (.Call (.Name x p) [.Lambda params body scope lpos] [] pos) (LamX.tLam T TT t) := by
  obtain ⟨f, fd, Ff, hm, b⟩ := F.ex
  have kp := Ff.kp
  obtain ⟨oc, od, kV, doc, pm, an, cdv, ct, osl, rfl, lk, hcdv⟩ := Ff.ex
  exact LamX.pe_lamcall hg hm kp lk hcdv b Sg hNg hva (hG f cdv) TB hcode hmT hu hr L hdef hbind hbody hdb hd hcd
end
theorem r_lam {T : List (Addr × Str)} {TT : (XK → Hp → VK → Prop) → Hp → VK → Prop} {t : XK → TE} {σ : L2.St} {H : Hp} {Q : VK} (hT : LamX.Tabs T H) (h : ∀ H1, LamX.ExtN H H1 → LamX.Tabs T H1 → TT (fun E H' Q' => t E σ H' Q') H1 Q) : LamX.tLam T TT t σ H Q := ⟨hT, h⟩
/-- one clause's suite: return (tag, e.f) -/
def retF (tag : Str) (C : Addr) (f : Str) (i : Nat) : Addr → Value → Option Addr → TS := fun a cls d => tRet (tTup (tCons (tC (.str tag)) (tCons (tXf a cls d C f (tVar i)) tNil)))
section
variable {K : PySem.W.Frag} {W0 : WX} {D : Ends} {l : List ClA} {C C' : Addr} {f tag : Str} {i : Nat} {ts : Addr → Value → Option Addr → TS} {σ : L2.St} {H : Hp} {dd : Addr} {v : V}
theorem wm_no (h : PySem.W.exmOne K (.ref C) (.ref C') = some false) (k : wManyA K W0 D l (.ref C) (some dd) σ H) : wManyA K W0 D ((.ref C', i, ts) :: l) (.ref C) (some dd) σ H :=
  ⟨false, h, (fun z => absurd z (by decide)), fun _ => k⟩
theorem wm_yes (h : PySem.W.exmOne K (.ref C) (.ref C) = some true) (hd : H dd = some (.xd [(f, v)])) (hi : i < σ.length) (k : ∀ t H2, Ex H H2 → H2 t = some (.tup [.str tag, v]) → D.rt (.ref t) H2) : wManyA K W0 D ((.ref C, i, retF tag C f i) :: l) (.ref C) (some dd) σ H :=
  ⟨true, h, fun _ a ha => by
    show tXf a (.ref C) (some dd) C f (tVar i) (σ.set i (some (.ref a))) H fun x H1 => tNil (σ.set i (some (.ref a))) H1 fun xs H2 => NewT (.str tag :: x :: xs) H2 D.rt
    refine r_xf (by rw [List.getElem?_set_self hi]) hd ?_
    exact r_newT (len3 rfl) fun t H2 _ e h => k t H2 e h, fun z => absurd z (by decide)⟩
end
/-! ### the end, with tables -/
theorem end_ofTs {l : PySem.W.OpenLaw} {k : Nat} {q : Program} {loose : List Str} {XP : (Str → Option Value) → Heap → Prop} {YP : World → Heap → Prop} {d : DefRec} {K : Params → PySem.W.Frag} {sp : PySem.W.Frag → List (Addr × Addr) → Sp}
    (hn : l.most = some 63) (hdf : d.params.defaults = []) (hr : Room k callerA) (hY : ∀ (w : World) (h : Heap), YP w h → (K w.params).In h)
    (hsp : ∀ (K : PySem.W.Frag) (cs : List (Addr × Addr)) (H : Hp) (a : Addr) (ns : List Int), ns.length ≤ 63 → (∀ p ∈ cs, H p.2 = some (.tbl #[])) → SqL K H a (ns.map V.int) → sp K cs [.ref a] H (fun v _ => v = .bl true) fun _ _ _ => False)
    (F : ∀ (w : World) (mg : Str → Option Value) (fa : Addr) (h : Heap), (K w.params).In h → h.Ns mainGlobals mg → mg d.name = some (.ref fa) →
      ∃ (fd : FuncData) (cs : List (Addr × Addr)), (∀ p ∈ cs, (∃ x, ((recsOf q).find? fun e => e.name == x).isSome = true ∧ PySem.W.tabIn (K w.params) x = some p) ∧ (K w.params).lookup p.2 = none) ∧
        (∀ (s : Shared) (u : Value), BindsTo s fd ⟨[u], []⟩ [("script", u)]) ∧ ∀ base : Heap, (K w.params).In base → base.Ns mainGlobals mg → (∀ p ∈ cs, LamX.TabB base mg p.1 p.2) → FnOk l.prog w (K w.params) mg base (L2.CX l.prog w) k fa fd ["script"] (sp (K w.params) cs)) :
    PySem.W.WalkO q loose XP YP l.row.toRowW d [] (fun f vs => PySem.call f vs) := by
  refine Att.attach_callB hn hdf fun w s₀ s₁ mg mb fa o pm cd doc a vs ns G Y ho hd hcd hmg hobj hints hlen hbits hg => ?_
  have KX := hY w _ Y
  obtain ⟨fd, cs, hcs, hb, hF⟩ := F w mg fa _ KX G.T.g hmg
  have tb : ∀ p ∈ cs, PySem.W.CodeHd s₁.heap p.1 p.2 ∧ s₁.heap.get? p.2 = some (PySem.W.tabObj #[]) := fun p hp => by
    obtain ⟨⟨x, hx, ht⟩, _⟩ := hcs p hp
    obtain ⟨dr, hdr⟩ := Option.isSome_iff_exists.mp hx
    exact PySem.W.tab_of G.T KX hdr ht
  refine LamX.law_callTs (cs := cs) KX G.T.g G.T.b G.T.builtins G.T.nolimit hg (fun p hp => (tb p hp).2) (fun p hp => (hcs p hp).2) (fun p hp => (tb p hp).1) G.T.bmain hobj hints (Nat.le_trans hlen (by decide)) hr hF hb (fun H hH hS => hsp _ cs H a ns hlen hH hS) fun H e s' z => ?_
  obtain ⟨_, _, _, _, _, _, _, _, _, _, _, _, z⟩ := z
  exact z.elim
end Lay
/-! own errors with two fields; making with defaults -/
namespace Lay
open PySem PySem.Spec PyProof.Rows L2 Evl
def tellR : V → Prop
  | .str s => s = ""
  | _ => False
def spExc2 (K : PySem.W.Frag) (C : Addr) (f1 f2 : Str) : Sp := fun vs H Q _ => ∃ (a : Addr) (v1 v2 : V), vs = [.ref a, v1, v2] ∧ tellR v1 ∧ tellV v2 ∧ H a = some (exo a C none) ∧
  ∀ dx, H dx = none → dx ≠ a → Q .non (upd (upd (upd H dx (exd dx [(f1, v1)])) a (exo a C (some dx))) dx (exd dx [(f2, v2), (f1, v1)]))
structure Exn2 (P : Program) (w : World) (K : PySem.W.Frag) (mg : Str → Option Value) (base : Heap) (x f1 f2 : Str) (C : Addr) : Prop where
  o : OexC K C
  g : mg x = some (.ref C)
  init : ∃ (fI : Addr) (fd : FuncData), PySem.W.findIn K (.ref C) "__init__" = some (some (.ref fI)) ∧ PySem.W.typeIn K (.ref fI) = some (.type "function") ∧ FnOk P w K mg base (L2.CX P w) 1 fI fd ["self", f1, f2] (spExc2 K C f1 f2) ∧ Binds K fd ["self", f1, f2] []
  xf : XfC K C
  no : PySem.W.findIn K (.ref C) f1 = some none
  no2 : PySem.W.findIn K (.ref C) f2 = some none
  te : PySem.W.exmOne K (.ref C) (.ref C) = some true
def tRaiseE2 (C : Addr) (f1 f2 : Str) (W : WX) (te1 te2 : TE) : TS := fun _ σ H => te1 σ H fun v1 H1 => te2 σ H1 fun v2 H2 => tellR v1 ∧ tellV v2 ∧ ∀ d H3, Ex H2 H3 → H3 d = some (.xd [(f2, v2), (f1, v1)]) → W (.ref C) (some d) σ H3
section
variable {X : Cx} {x f1 f2 : Str} {C : Addr} {W : WX} {e1 e2 : Expr} {te1 te2 : TE} {p pos pos2 : Pos}
theorem ps_raiseE2 (T : Exn2 X.prog X.w X.K X.mg X.base x f1 f2 C) (hc : X.calm = true) (hr : Room 2 X.A) (tk : Takes X W) (he1 : PE X e1 te1) (he2 : PE X e2 te2) (hg : Gl X x := by rfl) (hdb : (x == ("__debug__" : Str)) = false := by decide)
    (hs2 : starEach (e2 :: []) X.env = (false, eval e2 X.env) :: starEach [] X.env := by rfl) (hs : starEach (e1 :: e2 :: []) X.env = (false, eval e1 X.env) :: starEach [e2] X.env := by rfl) (hpl : (backTo pos (starEach [e2] X.env)).any (·.1) = false := by rfl) :
    PS X (.Raise (some (.Call (.Name x p) [e1, e2] [] pos)) none pos2) (tRaiseE2 C f1 f2 W te1 te2) := by
  obtain ⟨fI, fd, iC, tI, F, b⟩ := T.init
  have hx : Passes (L2.CX X.prog X.w) X (fun _ _ _ => False) := passL
  have m := pmk_oex (pos := pos) (p := p) T.o iC tI F (hr.mono (Nat.le_refl _)) b .nil hx hg T.g (pa_cons (pe_cl he1) (pa_cons (pe_cl he2) pa_nil hs2) hs) hdb hs hpl
  have r := ps_raise (pos := pos2) hc tk m
  refine ⟨fun pins s σ H D I h => r.run pins s σ H D I ?_⟩
  show ∃ P1 : VK, te1 σ H P1 ∧ _
  have key : ∀ v1 v2 H1, (tellR v1 ∧ tellV v2 ∧ ∀ d H2, Ex H1 H2 → H2 d = some (.xd [(f2, v2), (f1, v1)]) → W (.ref C) (some d) σ H2) →
      ([v1, v2] : List V).length ≤ 1000 ∧ ∀ a, H1 a = none → spExc2 X.K C f1 f2 (.ref a :: ([v1, v2] ++ [])) (upd H1 a (exo a C none))
        (fun u H2 => u = .non ∧ ∃ (d : Addr) (fs : List (Str × V)), H2 a = some (exo a C (some d)) ∧ H2 d = some (exd d fs) ∧ H1 d = none ∧ W (.ref C) (some d) σ (upd (del H2 a) d (.xd fs))) (fun _ _ _ => False) := by
    intro v1 v2 H1 q
    refine ⟨by show 2 ≤ 1000; decide, fun a ha => ⟨a, v1, v2, rfl, q.1, q.2.1, upd_same, fun dx hdx hne => ⟨rfl, dx, [(f2, v2), (f1, v1)], ?_, upd_same, ?_, ?_⟩⟩⟩
    · rw [upd_ne hne.symm, upd_same]
    · rw [upd_ne hne] at hdx
      exact hdx
    · have hd1 : H1 dx = none := by
        rw [upd_ne hne] at hdx
        exact hdx
      refine q.2.2 dx _ (fun b o hb => ?_) upd_same
      have n1 : b ≠ dx := ne_of_none hb hd1
      have n2 : b ≠ a := ne_of_none hb ha
      rw [upd_ne n1, del_ne n2, upd_ne n1, upd_ne n2, upd_ne n1, upd_ne n2]
      exact hb
  exact ⟨_, h, fun v1 H1 q1 => ⟨_, q1, fun v2 H2 q2 => key v1 v2 H2 q2⟩⟩
end
section
variable {K : PySem.W.Frag} {σ : L2.St} {H : Hp} {D : Ends} {a C : Addr} {f1 f2 : Str} {v1 v2 : V}
theorem r_raise2 {W : WX} {te1 te2 : TE} (h : te1 σ H fun v1 H1 => te2 σ H1 fun v2 H2 => tellR v1 ∧ tellV v2 ∧ ∀ d H3, Ex H2 H3 → H3 d = some (.xd [(f2, v2), (f1, v1)]) → W (.ref C) (some d) σ H3) : tRaiseE2 C f1 f2 W te1 te2 D σ H := h
theorem exc_body2 {parts : List TE} (js : ∀ R : Str → Hp → Prop, (∀ s, R s H) → tJs parts Str.empty σ H R) (e0 : σ[0]? = some (some (.ref a))) (e1 : σ[1]? = some (some v1)) (e2 : σ[2]? = some (some v2)) (o : OexC K C) (no : PySem.W.findIn K (.ref C) f1 = some none) (no2 : PySem.W.findIn K (.ref C) f2 = some none)
    (ha : H a = some (exo a C none)) (q : ∀ dx, H dx = none → dx ≠ a → D.nx σ (upd (upd (upd H dx (exd dx [(f1, v1)])) a (exo a C (some dx))) dx (exd dx [(f2, v2), (f1, v1)]))) :
    tSeq (tDrop (tVeI K (tCons (tVar 0) (tCons (fun σ H Q => tJs parts Str.empty σ H fun out H1 => Q (.str out) H1) tNil)))) (tSeq (tOst K f1 (tVar 0) (tVar 1)) (tOst K f2 (tVar 0) (tVar 2))) D σ H := by
  refine ⟨_, e0, ?_⟩
  refine js _ fun s => ?_
  refine ⟨a, C, [.str s], rfl, by show 1 ≤ 1000; decide, o, ha, _, e1, _, e0, a, C, rfl, o, no, .inl ⟨ha, fun dx hdx hne => ?_⟩⟩
  refine ⟨_, e2, _, e0, a, C, rfl, o, no2, .inr ⟨dx, [(f1, v1)], upd_same, ?_, by show 1 ≤ 900; decide, q dx hdx hne⟩⟩
  rw [upd_ne hne, upd_same]
theorem js_r {n k : Nat} {ts : List TE} {acc : Str} {R : Str → Hp → Prop} (e1 : σ[n]? = some (some v1)) (tr : tellR v1) (ha : acc.length ≤ k) (hk : k ≤ 50000) (h : ∀ acc' : Str, acc'.length ≤ k + 2 → tJs ts acc' σ H R) : tJs (tFmtR (tVar n) :: ts) acc σ H R := by
  cases v1 with
  | str s =>
    obtain rfl : s = "" := tr
    have rl : (reprText "").length = 2 := by decide +kernel
    refine ⟨_, e1, .inl ⟨"", rfl, by rw [rl]; exact sz_of (by decide), _, rfl, sz_of (by rw [app_len, rl]; omega), h _ (by rw [app_len, rl]; omega)⟩⟩
  | non => exact tr.elim
  | bl b => exact tr.elim
  | int i => exact tr.elim
  | byt b => exact tr.elim
  | flt b => exact tr.elim
  | ref b => exact tr.elim
  | ty b => exact tr.elim
end
/-- one clause's suite: return (tag, e.f1, e.f2) -/
def retF2 (tag : Str) (C : Addr) (f1 f2 : Str) (i : Nat) : Addr → Value → Option Addr → TS := fun a cls d => tRet (tTup (tCons (tC (.str tag)) (tCons (tXf a cls d C f1 (tVar i)) (tCons (tXf a cls d C f2 (tVar i)) tNil))))
section
variable {K : PySem.W.Frag} {W0 : WX} {D : Ends} {l : List ClA} {C : Addr} {f1 f2 tag : Str} {i : Nat} {σ : L2.St} {H : Hp} {dd : Addr} {v1 v2 : V}
theorem wm_yes2 (h : PySem.W.exmOne K (.ref C) (.ref C) = some true) (hd : H dd = some (.xd [(f2, v2), (f1, v1)])) (hf : (f1 == f2) = false) (hi : i < σ.length) (k : ∀ t H2, Ex H H2 → H2 t = some (.tup [.str tag, v1, v2]) → D.rt (.ref t) H2) :
    wManyA K W0 D ((.ref C, i, retF2 tag C f1 f2 i) :: l) (.ref C) (some dd) σ H :=
  ⟨true, h, fun _ a ha => by
    have e : (σ.set i (some (V.ref a)))[i]? = some (some (.ref a)) := by rw [List.getElem?_set_self hi]
    refine ⟨_, e, rfl, rfl, dd, _, v1, rfl, hd, by simp [List.lookup, hf], _, e, rfl, rfl, dd, _, v2, rfl, hd, by simp [List.lookup], ?_⟩
    exact r_newT (len3 rfl) fun t H2 _ e h => k t H2 e h, fun z => absurd z (by decide)⟩
end
/-! ### C(..), the rest of the parameters by their defaults -/
structure DID (P : Program) (w : World) (K : PySem.W.Frag) (mg : Str → Option Value) (base : Heap) (x : Str) (C : Addr) (k : Nat) (ps : List Str) (dvs : List V) (sp : Sp) : Prop where
  ex : ∃ (f : Addr) (fd : FuncData) (ds : List Value), FnOk P w K mg base (L2.CX P w) k f fd ps sp ∧ Mk K C f ∧ mg x = some (.ref C) ∧ Vals dvs ds ∧ Binds K fd ps ds
structure AtID (K : PySem.W.Frag) (mg : Str → Option Value) (x : Str) (C : Addr) (qual : Str) (st : Stmt) (ps : List Str) (dvs : List V) : Prop where
  ex : ∃ (f : Addr) (fd : FuncData) (ds : List Value), FunD K "__init__" qual st f fd ∧ Mk K C f ∧ mg x = some (.ref C) ∧ Vals dvs ds ∧ Binds K fd ps ds
theorem DI.dflt {P : Program} {w : World} {K : PySem.W.Frag} {mg : Str → Option Value} {base : Heap} {x : Str} {C : Addr} {qual : Str} {st : Stmt} {N ps : List Str} {dvs : List V} {k : Nat} {sp : Sp} (F : AtID K mg x C qual st ps dvs) (S : FnScope N ps (defScope st)) (len : ∀ vs H Q E, sp vs H Q E → vs.length = ps.length)
    (hbody : ∀ (f : Addr) (cdv : Value) (A : Around) (outer : List Env) (s : Shared) (H : Hp) (vs : List V) (Q : VK) (E : XK), Room k (A.deeper (envOfC qual (defScope st) s.heap.objs.size f cdv)) → sp vs H Q E →
      ∃ t, PSs (cxOf (L2.CX P w) P w K mg base N qual (defScope st) f cdv A outer s H E) (defBody st) t ∧ t { nx := fun _ H' => Q .non H', rt := Q } (start N vs) H) : DID P w K mg base x C (k + 1) ps dvs sp := by
  obtain ⟨f, fd, ds, Ff, g, m, v, b⟩ := F.ex
  exact ⟨f, fd, ds, Ff.okX S len (hbody f), g, m, v, b⟩
section
variable {X : Cx} {k : Nat} {ps : List Str} {dvs : List V} {sp : Sp} {E : XK} {x : Str} {C : Addr} {p pos : Pos} {e : Expr} {es : List Expr} {t : TA}
theorem pe_mkDD (d : DID X.prog X.w X.K X.mg X.base x C k ps dvs sp) (hr : Room (k + 1) X.A) (hx : Passes (L2.CX X.prog X.w) X E) (ha : PA X (e :: es) t) (hg : Gl X x := by rfl)
    (hdb : (x == ("__debug__" : Str)) = false := by decide) (he : starEach (e :: es) X.env = (false, eval e X.env) :: starEach es X.env := by rfl) (hpl : (backTo pos (starEach es X.env)).any (·.1) = false := by rfl) :
    PE X (.Call (.Name x p) (e :: es) [] pos) (tMake C sp dvs E t) := by
  obtain ⟨f, fd, ds, F, hm, g, v, b⟩ := d.ex
  exact pe_make hm F hr hg g b v hx ha hdb he hpl
end
def rMkD (C : Addr) (sp : Sp) (dvs : List V) (E : XK) (Q : VK) (vs : List V) (H : Hp) : Prop := ∀ x dx, H x = none → H dx = none → dx ≠ x → sp (.ref x :: (vs ++ dvs)) (upd (upd H dx (.own x)) x (.ins C dx [])) (fun v H2 => v = .non ∧ Q (.ref x) H2) E
theorem r_makeD {C : Addr} {sp : Sp} {dvs : List V} {E : XK} {t : TA} {σ : L2.St} {H : Hp} {Q : VK} (h : t σ H fun vs H1 => rMkD C sp dvs E Q vs H1) : tMake C sp dvs E t σ H Q := h
theorem r_rmkD {C : Addr} {sp : Sp} {dvs : List V} {E : XK} {H : Hp} {Q : VK} {vs : List V} (h : ∀ x dx H2, H x = none → H dx = none → dx ≠ x → Ex H H2 → H2 x = some (.ins C dx []) → sp (.ref x :: (vs ++ dvs)) H2 (fun v H3 => v = .non ∧ Q (.ref x) H3) E) : rMkD C sp dvs E Q vs H := fun x dx nx nd ne => by
  have e : Ex H (upd (upd H dx (.own x)) x (.ins C dx [])) := fun b o hb => by
    rw [upd_ne (ne_of_none hb nx), upd_ne (ne_of_none hb nd)]
    exact hb
  exact h x dx _ nx nd ne e upd_same
/-- a def's last parameters by their defaults -/
theorem binds_dd {K : PySem.W.Frag} {fd : FuncData} {ps : List Str} {T : Addr} {o : Obj} {its : List Value} {n m : Nat} (lT : K.lookup T = some o) (oT : o.data = .seq its.toArray n) (hm : m + its.length = ps.length)
    (h : ∀ us : List Value, us.length = m → ∃ k, bindArgs fd ⟨us, []⟩ = seqItems? (.ref T) >>= k ∧ k (some its.toArray) = pure (ps.zip (us ++ its))) : Binds K fd ps its := fun s us X hl => by
  obtain ⟨k, e1, e2⟩ := h us (by rw [List.length_append] at hl; omega)
  refine L2.BindsTo.of_looks fun M => ?_
  rw [e1]
  exact L2.looks_items X lT oT (.of_pure e2)
/-! ### lists of data as they grow: what stands without the list itself -/
theorem ex_del {h h2 : Hp} {f : Addr} (e : Ex h h2) : Ex (del h f) (del h2 f) := fun b o hb => by
  by_cases n : b = f
  · rw [n] at hb
    unfold del at hb
    rw [if_pos rfl] at hb
    cases hb
  · rw [del_ne n] at hb ⊢
    exact e _ _ hb
theorem exb_del {p f : Addr} {h h2 : Hp} (e : ExB p h h2) : ExB p (del h f) (del h2 f) := fun b o np hb => by
  by_cases n : b = f
  · rw [n] at hb
    unfold del at hb
    rw [if_pos rfl] at hb
    cases hb
  · rw [del_ne n] at hb ⊢
    exact e _ _ np hb
theorem del_ex {h : Hp} {f : Addr} : Ex (del h f) h := fun b o hb => by
  by_cases n : b = f
  · rw [n] at hb
    unfold del at hb
    rw [if_pos rfl] at hb
    cases hb
  · rw [del_ne n] at hb
    exact hb
theorem exB_del {h h2 : Hp} {f : Addr} (e : ExB f h h2) : Ex (del h f) (del h2 f) := fun b o hb => by
  by_cases n : b = f
  · rw [n] at hb
    unfold del at hb
    rw [if_pos rfl] at hb
    cases hb
  · rw [del_ne n] at hb ⊢
    exact e _ _ n hb
/-- what stood before f -/
theorem ex_to_del {h0 h : Hp} {f : Addr} (e : Ex h0 h) (n : h0 f = none) : Ex h0 (del h f) := fun b o hb => by
  rw [del_ne (ne_of_none hb n)]
  exact e _ _ hb
def LB (K : PySem.W.Frag) (h : Hp) (f : Addr) (xs : List V) (ds : List PyData) : Prop := h f = some (.lst xs) ∧ DpAll K (del h f) xs ds
theorem LB.nil {K : PySem.W.Frag} {h : Hp} {f : Addr} (hf : h f = some (.lst [])) : LB K h f [] [] := ⟨hf, .nil⟩
theorem LB.ex {K : PySem.W.Frag} {h h2 : Hp} {f : Addr} {xs : List V} {ds : List PyData} (b : LB K h f xs ds) (e : Ex h h2) : LB K h2 f xs ds := ⟨e _ _ b.1, Dp.exAll (ex_del e) _ _ b.2⟩
theorem LB.dp {K : PySem.W.Frag} {h : Hp} {f : Addr} {xs : List V} {ds : List PyData} (b : LB K h f xs ds) : Dp K h (.ref f) (.list ds) := .lst (L2.SqL.of b.1) (Dp.exAll del_ex _ _ b.2)
theorem LB.len {K : PySem.W.Frag} {h : Hp} {f : Addr} {xs : List V} {ds : List PyData} (b : LB K h f xs ds) : xs.length = ds.length := Lay.DpAll.len b.2
theorem LB.put {K : PySem.W.Frag} {h H5 : Hp} {f : Addr} {xs : List V} {ds : List PyData} {v : V} {d : PyData} (b : LB K h f xs ds) (hv : Dp K (del h f) v d) (e5 : ExB f h H5) (h5 : H5 f = some (.lst (xs ++ [v]))) : LB K H5 f (xs ++ [v]) (ds ++ [d]) :=
  ⟨h5, DpAll.snoc (Dp.ex (exB_del e5) _ _ hv) (Dp.exAll (exB_del e5) _ _ b.2)⟩
theorem LB.app {K : PySem.W.Frag} {h : Hp} {f : Addr} {xs : List V} {ds : List PyData} {v : V} {d : PyData} {Q : VK} (b : LB K h f xs ds) (lt : xs.length < 100000) (hv : Dp K (del h f) v d) (q : ∀ H5, ExB f h H5 → LB K H5 f (xs ++ [v]) (ds ++ [d]) → Q .non H5) : rAppend (.ref f) [v] h Q :=
  r_app b.1 lt fun H5 e5 h5 _ => q H5 e5 (b.put hv e5 h5)
theorem LB.appW {K : PySem.W.Frag} {h : Hp} {f : Addr} {xs : List V} {ds : List PyData} {v : V} {d : PyData} {N : Hp → Prop} (b : LB K h f xs ds) (lt : xs.length < 100000) (hv : Dp K (del h f) v d) (q : ∀ H5, ExB f h H5 → LB K H5 f (xs ++ [v]) (ds ++ [d]) → N H5) : AppW f N v h :=
  Lay.appW b.1 lt fun H5 e5 h5 => q H5 e5 (b.put hv e5 h5)
/-! ### data read -/
section
variable {K : PySem.W.Frag} {H : Hp} {Q : VK} {l : Addr} {ds : List PyData} {i : Int} {v : V} {d : PyData}
theorem dpa_at {K : PySem.W.Frag} {H : Hp} : ∀ {xs : List V} {ds : List PyData}, DpAll K H xs ds → ∀ {i : Nat} {d : PyData}, ds[i]? = some d → ∃ x, xs[i]? = some x ∧ Dp K H x d
  | _, _, .nil, i, x, h => by cases h
  | _, _, .cons a r, 0, x, h => by cases h; exact ⟨_, rfl, a⟩
  | _, _, .cons a r, i + 1, x, h => dpa_at r (i := i) h
theorem r_ixDp (h : Dp K H (.ref l) (.list ds)) (h0 : 0 ≤ i) (hd : ds[i.toNat]? = some d) (q : ∀ v, Dp K H v d → Q v H) : rIxL K (.ref l) (.int i) H Q := by
  cases h with
  | lst hs ha =>
    obtain ⟨x, hx, hv⟩ := dpa_at ha hd
    exact r_ixL hs (atI_V (j := i.toNat) (by omega) hx) (q x hv)
theorem r_ixDt (h : Dp K H (.ref l) (.tuple ds)) (h0 : 0 ≤ i) (hd : ds[i.toNat]? = some d) (q : ∀ v, Dp K H v d → Q v H) : rIxT K (.ref l) (.int i) H Q := by
  cases h with
  | tup hs ha =>
    obtain ⟨x, hx, hv⟩ := dpa_at ha hd
    exact r_ixT hs (atI_V (j := i.toNat) (by omega) hx) (q x hv)
theorem dp_l (h : Dp K H v (.list ds)) : ∃ a, v = .ref a := by cases h; exact ⟨_, rfl⟩
theorem dp_t (h : Dp K H v (.tuple ds)) : ∃ a, v = .ref a := by cases h; exact ⟨_, rfl⟩
theorem dp_b {b : Bool} (h : Dp K H v (.bool b)) : v = .bl b := by cases h; rfl
theorem dp_i {n : Int} (h : Dp K H v (.int n)) : v = .int n := by cases h; rfl
end
theorem DpAll.append {K : PySem.W.Frag} {H : Hp} {ys : List V} {es : List PyData} (h : DpAll K H ys es) : ∀ {xs : List V} {ds : List PyData}, DpAll K H xs ds → DpAll K H (xs ++ ys) (ds ++ es)
  | _, _, .nil => h
  | _, _, .cons a r => .cons a (DpAll.append h r)
section
variable {K : PySem.W.Frag} {σ : L2.St} {H : Hp} {te : TE} {tt : TT} {Q : VK} {m : Nat} {vs : List Nat} {i j : Int} {P : Prop} [Decidable P]
theorem r_iteCN (h : Q (.int (if P then j else i)) H) : if (!decide P) = true then tC (.int i) σ H Q else tC (.int j) σ H Q := by
  by_cases c : P
  · rw [decide_eq_true c]
    rw [if_pos c] at h
    exact iteF h
  · rw [decide_eq_false c]
    rw [if_neg c] at h
    exact iteT h
/-- a comprehension over a range, with a filter -/
theorem lcR1G (h1 : -1000000000 ≤ j) (h2 : j ≤ 1000000000) (Pv : Addr → Nat → Hp → Prop) (h0 : ∀ p h, H p = none → Ex H h → h p = some (.lst []) → Pv p 0 h)
    (hs : ∀ p (i : Nat) h, (i : Int) < j → Pv p i h → tt ((wipe σ vs).set m (some (.int i))) h fun b h3 => if b = true then te ((wipe σ vs).set m (some (.int i))) h3 (AppW p (Pv p (i + 1))) else Pv p (i + 1) h3) (hd : ∀ p h, Pv p j.toNat h → Q (.ref p) h)
    (hw : ∀ x, wipe ((wipe σ vs).set m (some x)) vs = wipe σ vs) : ItR1 [.int j] H (LcW (gName m) tt te vs σ Q) := by
  refine ⟨j, rfl, by omega, by omega, fun p hp => lc_range (lo := 0) (n := j.toNat) (Pv p) (h0 p _ hp (Ex.new hp) upd_same) (fun i h hi q => ?_) (hd p)⟩
  have e : (0 : Int) + (i : Int) = (i : Int) := Int.zero_add _
  rw [e]
  exact ⟨hw _, hs p i h (by omega) q⟩
end
/-- where a def's table of code objects stands -/
theorem tab_mk {K : PySem.W.Frag} {x q : Str} {f c P : Addr} {o1 o2 : Value} {e1 e2 : Option Addr} {dA : Arguments} {dB : List Stmt} {dS : Scope} {d k m t dc : Value} {n : Option Addr} {s1 s2 : Array (Option Value)} {vs : Array Value}
    (a : PySem.W.nsIn K mainGlobals x = some (some (.ref f))) (l : K.lookup f = some ⟨o1, e1, .func (PySem.W.fnOf x q dA dB dS d k dc m n (.ref c) t), s1⟩)
    (lc : K.lookup c = some ⟨o2, e2, .fields vs, s2⟩) (hv : vs[11]? = some (.ref P)) : PySem.W.tabIn K x = some (c, P) := by
  unfold PySem.W.tabIn
  rw [a]
  simp only []
  rw [show List.lookup f K = _ from l]
  show (match List.lookup c K with | some ⟨_, _, .fields vs, _⟩ => _ | x => none) = _
  rw [show List.lookup c K = _ from lc]
  simp only []
  rw [hv]
end Lay
local macro_rules | `(tactic| walk_at "hp") => `(tactic| first
  | assumption
  | (refine' Lay.ex_at (by assumption) ?a1; (case a1 => walk_at "hp"))
  | (refine' Lay.exb_at (by assumption) ?a1 ?a2; (case a1 => walk_at "ne"); (case a2 => walk_at "hp")))
local macro_rules | `(tactic| walk_at "hpe") => `(tactic| first
  | assumption
  | (refine' Lay.ex_at (by assumption) ?a1; (case a1 => walk_at "hpe")))
local macro_rules | `(tactic| walk_at "ne") => `(tactic| first
  | assumption
  | exact Ne.symm (by assumption)
  | (refine' L2.ne_of_none (H := ?hh) (o := ?oo) ?a1 ?a2; (case a2 => assumption); (case a1 => walk_at "hp"))
  | (refine' Ne.symm (L2.ne_of_none (H := ?hh) (o := ?oo) ?a1 ?a2); (case a2 => assumption); (case a1 => walk_at "hp"))
  | (refine' Lay.ne_pur (H := ?hh) ?a1 ?a2; (case a2 => assumption); (case a1 => walk_at "pu"))
  | (refine' Ne.symm (Lay.ne_pur (H := ?hh) ?a1 ?a2); (case a2 => assumption); (case a1 => walk_at "pu"))
  | (refine' L2.ne_of (H := ?hh) (o := ?oo) (u := ?uu) ?a1 ?a2 ?a3; (case a1 => assumption); (case a2 => assumption); (case a3 => (intro z; cases z))))
local macro_rules | `(tactic| walk_at "sq") => `(tactic| first
  | assumption
  | (refine' L2.SqL.of ?a1; (case a1 => walk_at "hp"))
  | (refine' Evl.ex_l (by assumption) ?a1; (case a1 => walk_at "sq"))
  | (refine' Lay.exb_l (by assumption) ?a1 ?a2; (case a1 => walk_at "ne"); (case a2 => walk_at "sq"))
  | (refine' Lay.exb_lI (by assumption) ?a1 ?a2; (case a1 => walk_at "hp"); (case a2 => walk_at "sq")))
local macro_rules | `(tactic| walk_at "ex") => `(tactic| first
  | assumption
  | exact Evl.Ex.refl _
  | exact Lay.ExB.refl _ _
  | exact Lay.Ex.b (by assumption)
  | (refine' Evl.Ex.trans ?a1 ?a2; (case a2 => assumption); (case a1 => walk_at "ex"))
  | (refine' Lay.ExB.ex ?a1 ?a2 ?a3; (case a2 => assumption); (case a1 => walk_at "ex"); (case a3 => walk_at "fr"))
  | (refine' Lay.ExB.trans ?a1 ?a2; (case a2 => assumption); (case a1 => walk_at "ex"))
  | (refine' Lay.ExB.trans ?a1 (Lay.Ex.b ?a2); (case a2 => assumption); (case a1 => walk_at "ex"))
  | (refine' Lay.ExB.exB ?a1 ?a2 ?a3; (case a2 => assumption); (case a1 => walk_at "ex"); (case a3 => walk_at "fr")))
local macro_rules | `(tactic| walk_at "fr") => `(tactic| first
  | assumption
  | (refine' Evl.fresh_back ?a1 ?a2; (case a2 => assumption); (case a1 => walk_at "ex"))
  | (refine' Lay.freshB ?a1 ?a2 ?a3; (case a3 => assumption); (case a1 => walk_at "ex"); (case a2 => walk_at "ne")))
local macro_rules | `(tactic| walk_at "pu") => `(tactic| first
  | assumption
  | (refine' Lay.Pur.ex ?a1 ?a2; (case a2 => assumption); (case a1 => walk_at "pu"))
  | (refine' Lay.Pur.upd ?a1 ?a2 ?a3; (case a2 => assumption); (case a1 => walk_at "pu"); (case a3 => walk_at "ne")))
local macro_rules | `(tactic| walk_at "ln") => `(tactic| first
  | omega
  | (simp only [List.length_append, List.length_map, List.length_cons, List.length_nil, List.length_replicate, List.length_set, List.length_reverse, List.length_take, List.length_drop]; omega))
local macro_rules | `(tactic| walk_at "st") => `(tactic| first
  | assumption
  | (refine' L2.SqT.of ?a1; (case a1 => walk_at "hp"))
  | (refine' Lay.ext ?a1 ?a2; (case a1 => assumption); (case a2 => walk_at "st"))
  | (refine' Lay.exb_t ?a1 ?a2 ?a3; (case a1 => assumption); (case a2 => walk_at "ne"); (case a3 => walk_at "st")))
local macro_rules | `(tactic| walk_at "go1") => `(tactic| first
  | with_reducible refine' Lay.r_seq ?_
  | with_reducible refine' Lay.r_set ?_
  | with_reducible refine' Lay.r_sub ?_
  | ((with_reducible refine' Lay.r_aug (x := ?vv) ?ee ?_); (case ee => exact rfl))
  | with_reducible refine' Lay.r_ipI ?_
  | with_reducible refine' Lay.r_drop ?_
  | with_reducible refine' Lay.r_ret ?_
  | with_reducible refine' Lay.r_retN ?_
  | with_reducible refine' Lay.r_if ?_
  | with_reducible refine' Lay.r_next ?_
  | with_reducible refine' Lay.r_brk ?_
  | with_reducible refine' Lay.r_cont ?_
  | ((with_reducible refine' Lay.r_var (v := ?vv) ?ee ?_); (case ee => exact rfl))
  | with_reducible refine' Lay.r_c ?_
  | with_reducible refine' Lay.r_op ?_
  | with_reducible refine' Lay.r_un ?_
  | with_reducible refine' Lay.r_I0 ?_
  | with_reducible refine' Lay.r_U ?_
  | with_reducible refine' Lay.r_eqI ?_
  | with_reducible refine' Lay.r_neI ?_
  | with_reducible refine' Lay.r_eqB ?_
  | with_reducible refine' Lay.r_neB ?_
  | with_reducible refine' Lay.r_eqS ?_
  | with_reducible refine' Lay.r_neS ?_
  | with_reducible refine' Lay.r_isN ?_
  | with_reducible refine' Lay.r_notN ?_
  | with_reducible refine' Lay.r_test ?_
  | with_reducible refine' Lay.r_tB ?_
  | with_reducible refine' Lay.r_bl ?_
  | with_reducible refine' Lay.r_and ?_
  | with_reducible refine' Lay.r_or ?_
  | with_reducible refine' Lay.r_not ?_
  | with_reducible refine' Lay.r_andV ?_
  | with_reducible refine' Lay.r_orV ?_
  | with_reducible refine' Lay.r_notV ?_
  | with_reducible refine' Lay.r_nil ?_
  | with_reducible refine' Lay.r_cons ?_
  | with_reducible refine' Lay.r_call ?_
  | with_reducible refine' Lay.r_cb ?_
  | with_reducible refine' Lay.r_lst ?_
  | with_reducible refine' Lay.r_tup ?_
  | with_reducible refine' Lay.r_augS ?_
  | with_reducible refine' Lay.r_for ?_
  | with_reducible refine' Lay.r_lc ?_
  | with_reducible refine' Lay.r_iList ?_
  | with_reducible refine' Lay.r_iTup ?_
  | with_reducible refine' Lay.r_iRng1 ?_
  | with_reducible refine' Lay.r_iRng2 ?_
  | with_reducible refine' Lay.r_iEnum ?_
  | with_reducible refine' Lay.r_raise ?_
  | with_reducible refine' Lay.r_sl ?_
  | with_reducible refine' Lay.r_noP ?_
  | with_reducible refine' Lay.r_part ?_
  | with_reducible refine' Lay.r_in ?_
  | with_reducible refine' Lay.r_int ?_
  | with_reducible refine' Lay.r_abs ?_
  | with_reducible refine' Lay.r_mx2 ?_
  | with_reducible refine' Lay.r_mn2 ?_
  | with_reducible refine' Lay.r_asg ?_
  | with_reducible refine' Lay.r_gCons ?_
  | with_reducible refine' Lay.r_gNil ?_
  | with_reducible refine' Lay.r_gName ?_
  | ((with_reducible refine' Lay.r_gTup (xs := ?vv) ?a1 ?a2 ?_); (case a1 => walk_at "st"); (case a2 => exact rfl))
  | ((with_reducible refine' Lay.r_gUnl (xs := ?vv) ?a1 ?a2 ?_); (case a1 => walk_at "sq"); (case a2 => exact rfl))
  | ((with_reducible refine' Lay.r_isTT (xs := ?vv) ?ee ?_); (case ee => walk_at "hp"))
  | ((with_reducible refine' Lay.r_isTL (xs := ?vv) ?ee ?_); (case ee => walk_at "hp"))
  | ((with_reducible refine' Lay.r_isLT (xs := ?vv) ?ee ?_); (case ee => walk_at "hp"))
  | with_reducible refine' Lay.r_fld ?_
  | ((with_reducible refine' Lay.r_rfld (C := ?cc) (dx := ?dd) (fs := ?ff) (x := ?xx) (ff := ?gg) (v := ?vv) ?a1 ?a2 ?a3 ?a4 ?_); (case a1 => walk_at "hp"); (case a2 => assumption); (case a3 => decide); (case a4 => exact rfl))
  | with_reducible refine' Lay.r_bmG ?_
  | ((with_reducible refine' Lay.r_bmR (xs := ?vv) ?a1 ?_); (case a1 => walk_at "sq"))
  | with_reducible refine' Lay.r_fst ?_
  | with_reducible refine' Lay.r_mth ?_
  | with_reducible refine' Lay.r_make ?_
  | with_reducible refine' Lay.r_par ?_
  | with_reducible refine' Lay.r_rpar ?_
  | with_reducible refine' Lay.r_isII ?_
  | with_reducible refine' Lay.r_isIB ?_
  | ((with_reducible refine' Lay.r_isLL (xs := ?vv) ?ee ?_); (case ee => walk_at "hp"))
  | ((with_reducible refine' Lay.r_I ?_ ?_); first | exact (by decide) | exact (.inl (by omega)) | exact (.inr (by omega)) | exact (by omega) | exact (And.intro (by omega) (by omega)))
  | ((with_reducible refine' Lay.r_lenP (ps := ?vv) (sp := ?ww) ?a1 ?_); (case a1 => assumption))
  | ((with_reducible refine' Lay.r_ixP (ps := ?vv) (sp := ?ww) ?a1 ?a2 ?a3 ?_); (case a1 => assumption); (case a2 => omega); (case a3 => omega); (intro _))
  | ((with_reducible refine' Lay.r_lenI (ns := ?vv) ?ee ?_); (case ee => walk_at "sq"))
  | ((with_reducible refine' Lay.r_ix0 (v := ?vv) ?a1 ?_); (case a1 => walk_at "sq"))
  | ((with_reducible refine' Lay.r_ix1 (v := ?vv) ?a1 ?_); (case a1 => walk_at "sq"))
  | ((with_reducible refine' Lay.r_ix2 (v := ?vv) ?a1 ?_); (case a1 => walk_at "sq"))
  | ((with_reducible refine' Lay.r_ixI (ns := ?vv) ?a1 ?a2 ?a3 ?_); (case a1 => walk_at "sq"); (case a2 => omega); (case a3 => omega))
  | ((with_reducible refine' Lay.r_ixT0 (v := ?vv) ?a1 ?_); (case a1 => walk_at "st"))
  | ((with_reducible refine' Lay.r_ixT1 (v := ?vv) ?a1 ?_); (case a1 => walk_at "st"))
  | ((with_reducible refine' Lay.r_ixT2 (v := ?vv) ?a1 ?_); (case a1 => walk_at "st"))
  | ((with_reducible refine' Lay.r_strI ?a1 ?a2 ?_); (case a1 => omega); (case a2 => omega))
  | with_reducible refine' Lay.r_chain ?_
  | with_reducible refine' Lay.r_iteC ?_
  | with_reducible refine' Lay.r_tIfI ?_
  | with_reducible refine' Lay.r_nT ?_
  | with_reducible refine' Lay.r_nF ?_
  | with_reducible refine L2.iteT ?_
  | with_reducible refine L2.iteF ?_)
local macro_rules | `(tactic| walk_at "go") => `(tactic| repeat (walk_at "go1"))
local macro_rules | `(tactic| walk_at "go0") => `(tactic| ((try dsimp only [L2.cxOf]); walk_at "go"))
local macro_rules | `(tactic| walk_at "gn1") => `(tactic| first
  | walk_at "go1"
  | ((with_reducible refine' Lay.r_newI0 ?_); (intro _ _ _ _ _))
  | ((with_reducible refine' Lay.r_newI1 ?_); (intro _ _ _ _ _))
  | ((with_reducible refine' Lay.r_newI2 ?_); (intro _ _ _ _ _))
  | ((with_reducible refine' Lay.r_newI3 ?_); (intro _ _ _ _ _))
  | ((with_reducible refine' Lay.r_newI4 ?_); (intro _ _ _ _ _))
  | ((with_reducible refine' Lay.r_newL (Lay.len3 rfl) ?_); (intro _ _ _ _ _))
  | ((with_reducible refine' Lay.r_newT (Lay.len3 rfl) ?_); (intro _ _ _ _ _))
  | ((with_reducible refine' Lay.r_listI (ns := ?vv) ?a1 ?_); (case a1 => walk_at "sq"); (intro _ _ _ _ _))
  | ((with_reducible refine' Lay.r_catI (ns := ?vv) (ms := ?ww) ?a1 ?a2 ?a3 ?_); (case a1 => walk_at "hp"); (case a2 => walk_at "hp"); (case a3 => walk_at "ln"); (intro _ _ _ _ _)))
local macro_rules | `(tactic| walk_at "gn") => `(tactic| repeat (walk_at "gn1"))
local macro_rules | `(tactic| walk_at "gn0") => `(tactic| ((try dsimp only [L2.cxOf]); walk_at "gn"))
/-! tables and rulers -/
namespace WK
open Lay
abbrev Sp := Prs
def Ok (sp : Sp) : Prop := ∀ i : Int, 0 ≤ i → i < sp.length → 0 ≤ zl sp i ∧ zl sp i ≤ zh sp i
theorem Ok.nil : Ok [] := fun i a b => absurd b (by show ¬ i < 0; omega)
theorem Ok.snoc {sp : Sp} {lo hi : Int} (h : Ok sp) (h0 : 0 ≤ lo) (h1 : lo ≤ hi) : Ok (sp ++ [(lo, hi)]) := fun i a b => by
  rw [List.length_append] at b
  change i < ((sp.length + 1 : Nat) : Int) at b
  by_cases c : i < sp.length
  · rw [zl_snoc a c, zh_snoc a c]
    exact h i a c
  · rw [zl_last (by omega), zh_last (by omega)]
    exact ⟨h0, h1⟩
/-- no end is greater -/
def HiB (sp : Sp) (B : Int) : Prop := ∀ i : Int, 0 ≤ i → i < sp.length → zh sp i ≤ B
theorem HiB.nil {B : Int} : HiB [] B := fun i a b => absurd b (by show ¬ i < 0; omega)
theorem HiB.snoc {sp : Sp} {lo hi B B2 : Int} (h : HiB sp B) (h1 : hi ≤ B2) (h2 : B ≤ B2) : HiB (sp ++ [(lo, hi)]) B2 := fun i a b => by
  rw [List.length_append] at b
  change i < ((sp.length + 1 : Nat) : Int) at b
  by_cases c : i < sp.length
  · rw [zh_snoc a c]
    exact Int.le_trans (h i a c) h2
  · rw [zh_last (by omega)]
    exact h1
def spw (sp : Sp) (f : Int) : Sp := sp.map fun p => (p.1 * f, p.2 * f)
theorem spw_len {sp : Sp} {f : Int} : (spw sp f).length = sp.length := by unfold spw; rw [List.length_map]
theorem spw_l {sp : Sp} {f : Int} {i : Int} (h0 : 0 ≤ i) (h1 : i < sp.length) : zl (spw sp f) i = zl sp i * f := by
  unfold zl spw
  rw [List.getD_eq_getElem?_getD, List.getD_eq_getElem?_getD, List.getElem?_map, List.getElem?_eq_getElem (by omega)]
  rfl
theorem spw_h {sp : Sp} {f : Int} {i : Int} (h0 : 0 ≤ i) (h1 : i < sp.length) : zh (spw sp f) i = zh sp i * f := by
  unfold zh spw
  rw [List.getD_eq_getElem?_getD, List.getD_eq_getElem?_getD, List.getElem?_map, List.getElem?_eq_getElem (by omega)]
  rfl
theorem spw_take {sp : Sp} {f : Int} {i : Nat} (h : i < sp.length) : spw (sp.take i) f ++ [(zl sp i * f, zh sp i * f)] = spw (sp.take (i + 1)) f := by
  unfold spw
  rw [List.take_succ_eq_append_getElem h, List.map_append]
  congr 1
  unfold zl zh
  rw [Int.toNat_natCast, List.getD_eq_getElem?_getD, List.getElem?_eq_getElem h]
  rfl
def fallP (sp : Sp) : Prop := ∃ p q : Int, 0 ≤ p ∧ p < q ∧ q < sp.length ∧ zh sp q < zl sp p
def leapP (sp : Sp) : Prop := ∃ i : Int, 1 ≤ i ∧ i < sp.length ∧ (zh sp (i - 1) < zl sp i ∨ zh sp i < zl sp (i - 1))
/-- running maxima -/
def top (sp : Sp) : Nat → Int
  | 0 => zl sp 0
  | i + 1 => mx (top sp i) (zl sp ((i + 1 : Nat) : Int))
def heldL (sp : Sp) : List Int := (List.range sp.length).map (top sp)
def evL (sp : Sp) : List Int := (List.range (sp.length - 1)).map fun i : Nat => mx (zl sp i) (zl sp ((i + 1 : Nat) : Int))
def lows (sp : Sp) : List Int := sp.map (·.1)
theorem lows_take {sp : Sp} : ∀ i : Nat, i < sp.length → mxl ((lows sp).take (i + 1)) = top sp i := by
  intro i
  induction i with
  | zero =>
    intro h
    cases sp with
    | nil => exact absurd h (Nat.not_lt_zero _)
    | cons a sp => rfl
  | succ i ih =>
    intro h
    have hi' : i + 1 < (lows sp).length := by unfold lows; rw [List.length_map]; exact h
    rw [List.take_succ_eq_append_getElem hi']
    have e : (lows sp)[i + 1] = zl sp ((i + 1 : Nat) : Int) := by
      have a : (lows sp)[i + 1] = (sp[i + 1]).1 := List.getElem_map _
      rw [a]
      unfold zl
      rw [Int.toNat_natCast, List.getD_eq_getElem?_getD, List.getElem?_eq_getElem h]
      rfl
    have ih := ih (by omega)
    have ne : (lows sp).take (i + 1) ≠ [] := fun z => by
      have := congrArg List.length z
      rw [List.length_take] at this
      change min (i + 1) (lows sp).length = 0 at this
      omega
    cases hx : (lows sp).take (i + 1) with
    | nil => exact absurd hx ne
    | cons z zs =>
      rw [hx] at ih
      rw [e]
      show (zs ++ [zl sp ((i + 1 : Nat) : Int)]).foldl (fun a b => if b > a then b else a) z = _
      rw [List.foldl_append]
      change zs.foldl (fun a b => if b > a then b else a) z = top sp i at ih
      rw [ih]
      rfl
theorem evL_at {sp : Sp} {i : Int} (h0 : 0 ≤ i) (h1 : i < sp.length - 1) : gi (evL sp) i = mx (zl sp i) (zl sp (i + 1)) := by
  obtain ⟨n, rfl⟩ : ∃ n : Nat, i = n := ⟨i.toNat, by omega⟩
  unfold gi evL
  rw [Int.toNat_natCast, List.getD_eq_getElem?_getD, List.getElem?_map, List.getElem?_range (by omega)]
  rfl
theorem evL_len (sp : Sp) : (evL sp).length = sp.length - 1 := by unfold evL; rw [List.length_map, List.length_range]
/-! rulers -/
def ed (hs : List Int) (i : Nat) : Int := (hs.take (i + 1)).sum
def edges (hs : List Int) : List Int := (List.range hs.length).map (ed hs)
def HOk (hs : List Int) : Prop := ∀ z ∈ hs, 1 ≤ z
theorem ed_succ {hs : List Int} {i : Nat} (h : i + 1 < hs.length) : ed hs (i + 1) = ed hs i + hs[i + 1] := by
  unfold ed
  rw [List.take_succ_eq_append_getElem h, List.sum_append]
  simp
theorem ed_lt {hs : List Int} (ho : HOk hs) {i j : Nat} (h : i < j) (hj : j < hs.length) : ed hs i < ed hs j := by
  obtain ⟨k, rfl⟩ : ∃ k, j = i + 1 + k := ⟨j - i - 1, by omega⟩
  induction k with
  | zero =>
    rw [Nat.add_zero, ed_succ (by omega)]
    have := ho hs[i + 1] (List.getElem_mem _)
    omega
  | succ k ih =>
    have a := ih (by omega) (by omega)
    rw [show i + 1 + (k + 1) = i + 1 + k + 1 by omega, ed_succ (by omega)]
    have := ho hs[i + 1 + k + 1] (List.getElem_mem _)
    omega
/-- how many edges lie at or before the line -/
def cnt (hs : List Int) (line : Int) : Nat → Nat
  | 0 => 0
  | i + 1 => cnt hs line i + (if ed hs i ≤ line then 1 else 0)
theorem cnt_split {hs : List Int} {line : Int} {c : Nat} (h1 : ∀ i, i < c → ed hs i ≤ line) : ∀ n, c ≤ n → (∀ i, c ≤ i → i < n → line < ed hs i) → cnt hs line n = c := by
  have base : ∀ k, k ≤ c → cnt hs line k = k := by
    intro k
    induction k with
    | zero => intro _; rfl
    | succ k ih =>
      intro hk
      rw [cnt, ih (by omega), if_pos (h1 k (by omega))]
  intro n hn h2
  obtain ⟨k, rfl⟩ : ∃ k, n = c + k := ⟨n - c, by omega⟩
  induction k with
  | zero => exact base c (Nat.le_refl _)
  | succ k ih =>
    have := h2 (c + k) (by omega) (by omega)
    rw [show c + (k + 1) = c + k + 1 by omega, cnt, ih (by omega) (fun i a b => h2 i a (by omega)), if_neg (by omega), Nat.add_zero]
theorem cnt_ex {hs : List Int} (ho : HOk hs) (line : Int) : ∀ n, n ≤ hs.length → ∃ c, c ≤ n ∧ (∀ i, i < c → ed hs i ≤ line) ∧ ∀ i, c ≤ i → i < n → line < ed hs i := by
  intro n
  induction n with
  | zero => exact fun _ => ⟨0, Nat.le_refl _, fun i h => absurd h (Nat.not_lt_zero _), fun i _ h => absurd h (Nat.not_lt_zero _)⟩
  | succ n ih =>
    intro hn
    obtain ⟨c, h1, h2, h3⟩ := ih (by omega)
    by_cases e : c = n
    · by_cases g : ed hs n ≤ line
      · refine ⟨n + 1, Nat.le_refl _, fun i hi => ?_, fun i a b => absurd a (by omega)⟩
        by_cases z : i = n
        · rw [z]; exact g
        · exact h2 i (by omega)
      · refine ⟨n, by omega, fun i hi => h2 i (by omega), fun i a b => ?_⟩
        rw [show i = n by omega]
        omega
    · refine ⟨c, by omega, h2, fun i a b => ?_⟩
      by_cases z : i = n
      · rw [z]
        have := ed_lt ho (i := c) (j := n) (by omega) (by omega)
        have := h3 c (Nat.le_refl _) (by omega)
        omega
      · exact h3 i a (by omega)
theorem cnt_spec {hs : List Int} (ho : HOk hs) (line : Int) : cnt hs line hs.length ≤ hs.length ∧ (∀ i, i < cnt hs line hs.length → ed hs i ≤ line) ∧ ∀ i, cnt hs line hs.length ≤ i → i < hs.length → line < ed hs i := by
  obtain ⟨c, h1, h2, h3⟩ := cnt_ex ho line hs.length (Nat.le_refl _)
  rw [cnt_split h2 _ h1 h3]
  exact ⟨h1, h2, h3⟩
/-! lines between edges -/
def lp (sp : Sp) : Bool → Int → Int
  | true, j => zl sp j - zh sp (j - 1)
  | false, j => zl sp (j - 1) - zh sp j
theorem leap_lp {sp : Sp} : leapP sp ↔ ∃ (b : Bool) (j : Int), 1 ≤ j ∧ j < sp.length ∧ 0 < lp sp b j := by
  constructor
  · rintro ⟨i, h1, h2, h | h⟩
    · exact ⟨true, i, h1, h2, by show 0 < _ - _; omega⟩
    · exact ⟨false, i, h1, h2, by show 0 < _ - _; omega⟩
  · rintro ⟨b, j, h1, h2, h⟩
    refine ⟨j, h1, h2, ?_⟩
    cases b
    · change 0 < _ - _ at h; exact .inr (by omega)
    · change 0 < _ - _ at h; exact .inl (by omega)
def eL (sp : Sp) (i : Int) : Int := mx (zl sp i) (zl sp (i + 1))
/-- what is due at a line -/
def due (sp : Sp) (hs : List Int) (line : Int) : Int × Int :=
  if hs.length = 0 then (zl sp 0, 1)
  else if cnt hs line hs.length = 0 then (eL sp 0, 1)
  else if cnt hs line hs.length = hs.length then (eL sp (hs.length - 1), 1)
  else (eL sp (cnt hs line hs.length - 1) * (gi hs (cnt hs line hs.length) - (line - (hs.take (cnt hs line hs.length)).sum)) + eL sp (cnt hs line hs.length) * (line - (hs.take (cnt hs line hs.length)).sum), gi hs (cnt hs line hs.length))
structure ValOk (sp : Sp) (hs : List Int) (line a b : Int) : Prop where
  b1 : 1 ≤ b
  a0 : 0 ≤ a
  b2 : b ≤ 1000000000
  g : Nat.gcd a.toNat b.toNat = 1
  q : a * (due sp hs line).2 = (due sp hs line).1 * b
  lo : zl sp (cnt hs line hs.length) * b ≤ a
  hi : a ≤ zh sp (cnt hs line hs.length) * b
theorem eL_in {sp : Sp} (ho : Ok sp) (hn : ¬ leapP sp) {i : Int} (h0 : 0 ≤ i) (h1 : i + 1 < sp.length) : zl sp i ≤ eL sp i ∧ eL sp i ≤ zh sp i ∧ zl sp (i + 1) ≤ eL sp i ∧ eL sp i ≤ zh sp (i + 1) := by
  have a := ho i h0 (by omega)
  have b := ho (i + 1) (by omega) h1
  have c : ¬ (zh sp i < zl sp (i + 1)) := fun z => hn ⟨i + 1, by omega, h1, .inl (by rw [show i + 1 - 1 = i by omega]; exact z)⟩
  have d : ¬ (zh sp (i + 1) < zl sp i) := fun z => hn ⟨i + 1, by omega, h1, .inr (by rw [show i + 1 - 1 = i by omega]; exact z)⟩
  unfold eL mx
  split <;> omega
theorem val_one {sp : Sp} {hs : List Int} {line v : Int} (h0 : 0 ≤ v) (hd : due sp hs line = (v, 1)) (h1 : zl sp (cnt hs line hs.length) ≤ v) (h2 : v ≤ zh sp (cnt hs line hs.length)) : ValOk sp hs line v 1 := by
  refine ⟨by decide, h0, by decide, ?_, ?_, by omega, by omega⟩
  · exact Nat.gcd_one_right _
  · rw [hd]
/-- a / b in lowest terms -/
theorem val_low {sp : Sp} {hs : List Int} {line A L : Int} (hA : 0 ≤ A) (hL : 1 ≤ L) (hL2 : L ≤ 1000000000) (hd : due sp hs line = (A, L)) (h1 : zl sp (cnt hs line hs.length) * L ≤ A) (h2 : A ≤ zh sp (cnt hs line hs.length) * L) :
    ValOk sp hs line (A / (Nat.gcd A.toNat L.toNat : Nat)) (L / (Nat.gcd A.toNat L.toNat : Nat)) := by
  obtain ⟨n, rfl⟩ : ∃ n : Nat, A = n := ⟨A.toNat, by omega⟩
  obtain ⟨m, rfl⟩ : ∃ m : Nat, L = m := ⟨L.toNat, by omega⟩
  rw [Int.toNat_natCast, Int.toNat_natCast]
  have gp : 0 < Nat.gcd n m := Nat.gcd_pos_of_pos_right _ (by omega)
  obtain ⟨u, hu⟩ := Nat.gcd_dvd_left n m
  obtain ⟨v, hv⟩ := Nat.gcd_dvd_right n m
  have cop : Nat.gcd (n / Nat.gcd n m) (m / Nat.gcd n m) = 1 := by rw [Nat.gcd_div (Nat.gcd_dvd_left n m) (Nat.gcd_dvd_right n m), Nat.div_self gp]
  generalize hg : Nat.gcd n m = g at *
  have du : n / g = u := by rw [hu]; exact Nat.mul_div_cancel_left _ gp
  have dv : m / g = v := by rw [hv]; exact Nat.mul_div_cancel_left _ gp
  have e1 : (n : Int) / (g : Int) = (u : Int) := by rw [← Int.natCast_ediv, du]
  have e2 : (m : Int) / (g : Int) = (v : Int) := by rw [← Int.natCast_ediv, dv]
  rw [du, dv] at cop
  rw [e1, e2]
  have g1 : (1 : Int) ≤ g := by omega
  have hn : (n : Int) = g * u := by rw [← Int.natCast_mul, ← hu]
  have hm : (m : Int) = g * v := by rw [← Int.natCast_mul, ← hv]
  have vp : 1 ≤ v := by
    cases v with
    | zero => rw [Nat.mul_zero] at hv; omega
    | succ v => omega
  have gpos : (0 : Int) < g := by omega
  refine ⟨by omega, by omega, ?_, ?_, ?_, ?_, ?_⟩
  · have : v ≤ m := by rw [← dv]; exact Nat.div_le_self _ _
    omega
  · rw [Int.toNat_natCast, Int.toNat_natCast]
    exact cop
  · rw [hd]
    show (u : Int) * (m : Int) = (n : Int) * (v : Int)
    rw [hn, hm, Int.mul_left_comm, Int.mul_assoc]
  · refine Int.le_of_mul_le_mul_left (a := g) ?_ gpos
    rw [← hn, Int.mul_left_comm, ← hm]
    exact h1
  · refine Int.le_of_mul_le_mul_left (a := g) ?_ gpos
    rw [← hn, Int.mul_left_comm, ← hm]
    exact h2
/-- between two numbers -/
theorem between {a b h lo hi p : Int} (h0 : 0 ≤ p) (h1 : p ≤ h) (a1 : lo ≤ a) (b1 : lo ≤ b) (a2 : a ≤ hi) (b2 : b ≤ hi) : lo * h ≤ a * (h - p) + b * p ∧ a * (h - p) + b * p ≤ hi * h := by
  have e1 : lo * h = lo * (h - p) + lo * p := by rw [← Int.mul_add, show h - p + p = h by omega]
  have e2 : hi * h = hi * (h - p) + hi * p := by rw [← Int.mul_add, show h - p + p = h by omega]
  have c1 : lo * (h - p) ≤ a * (h - p) := Int.mul_le_mul_of_nonneg_right a1 (by omega)
  have c2 : lo * p ≤ b * p := Int.mul_le_mul_of_nonneg_right b1 h0
  have c3 : a * (h - p) ≤ hi * (h - p) := Int.mul_le_mul_of_nonneg_right a2 (by omega)
  have c4 : b * p ≤ hi * p := Int.mul_le_mul_of_nonneg_right b2 h0
  omega
theorem lin {a b h p : Int} : a * h + (b - a) * p = a * (h - p) + b * p := by
  rw [Int.sub_mul, Int.mul_sub]
  omega
/-! Euclid -/
def est (s : Nat × Nat) : Nat × Nat := if s.2 = 0 then s else (s.2, s.1 % s.2)
def eit (s : Nat × Nat) : Nat → Nat × Nat
  | 0 => s
  | n + 1 => est (eit s n)
theorem est_gcd (s : Nat × Nat) : Nat.gcd (est s).1 (est s).2 = Nat.gcd s.1 s.2 := by
  unfold est
  split
  · rfl
  · show Nat.gcd s.2 (s.1 % s.2) = _
    rw [Nat.gcd_comm, ← Nat.gcd_rec, Nat.gcd_comm]
theorem eit_gcd (s : Nat × Nat) : ∀ n, Nat.gcd (eit s n).1 (eit s n).2 = Nat.gcd s.1 s.2
  | 0 => rfl
  | n + 1 => (est_gcd _).trans (eit_gcd s n)
theorem est_half (s : Nat × Nat) : 2 * (est (est s)).2 ≤ s.2 := by
  unfold est
  by_cases h : s.2 = 0
  · rw [if_pos h, if_pos h, h]
    exact Nat.le_refl _
  · rw [if_neg h]
    by_cases h2 : s.1 % s.2 = 0
    · rw [if_pos h2]
      show 2 * (s.1 % s.2) ≤ s.2
      omega
    · rw [if_neg h2]
      show 2 * (s.2 % (s.1 % s.2)) ≤ s.2
      have a : s.1 % s.2 < s.2 := Nat.mod_lt _ (by omega)
      have b : s.2 % (s.1 % s.2) < s.1 % s.2 := Nat.mod_lt _ (by omega)
      have c := Nat.div_add_mod s.2 (s.1 % s.2)
      have d : 1 ≤ s.2 / (s.1 % s.2) := Nat.div_pos (by omega) (by omega)
      have e : (s.1 % s.2) * 1 ≤ (s.1 % s.2) * (s.2 / (s.1 % s.2)) := Nat.mul_le_mul_left _ d
      omega
theorem eit_small (s : Nat × Nat) : ∀ k, s.2 < 2 ^ k → (eit s (2 * k)).2 = 0 := by
  have key : ∀ k, 2 ^ k * (eit s (2 * k)).2 ≤ s.2 := by
    intro k
    induction k with
    | zero => rw [Nat.pow_zero, Nat.one_mul]; exact Nat.le_refl _
    | succ k ih =>
      have h := est_half (eit s (2 * k))
      show 2 ^ (k + 1) * (est (est (eit s (2 * k)))).2 ≤ s.2
      have e : 2 ^ (k + 1) * (est (est (eit s (2 * k)))).2 = 2 ^ k * (2 * (est (est (eit s (2 * k)))).2) := by rw [Nat.pow_succ, Nat.mul_assoc]
      rw [e]
      exact Nat.le_trans (Nat.mul_le_mul_left _ h) ih
  intro k h
  have a := key k
  cases hz : (eit s (2 * k)).2 with
  | zero => rfl
  | succ z =>
    rw [hz] at a
    have : 2 ^ k * 1 ≤ 2 ^ k * (z + 1) := Nat.mul_le_mul_left _ (by omega)
    omega
end WK
/-! rows that are priced -/
namespace WP
open Lay PySem L2
inductive PRow | tab (ns : List Int) | blk (n : Int) | opn
deriving DecidableEq
def rowD : PRow → PyData
  | .tab ns => .tuple [.str "table", .list (ns.map PyData.int)]
  | .blk n => .tuple [.str "block", .int n]
  | .opn => .tuple [.str "opening"]
def rowsD (rs : List PRow) : PyData := .list (rs.map rowD)
theorem dpa_get {K : PySem.W.Frag} {H : Hp} : ∀ {xs : List V} {ds : List PyData}, DpAll K H xs ds → ∀ {i : Nat} {x : V}, xs[i]? = some x → ∃ d, ds[i]? = some d ∧ Dp K H x d
  | _, _, .nil, i, x, h => by cases h
  | _, _, .cons a r, 0, x, h => by cases h; exact ⟨_, rfl, a⟩
  | _, _, .cons a r, i + 1, x, h => dpa_get r (i := i) h
theorem dpa_inv {K : PySem.W.Frag} {H : Hp} : ∀ {ns : List Int} {xs : List V}, DpAll K H xs (ns.map PyData.int) → xs = ns.map V.int
  | [], _, h => by cases h; rfl
  | n :: ns, _, h => by
    cases h with
    | cons a r =>
      cases a
      rw [dpa_inv r]
      rfl
theorem row_tab {K : PySem.W.Frag} {H : Hp} {v : V} {ns : List Int} (h : Dp K H v (rowD (.tab ns))) : ∃ t a, v = .ref t ∧ SqT K H t [.str "table", .ref a] ∧ SqL K H a (ns.map V.int) := by
  cases h with
  | tup hs ha =>
    cases ha with
    | cons h1 r =>
      cases h1
      cases r with
      | cons h2 r =>
        cases r
        cases h2 with
        | lst hs2 ha2 =>
          rw [dpa_inv ha2] at hs2
          exact ⟨_, _, rfl, hs, hs2⟩
theorem row_blk {K : PySem.W.Frag} {H : Hp} {v : V} {n : Int} (h : Dp K H v (rowD (.blk n))) : ∃ t, v = .ref t ∧ SqT K H t [.str "block", .int n] := by
  cases h with
  | tup hs ha =>
    cases ha with
    | cons h1 r =>
      cases h1
      cases r with
      | cons h2 r =>
        cases r
        cases h2
        exact ⟨_, rfl, hs⟩
theorem row_opn {K : PySem.W.Frag} {H : Hp} {v : V} (h : Dp K H v (rowD .opn)) : ∃ t, v = .ref t ∧ SqT K H t [.str "opening"] := by
  cases h with
  | tup hs ha =>
    cases ha with
    | cons h1 r =>
      cases h1
      cases r
      exact ⟨_, rfl, hs⟩
theorem rows_at {K : PySem.W.Frag} {H : Hp} {a : Addr} {rs : List PRow} (h : Dp K H (.ref a) (rowsD rs)) : ∃ xs, SqL K H a xs ∧ DpAll K H xs (rs.map rowD) := by
  cases h with
  | lst hs ha => exact ⟨_, hs, ha⟩
theorem rows_get {K : PySem.W.Frag} {H : Hp} {xs : List V} {rs : List PRow} (h : DpAll K H xs (rs.map rowD)) {i : Nat} {x : V} (hx : xs[i]? = some x) : ∃ r, rs[i]? = some r ∧ Dp K H x (rowD r) := by
  obtain ⟨d, e, hd⟩ := dpa_get h hx
  rw [List.getElem?_map] at e
  cases er : rs[i]? with
  | none => rw [er] at e; cases e
  | some r =>
    rw [er] at e
    cases e
    exact ⟨r, rfl, hd⟩
theorem rows_len {K : PySem.W.Frag} {H : Hp} {xs : List V} {rs : List PRow} (h : DpAll K H xs (rs.map rowD)) : xs.length = rs.length := by rw [Lay.DpAll.len h, List.length_map]
/-! flat enough to be compared -/
theorem fl_row (r : PRow) : Fl (rowD r) := by
  cases r with
  | tab ns =>
    have a := ints_lay ns
    have b := ints_depth ns
    refine ⟨by simp [rowD, PyData.canLay0, PyData.canLayAll0, a]; decide +kernel, ?_⟩
    simp only [rowD, PyData.depth, PyData.depthAll]
    omega
  | blk n => exact ⟨by simp [rowD, PyData.canLay0, PyData.canLayAll0]; decide +kernel, by simp [rowD, PyData.depth, PyData.depthAll]⟩
  | opn => exact ⟨by simp [rowD, PyData.canLay0, PyData.canLayAll0]; decide +kernel, by simp [rowD, PyData.depth, PyData.depthAll]⟩
theorem sh_rows (rs : List PRow) : SeqAt.shaped (rowsD rs) = true := sh_fl fun d hd => by
  obtain ⟨r, _, rfl⟩ := List.mem_map.mp hd
  exact fl_row r
/-! the first that is not none -/
theorem fs_some {α β : Type} {k : α → Option β} {rs : List α} {i : Nat} {r : α} {e : β} (h : ∀ (j : Nat) (r : α), j < i → rs[j]? = some r → k r = none) (hr : rs[i]? = some r) (he : k r = some e) : rs.findSome? k = some e := by
  induction rs generalizing i with
  | nil => cases hr
  | cons a rs ih =>
    cases i with
    | zero =>
      cases hr
      rw [List.findSome?_cons, he]
    | succ i =>
      rw [List.findSome?_cons, h 0 a (by omega) rfl]
      exact ih (fun j r hj hr => h (j + 1) r (by omega) hr) hr
theorem fs_none {α β : Type} {k : α → Option β} {rs : List α} (h : ∀ (j : Nat) (r : α), j < rs.length → rs[j]? = some r → k r = none) : rs.findSome? k = none := by
  rw [List.findSome?_eq_none_iff]
  intro r hr
  obtain ⟨j, hj⟩ := List.getElem?_of_mem hr
  exact h j r (List.getElem?_eq_some_iff.mp hj).1 hj
theorem fs_inv {α β : Type} {k : α → Option β} {rs : List α} (h : rs.findSome? k = none) : ∀ r ∈ rs, k r = none := List.findSome?_eq_none_iff.mp h
/-! pads -/
def hiN (ns : List Int) : Nat → Int
  | 0 => gi ns 0
  | i + 1 => mx (hiN ns i) (gi ns i)
def moN (ns : List Int) : Nat → Int
  | 0 => 0
  | i + 1 => mx (moN ns i) (hiN ns (i + 1) - gi ns i)
def ab (i : Int) : Int := if i < 0 then -i else i
def leN (ns : List Int) : Nat → Int
  | 0 => 0
  | i + 1 => mx (leN ns i) (ab (gi ns ((i + 1 : Nat) : Int) - gi ns i))
def padF : PRow → Int
  | .tab ns => moN ns ns.length
  | _ => 0
def padL : PRow → Int
  | .tab ns => leN ns (ns.length - 1)
  | .blk n => n - 1
  | .opn => 0
theorem mx_le {a b c : Int} : mx a b ≤ c ↔ a ≤ c ∧ b ≤ c := by unfold mx; split <;> omega
theorem le_mx {a b c : Int} : c ≤ mx a b ↔ c ≤ a ∨ c ≤ b := by unfold mx; split <;> omega
theorem hiN_ge (ns : List Int) : ∀ i, ∀ j : Nat, j < i → gi ns j ≤ hiN ns i := by
  intro i
  induction i with
  | zero => intro j h; exact absurd h (Nat.not_lt_zero _)
  | succ i ih =>
    intro j h
    rw [hiN]
    by_cases e : j = i
    · rw [e]; exact le_mx.mpr (.inr (Int.le_refl _))
    · exact le_mx.mpr (.inl (ih j (by omega)))
theorem hiN_in (ns : List Int) : ∀ i, 1 ≤ i → ∃ j : Nat, j < i ∧ hiN ns i = gi ns j := by
  intro i
  induction i with
  | zero => intro h; omega
  | succ i ih =>
    intro _
    rw [hiN]
    unfold mx
    split
    · exact ⟨i, by omega, rfl⟩
    · cases i with
      | zero => exact ⟨0, by omega, rfl⟩
      | succ i =>
        obtain ⟨j, hj, e⟩ := ih (by omega)
        exact ⟨j, by omega, e⟩
theorem moN_le {ns : List Int} {c : Int} (hc : 0 ≤ c) : ∀ n, moN ns n ≤ c ↔ ∀ p q : Nat, p < q → q < n → gi ns p - gi ns q ≤ c := by
  intro n
  induction n with
  | zero => exact ⟨fun _ p q _ h => absurd h (Nat.not_lt_zero _), fun _ => hc⟩
  | succ n ih =>
    rw [moN, mx_le, ih]
    constructor
    · rintro ⟨h1, h2⟩ p q pq qn
      by_cases e : q = n
      · have a := hiN_ge ns (n + 1) p (by omega)
        rw [e]
        omega
      · exact h1 p q pq (by omega)
    · intro h
      refine ⟨fun p q pq qn => h p q pq (by omega), ?_⟩
      obtain ⟨j, hj, e⟩ := hiN_in ns (n + 1) (by omega)
      rw [e]
      by_cases z : j = n
      · rw [z]; omega
      · exact h j n (by omega) (by omega)
theorem moN_nn (ns : List Int) : ∀ n, 0 ≤ moN ns n
  | 0 => Int.le_refl _
  | n + 1 => le_mx.mpr (.inl (moN_nn ns n))
theorem leN_nn (ns : List Int) : ∀ n, 0 ≤ leN ns n
  | 0 => Int.le_refl _
  | n + 1 => le_mx.mpr (.inl (leN_nn ns n))
theorem leN_le {ns : List Int} {c : Int} (hc : 0 ≤ c) : ∀ n, leN ns n ≤ c ↔ ∀ j : Nat, j < n → gi ns ((j + 1 : Nat) : Int) - gi ns j ≤ c ∧ gi ns j - gi ns ((j + 1 : Nat) : Int) ≤ c := by
  intro n
  induction n with
  | zero => exact ⟨fun _ j h => absurd h (Nat.not_lt_zero _), fun _ => hc⟩
  | succ n ih =>
    rw [leN, mx_le, ih]
    constructor
    · rintro ⟨h1, h2⟩ j hj
      by_cases e : j = n
      · rw [e]
        unfold ab at h2
        split at h2 <;> omega
      · exact h1 j (by omega)
    · intro h
      refine ⟨fun j hj => h j (by omega), ?_⟩
      have := h n (by omega)
      unfold ab
      split <;> omega
/-- lengths within -/
def InB (ns : List Int) (M : Int) : Prop := ∀ z ∈ ns, 0 ≤ z ∧ z ≤ M
theorem inb_gi {ns : List Int} {M : Int} (h : InB ns M) (hM : 0 ≤ M) (i : Int) : 0 ≤ gi ns i ∧ gi ns i ≤ M := by
  unfold gi
  rw [List.getD_eq_getElem?_getD]
  cases e : ns[i.toNat]? with
  | none => exact ⟨Int.le_refl _, hM⟩
  | some z => exact h z (List.mem_of_getElem? e)
theorem moN_B {ns : List Int} {M : Int} (h : InB ns M) (hM : 0 ≤ M) (n : Nat) : moN ns n ≤ M := (moN_le hM n).mpr fun p q _ _ => by
  have a := inb_gi h hM p
  have b := inb_gi h hM q
  omega
theorem leN_B {ns : List Int} {M : Int} (h : InB ns M) (hM : 0 ≤ M) (n : Nat) : leN ns n ≤ M := (leN_le hM n).mpr fun j _ => by
  have a := inb_gi h hM j
  have b := inb_gi h hM ((j + 1 : Nat) : Int)
  omega
/-! prices -/
def prN (ps cs : List Int) : Nat → Int
  | 0 => 0
  | i + 1 => prN ps cs i + gi ps i * gi cs i
def price (ps cs : List Int) : Int := prN ps cs ps.length
theorem prN_mono {ps qs cs : List Int} (hc : ∀ z ∈ cs, 0 ≤ z) : ∀ n, (∀ i : Nat, i < n → gi ps i ≤ gi qs i) → prN ps cs n ≤ prN qs cs n := by
  intro n
  induction n with
  | zero => intro _; exact Int.le_refl _
  | succ n ih =>
    intro h
    rw [prN, prN]
    have a := ih fun i hi => h i (by omega)
    have c0 : 0 ≤ gi cs n := by
      unfold gi
      rw [List.getD_eq_getElem?_getD]
      cases e : cs[((n : Nat) : Int).toNat]? with
      | none => exact Int.le_refl _
      | some z => exact hc z (List.mem_of_getElem? e)
    have b := Int.mul_le_mul_of_nonneg_right (h n (by omega)) c0
    omega
def falls (rs : List PRow) : List Int := rs.map padF
def leaps (rs : List PRow) : List Int := rs.map padL
def hasOpn (rs : List PRow) : Bool := rs.any fun r => decide (r = .opn)
def least (rs : List PRow) (cs : List Int) : Int × Str × List Int :=
  if hasOpn rs then (price (falls rs) cs, "falls", falls rs)
  else if price (leaps rs) cs < price (falls rs) cs then (price (leaps rs) cs, "leaps", leaps rs) else (price (falls rs) cs, "falls", falls rs)
/-! padded rows -/
def spn (ns : List Int) (p : Int) : Prs := ns.map fun x => (x, x + p)
theorem spn_len {ns : List Int} {p : Int} : (spn ns p).length = ns.length := by unfold spn; rw [List.length_map]
theorem spn_l {ns : List Int} {p i : Int} (h0 : 0 ≤ i) (h1 : i < ns.length) : zl (spn ns p) i = gi ns i := by
  unfold zl spn gi
  rw [List.getD_eq_getElem?_getD, List.getD_eq_getElem?_getD, List.getElem?_map, List.getElem?_eq_getElem (by omega)]
  rfl
theorem spn_h {ns : List Int} {p i : Int} (h0 : 0 ≤ i) (h1 : i < ns.length) : zh (spn ns p) i = gi ns i + p := by
  unfold zh spn gi
  rw [List.getD_eq_getElem?_getD, List.getD_eq_getElem?_getD, List.getElem?_map, List.getElem?_eq_getElem (by omega)]
  rfl
theorem fall_pad {ns : List Int} {p : Int} (hp : 0 ≤ p) : ¬ WK.fallP (spn ns p) ↔ padF (.tab ns) ≤ p := by
  show _ ↔ moN ns ns.length ≤ p
  rw [moN_le hp]
  constructor
  · intro h i j ij jn
    by_cases c : gi ns i - gi ns j ≤ p
    · exact c
    · refine absurd ⟨i, j, by omega, by omega, by rw [spn_len]; omega, ?_⟩ h
      rw [spn_l (by omega) (by omega), spn_h (by omega) (by omega)]
      omega
  · rintro h ⟨i, j, i0, ij, jn, z⟩
    rw [spn_len] at jn
    rw [spn_l (by omega) (by omega), spn_h (by omega) (by omega)] at z
    obtain ⟨a, rfl⟩ : ∃ a : Nat, i = a := ⟨i.toNat, by omega⟩
    obtain ⟨b, rfl⟩ : ∃ b : Nat, j = b := ⟨j.toNat, by omega⟩
    have := h a b (by omega) (by omega)
    omega
theorem leap_pad {ns : List Int} {p : Int} (hp : 0 ≤ p) : ¬ WK.leapP (spn ns p) ↔ padL (.tab ns) ≤ p := by
  show _ ↔ leN ns (ns.length - 1) ≤ p
  rw [leN_le hp]
  constructor
  · intro h j jn
    by_cases c : gi ns ((j + 1 : Nat) : Int) - gi ns j ≤ p ∧ gi ns j - gi ns ((j + 1 : Nat) : Int) ≤ p
    · exact c
    · refine absurd ⟨((j + 1 : Nat) : Int), by omega, by rw [spn_len]; omega, ?_⟩ h
      rw [show ((j + 1 : Nat) : Int) - 1 = j by omega, spn_l (by omega) (by omega), spn_h (by omega) (by omega), spn_l (by omega) (by omega), spn_h (by omega) (by omega)]
      omega
  · rintro h ⟨i, i1, jn, z⟩
    rw [spn_len] at jn
    obtain ⟨a, rfl⟩ : ∃ a : Nat, i = ((a + 1 : Nat) : Int) := ⟨i.toNat - 1, by omega⟩
    rw [show ((a + 1 : Nat) : Int) - 1 = a by omega, spn_l (by omega) (by omega), spn_h (by omega) (by omega), spn_l (by omega) (by omega), spn_h (by omega) (by omega)] at z
    have := h a (by omega)
    omega
/-- nothing leaps at this pad -/
def m1 (r : PRow) (p : Int) : Bool := match r with
  | .opn => false
  | r => decide (padL r ≤ p)
def m0 (r : PRow) (p : Int) : Bool := decide (padF r ≤ p)
def markD (r : PRow) : PyData := .list ((List.range 5).map fun p : Nat => .tuple [.bool (m0 r p), .bool (m1 r p)])
def marksD (rs : List PRow) : PyData := .list (rs.map markD)
theorem mark_get {r : PRow} {p : Int} (h0 : 0 ≤ p) (h1 : p < 5) : ((List.range 5).map fun p : Nat => PyData.tuple [.bool (m0 r p), .bool (m1 r p)])[p.toNat]? = some (.tuple [.bool (m0 r p), .bool (m1 r p)]) := by
  obtain ⟨n, rfl⟩ : ∃ n : Nat, p = n := ⟨p.toNat, by omega⟩
  rw [Int.toNat_natCast, List.getElem?_map, List.getElem?_range (by omega)]
  rfl
/-! all pads -/
def lim : PRow → Nat
  | .opn => 1
  | _ => 5
def wayN (rs : List PRow) : Nat → List (List Int)
  | 0 => [[]]
  | i + 1 => (wayN rs i).flatMap fun w => (List.range (lim (rs.getD i .opn))).map fun p : Nat => w ++ [(p : Int)]
theorem way_mem {rs : List PRow} : ∀ n (w : List Int), w ∈ wayN rs n ↔ w.length = n ∧ ∀ i : Nat, i < n → 0 ≤ gi w i ∧ gi w i < lim (rs.getD i .opn) := by
  intro n
  induction n with
  | zero =>
    intro w
    rw [wayN, List.mem_singleton]
    constructor
    · rintro rfl
      exact ⟨rfl, fun i h => absurd h (Nat.not_lt_zero _)⟩
    · rintro ⟨h, _⟩
      exact List.length_eq_zero_iff.mp h
  | succ n ih =>
    intro w
    rw [wayN, List.mem_flatMap]
    constructor
    · rintro ⟨u, hu, hw⟩
      obtain ⟨p, hp, rfl⟩ := List.mem_map.mp hw
      rw [List.mem_range] at hp
      obtain ⟨ul, ub⟩ := (ih u).mp hu
      refine ⟨by rw [List.length_append, ul]; rfl, fun i hi => ?_⟩
      unfold gi
      rw [Int.toNat_natCast, List.getD_eq_getElem?_getD]
      by_cases c : i = n
      · rw [List.getElem?_append_right (by omega), ul, c, Nat.sub_self]
        exact ⟨by show 0 ≤ (p : Int); omega, by show (p : Int) < _; omega⟩
      · rw [List.getElem?_append_left (by omega)]
        have := ub i (by omega)
        unfold gi at this
        rw [Int.toNat_natCast, List.getD_eq_getElem?_getD] at this
        exact this
    · rintro ⟨wl, wb⟩
      have hn : n < w.length := by omega
      refine ⟨w.take n, (ih _).mpr ⟨by rw [List.length_take]; omega, fun i hi => ?_⟩, ?_⟩
      · have := wb i (by omega)
        unfold gi at this ⊢
        rw [Int.toNat_natCast, List.getD_eq_getElem?_getD] at this ⊢
        rw [List.getElem?_take_of_lt hi]
        exact this
      · have b := wb n (by omega)
        have e : gi w n = w[n] := by
          unfold gi
          rw [Int.toNat_natCast, List.getD_eq_getElem?_getD, List.getElem?_eq_getElem hn]
          rfl
        rw [e] at b
        refine List.mem_map.mpr ⟨w[n].toNat, List.mem_range.mpr (by omega), ?_⟩
        rw [Int.toNat_of_nonneg b.1, ← List.take_succ_eq_append_getElem hn, List.take_of_length_le (by omega)]
/-! the cheapest -/
/-- no row falls, no row leaps, at these pads -/
def calm (rs : List PRow) (w : List Int) : Prop := ∀ i : Nat, i < rs.length → m0 (rs.getD i .opn) (gi w i) = true
def even (rs : List PRow) (w : List Int) : Prop := ∀ i : Nat, i < rs.length → m1 (rs.getD i .opn) (gi w i) = true
/-- the best of some -/
def Bst (rs : List PRow) (cs : List Int) (S : List Int → Prop) (b : Option Int) : Prop := match b with
  | none => ∀ w, S w → ¬ (calm rs w ∨ even rs w)
  | some m => (∃ w, S w ∧ (calm rs w ∨ even rs w) ∧ prN w cs rs.length = m) ∧ ∀ w, S w → (calm rs w ∨ even rs w) → m ≤ prN w cs rs.length
theorem gi_map {α : Type} {f : PRow → Int} {rs : List PRow} {i : Nat} (h : i < rs.length) : gi (rs.map f) i = f (rs.getD i .opn) := by
  unfold gi
  rw [Int.toNat_natCast, List.getD_eq_getElem?_getD, List.getElem?_map, List.getElem?_eq_getElem h, List.getD_eq_getElem?_getD, List.getElem?_eq_getElem h]
  rfl
/-- small rows -/
structure Small (rs : List PRow) : Prop where
  f : ∀ r ∈ rs, 0 ≤ padF r ∧ padF r ≤ 4
  l : ∀ r ∈ rs, 0 ≤ padL r ∧ padL r ≤ 4
  t : ∀ ns, PRow.tab ns ∈ rs → 1 ≤ ns.length ∧ ns.length ≤ 64
  b : ∀ n, PRow.blk n ∈ rs → 1 ≤ n
theorem padF_opn : padF .opn = 0 := rfl
theorem getD_mem {rs : List PRow} {i : Nat} (h : i < rs.length) : rs.getD i .opn ∈ rs := by
  rw [List.getD_eq_getElem?_getD, List.getElem?_eq_getElem h]
  exact List.getElem_mem h
theorem opn_iff {rs : List PRow} : hasOpn rs = true ↔ ∃ i : Nat, i < rs.length ∧ rs.getD i .opn = .opn := by
  unfold hasOpn
  rw [List.any_eq_true]
  constructor
  · rintro ⟨r, hm, hr⟩
    obtain ⟨i, hi, e⟩ := List.mem_iff_getElem.mp hm
    refine ⟨i, hi, ?_⟩
    rw [List.getD_eq_getElem?_getD, List.getElem?_eq_getElem hi]
    show rs[i] = _
    rw [e]
    exact of_decide_eq_true hr
  · rintro ⟨i, hi, e⟩
    exact ⟨.opn, by rw [← e]; exact getD_mem hi, decide_eq_true rfl⟩
theorem best_is {rs : List PRow} {cs : List Int} {b : Option Int} (hs : Small rs) (hc : ∀ z ∈ cs, 0 ≤ z) (hb : Bst rs cs (fun w => w ∈ wayN rs rs.length) b) : b = some (least rs cs).1 := by
  have lf : (falls rs).length = rs.length := by unfold falls; rw [List.length_map]
  have ll : (leaps rs).length = rs.length := by unfold leaps; rw [List.length_map]
  have gf : ∀ i : Nat, i < rs.length → gi (falls rs) i = padF (rs.getD i .opn) := fun i h => gi_map (α := Unit) h
  have gl : ∀ i : Nat, i < rs.length → gi (leaps rs) i = padL (rs.getD i .opn) := fun i h => gi_map (α := Unit) h
  have fin : falls rs ∈ wayN rs rs.length := (way_mem _ _).mpr ⟨lf, fun i hi => by
    rw [gf i hi]
    have := hs.f _ (getD_mem hi)
    cases e : rs.getD i .opn with
    | opn => exact ⟨Int.le_refl _, by show (0 : Int) < 1; decide⟩
    | tab ns => rw [e] at this; exact ⟨this.1, by show _ < (5 : Int); omega⟩
    | blk n => rw [e] at this; exact ⟨this.1, by show _ < (5 : Int); omega⟩⟩
  have fc : calm rs (falls rs) := fun i hi => by
    rw [gf i hi]
    exact decide_eq_true (Int.le_refl _)
  have cmin : ∀ w, calm rs w → price (falls rs) cs ≤ prN w cs rs.length := fun w hw => by
    unfold price
    rw [lf]
    refine prN_mono hc _ fun i hi => ?_
    rw [gf i hi]
    exact of_decide_eq_true (hw i hi)
  have emin : ∀ w, even rs w → hasOpn rs = false ∧ price (leaps rs) cs ≤ prN w cs rs.length := fun w hw => by
    refine ⟨?_, ?_⟩
    · refine Bool.eq_false_iff.mpr fun z => ?_
      obtain ⟨i, hi, e⟩ := opn_iff.mp z
      have a := hw i hi
      rw [e] at a
      cases a
    · unfold price
      rw [ll]
      refine prN_mono hc _ fun i hi => ?_
      rw [gl i hi]
      have a := hw i hi
      cases e : rs.getD i .opn with
      | opn => rw [e] at a; cases a
      | tab ns => rw [e] at a; exact of_decide_eq_true a
      | blk n => rw [e] at a; exact of_decide_eq_true a
  cases b with
  | none => exact absurd (.inl fc) (hb _ fin)
  | some m =>
    obtain ⟨⟨w, hw, hv, hp⟩, hm⟩ := hb
    have a1 := hm _ fin (.inl fc)
    have pf : prN (falls rs) cs rs.length = price (falls rs) cs := by unfold price; rw [lf]
    rw [pf] at a1
    congr 1
    by_cases ho : hasOpn rs = true
    · have e1 : (least rs cs).1 = price (falls rs) cs := by unfold least; rw [if_pos ho]
      rw [e1]
      rcases hv with hv | hv
      · have := cmin w hv
        omega
      · have := (emin w hv).1
        rw [ho] at this
        cases this
    · have lin : leaps rs ∈ wayN rs rs.length := (way_mem _ _).mpr ⟨ll, fun i hi => by
        rw [gl i hi]
        have := hs.l _ (getD_mem hi)
        cases e : rs.getD i .opn with
        | opn => exact absurd (opn_iff.mpr ⟨i, hi, e⟩) ho
        | tab ns => rw [e] at this; exact ⟨this.1, by show _ < (5 : Int); omega⟩
        | blk n => rw [e] at this; exact ⟨this.1, by show _ < (5 : Int); omega⟩⟩
      have le : even rs (leaps rs) := fun i hi => by
        rw [gl i hi]
        cases e : rs.getD i .opn with
        | opn => exact absurd (opn_iff.mpr ⟨i, hi, e⟩) ho
        | tab ns => exact decide_eq_true (Int.le_refl _)
        | blk n => exact decide_eq_true (Int.le_refl _)
      have a2 := hm _ lin (.inr le)
      have pl : prN (leaps rs) cs rs.length = price (leaps rs) cs := by unfold price; rw [ll]
      rw [pl] at a2
      have low : price (falls rs) cs ≤ m ∨ price (leaps rs) cs ≤ m := by
        rcases hv with hv | hv
        · left; rw [← hp]; exact cmin w hv
        · right; rw [← hp]; exact (emin w hv).2
      unfold least
      rw [if_neg ho]
      split
      · show m = price (leaps rs) cs
        omega
      · show m = price (falls rs) cs
        omega
def tag : PRow → Str
  | .tab _ => "table"
  | .blk _ => "block"
  | .opn => "opening"
theorem row_tag {K : PySem.W.Frag} {H : Hp} {v : V} {r : PRow} (h : Dp K H v (rowD r)) : ∃ t rest, v = .ref t ∧ SqT K H t (.str (tag r) :: rest) := by
  cases r with
  | tab ns => obtain ⟨t, a, e, hs, _⟩ := row_tab h; exact ⟨t, _, e, hs⟩
  | blk n => obtain ⟨t, e, hs⟩ := row_blk h; exact ⟨t, _, e, hs⟩
  | opn => obtain ⟨t, e, hs⟩ := row_opn h; exact ⟨t, _, e, hs⟩
theorem tag_lim (r : PRow) : (if tag r = ("opening" : Str) then (1 : Int) else 5) = (lim r : Int) := by
  cases r with
  | tab ns => exact if_neg (by show ¬ ("table" : Str) = "opening"; decide +kernel)
  | blk n => exact if_neg (by show ¬ ("block" : Str) = "opening"; decide +kernel)
  | opn => exact if_pos rfl
def listD (ns : List Int) : PyData := .list (ns.map PyData.int)
def waysD (W : List (List Int)) : PyData := .list (W.map listD)
theorem prN_sum {ps cs : List Int} : ∀ n, ((List.range n).map fun i : Nat => gi cs i * gi ps i).sum = prN ps cs n := by
  intro n
  induction n with
  | zero => rfl
  | succ n ih =>
    rw [List.range_succ, List.map_append, List.sum_append, ih, prN]
    simp [Int.mul_comm]
theorem lim5 (r : PRow) : lim r ≤ 5 := by
  cases r with
  | tab ns => exact Nat.le_refl _
  | blk n => exact Nat.le_refl _
  | opn => show 1 ≤ 5; decide
theorem way_len {rs : List PRow} : ∀ n, (wayN rs n).length ≤ 5 ^ n := by
  intro n
  induction n with
  | zero => exact Nat.le_refl _
  | succ n ih =>
    rw [wayN, Nat.pow_succ]
    have key : ∀ W : List (List Int), (W.flatMap fun w => (List.range (lim (rs.getD n .opn))).map fun p : Nat => w ++ [(p : Int)]).length ≤ W.length * 5 := fun W => by
      induction W with
      | nil => exact Nat.le_refl _
      | cons w W ihw =>
        rw [List.flatMap_cons, List.length_append, List.length_map, List.length_range, List.length_cons]
        have : lim (rs.getD n .opn) ≤ 5 := lim5 _
        omega
    exact Nat.le_trans (key _) (Nat.mul_le_mul_right 5 ih)
end WP
namespace K03
open PySem PySem.Spec PyProof.Rows L2 Evl Lay
section
variable {P : Program} {w : World} {K : PySem.W.Frag} {mg : Str → Option Value} {base : Heap} {CB CT CW CTable CBlock CBadRuler CBadWords CBadBook CBadTold CBadPlan CBadText CBadCommand cL__law_refusals PL__law_refusals : Addr} {tkC tkK tkL : Tok}
def top (i : Nat) : Stmt := PySem.Challenge.pw_comestrue_k03_least_price_among_all_pads.main.body.getD i (.Pass ⟨0, 0, 0, 0⟩)
structure Txt (K : PySem.W.Frag) (mg : Str → Option Value) (CB : Addr) (tkC tkK tkL : Tok) (CBadRuler CBadWords CBadBook CBadTold CBadPlan CBadText CBadCommand : Addr) : Prop where
  n_abs : mg "abs" = none
  n_bool : mg "bool" = none
  n_enumerate : mg "enumerate" = none
  n_int : mg "int" = none
  n_isinstance : mg "isinstance" = none
  n_len : mg "len" = none
  n_list : mg "list" = none
  n_max : mg "max" = none
  n_range : mg "range" = none
  n_sum : mg "sum" = none
  n_tuple : mg "tuple" = none
  g_CELLS : mg "CELLS" = some (.int 64 tkC)
  g_KINDS : mg "KINDS" = some (.int 12 tkK)
  g_LINES : mg "LINES" = some (.int 1000000 tkL)
  g_BadRuler : mg "BadRuler" = some (.ref CBadRuler)
  g_BadWords : mg "BadWords" = some (.ref CBadWords)
  g_BadBook : mg "BadBook" = some (.ref CBadBook)
  g_BadTold : mg "BadTold" = some (.ref CBadTold)
  g_BadPlan : mg "BadPlan" = some (.ref CBadPlan)
  g_BadText : mg "BadText" = some (.ref CBadText)
  g_BadCommand : mg "BadCommand" = some (.ref CBadCommand)
  g_ComesError : mg "ComesError" = some (.ref CB)
  rd_ComesError : ClX.CRead K CB (.type "type")
  vi_ComesError : PySem.W.findCls K (.ref CB) (.type "type") "__init__" = some (.val (.builtin "ValueError.__init__"))
end
end K03
namespace K03
open PySem PySem.Spec PyProof.Rows L2 Evl Lay
section
variable {P : Program} {w : World} {K : PySem.W.Frag} {mg : Str → Option Value} {base : Heap} {CB CT CW CTable CBlock CBadRuler CBadWords CBadBook CBadTold CBadPlan CBadText CBadCommand cL__law_refusals PL__law_refusals : Addr} {tkC tkK tkL : Tok}
def spIsWhole : Sp := fun vs H Q _ => ∃ i : Int, vs = [.int i] ∧ Q (.bl true) H
abbrev s_is_whole : Stmt := top 13
theorem sc_is_whole : FnScope ["value"] ["value"] (defScope s_is_whole) := ⟨rfl, rfl, rfl, by decide +kernel, rfl, by decide +kernel, by decide +kernel⟩
theorem ok_is_whole (T : Txt K mg CB tkC tkK tkL  CBadRuler CBadWords CBadBook CBadTold CBadPlan CBadText CBadCommand) (F : At K mg "is_whole" s_is_whole ["value"]) : Def P w K mg base "is_whole" 1 ["value"] spIsWhole := by
  refine Def.mk' F sc_is_whole (fun vs H Q E h => ?_) (fun f cdv Ar outer s H vs Q E hr h => ⟨_, (pss_one (ps_ret (pe_and (pe_callB (r := rIsi K) call_isi rfl T.n_isinstance (by decide +kernel) (pa_cons (pv 0) (pa_cons (pe_bltn (v := .ty "int") (u := .type "int") rfl T.n_int (by decide +kernel) rfl) pa_nil))) (pe_one (pe_not (pe_callB (r := rIsi K) call_isi rfl T.n_isinstance (by decide +kernel) (pa_cons (pv 0) (pa_cons (pe_bltn (v := .ty "bool") (u := .type "bool") rfl T.n_bool (by decide +kernel) rfl) pa_nil)))))))), ?_⟩)
  · obtain ⟨i, rfl, _⟩ := h
    rfl
  · obtain ⟨i, rfl, q⟩ := h
    walk_at "go0"
    exact q
end
end K03
namespace K03
open PySem PySem.Spec PyProof.Rows L2 Evl Lay
section
variable {P : Program} {w : World} {K : PySem.W.Frag} {mg : Str → Option Value} {base : Heap} {CB CT CW CTable CBlock CBadRuler CBadWords CBadBook CBadTold CBadPlan CBadText CBadCommand cL__law_refusals PL__law_refusals : Addr} {tkC tkK tkL : Tok}
/-! ### the errors' __init__ -/
abbrev s_TooMany___init__ : Stmt := inClass (top 3) 0
theorem sc_TooMany___init__ : FnScope ["self", "what"] ["self", "what"] (defScope s_TooMany___init__) := ⟨rfl, rfl, rfl, by decide +kernel, rfl, by decide +kernel, by decide +kernel⟩
theorem ok_initT {f : Addr} {fd : FuncData} (T : Txt K mg CB tkC tkK tkL  CBadRuler CBadWords CBadBook CBadTold CBadPlan CBadText CBadCommand) (F : Fun K "__init__" "TooMany.__init__" s_TooMany___init__ f fd) (o : OexC K CT) (no : PySem.W.findIn K (.ref CT) "what" = some none) : FnOk P w K mg base (L2.CX P w) 1 f fd ["self", "what"] (spExc K CT "what") := by
  refine F.okX sc_TooMany___init__ (fun vs H Q E h => ?_) (fun cdv Ar outer s H vs Q E hr h => ⟨_, (pss_cons (ps_expr (pe_binit rfl T.g_ComesError T.rd_ComesError T.vi_ComesError (pa_cons (pv 0) (pa_cons (pe_joined (PJ.cons pe_str (PJ.cons (pe_fmt (pv 1)) PJ.nil))) pa_nil))))
      (pss_one (ps_ost (pv 0) (pv 1)))), ?_⟩)
  · obtain ⟨a, v, rfl, _⟩ := h
    rfl
  · obtain ⟨a, v, rfl, tv, ha, q⟩ := h
    exact exc_body (fun R hR => js_c (n := 0) (by decide) (by decide +kernel) fun a1 h1 => js_v tv rfl h1 (by decide +kernel) fun a2 h2 => hR _) rfl rfl o no ha q
abbrev s_BadStyle___init__ : Stmt := inClass (top 5) 0
theorem sc_BadStyle___init__ : FnScope ["self", "name", "what"] ["self", "name", "what"] (defScope s_BadStyle___init__) := ⟨rfl, rfl, rfl, by decide +kernel, rfl, by decide +kernel, by decide +kernel⟩
theorem ok_initW {f : Addr} {fd : FuncData} (T : Txt K mg CB tkC tkK tkL  CBadRuler CBadWords CBadBook CBadTold CBadPlan CBadText CBadCommand) (F : Fun K "__init__" "BadStyle.__init__" s_BadStyle___init__ f fd) (o : OexC K CW) (no : PySem.W.findIn K (.ref CW) "name" = some none) (no2 : PySem.W.findIn K (.ref CW) "what" = some none) : FnOk P w K mg base (L2.CX P w) 1 f fd ["self", "name", "what"] (spExc2 K CW "name" "what") := by
  refine F.okX sc_BadStyle___init__ (fun vs H Q E h => ?_) (fun cdv Ar outer s H vs Q E hr h => ⟨_, (pss_cons (ps_expr (pe_binit rfl T.g_ComesError T.rd_ComesError T.vi_ComesError (pa_cons (pv 0) (pa_cons (pe_joined (PJ.cons pe_str (PJ.cons (pe_fmtR (pv 1)) (PJ.cons pe_str (PJ.cons (pe_fmt (pv 2)) (PJ.cons pe_str PJ.nil)))))) pa_nil))))
      (pss_cons (ps_ost (pv 0) (pv 1))
      (pss_one (ps_ost (pv 0) (pv 2))))), ?_⟩)
  · obtain ⟨a, v1, v2, rfl, _⟩ := h
    rfl
  · obtain ⟨a, v1, v2, rfl, tr, tv, ha, q⟩ := h
    exact exc_body2 (fun R hR => js_c (n := 0) (by decide) (by decide +kernel) fun a1 h1 => js_r rfl tr h1 (by decide +kernel) fun a2 h2 => js_c h2 (by decide +kernel) fun a3 h3 => js_v tv rfl h3 (by decide +kernel) fun a4 h4 => js_c h4 (by decide +kernel) fun a5 h5 => hR _) rfl rfl rfl o no no2 ha q
/-! ### what is refused -/
inductive Er | many (s : Str) | style (s : Str)
def Raised (CT CW : Addr) (e : Er) (H : Hp) (E : XK) : Prop := match e with
  | .many s => ∀ d H2, Ex H H2 → H2 d = some (.xd [("what", .str s)]) → E (.ref CT) (some d) H2
  | .style s => ∀ d H2, Ex H H2 → H2 d = some (.xd [("what", .str s), ("name", .str "")]) → E (.ref CW) (some d) H2
/-- ends with None, or refuses -/
def Outc (CT CW : Addr) (r : Option Er) (H : Hp) (Q : VK) (E : XK) : Prop := match r with
  | none => ∀ H2, Ex H H2 → Q .non H2
  | some e => Raised CT CW e H E
theorem Raised.mono {e : Er} {H H2 : Hp} {E : XK} (r : Raised CT CW e H E) (x : Ex H H2) : Raised CT CW e H2 E := by
  cases e with
  | many s => exact fun d H3 e3 h => r d H3 (x.trans e3) h
  | style s => exact fun d H3 e3 h => r d H3 (x.trans e3) h
theorem Outc.raised {e : Er} {H : Hp} {Q : VK} {E : XK} (q : Outc CT CW (some e) H Q E) : Raised CT CW e H E := q
theorem Outc.mono {r : Option Er} {H H2 : Hp} {Q : VK} {E : XK} (q : Outc CT CW r H Q E) (x : Ex H H2) : Outc CT CW r H2 Q E := by
  cases r with
  | none => exact fun H3 e3 => q H3 (x.trans e3)
  | some e => exact Raised.mono (Outc.raised q) x
/-- ends with some value that is left, or refuses -/
def OutA (CT CW : Addr) (r : Option Er) (H : Hp) (Q : VK) (E : XK) : Prop := match r with
  | none => ∀ v H2, Ex H H2 → Q v H2
  | some e => Raised CT CW e H E
theorem OutA.raised {e : Er} {H : Hp} {Q : VK} {E : XK} (q : OutA CT CW (some e) H Q E) : Raised CT CW e H E := q
end
end K03
namespace K03
open PySem PySem.Spec PyProof.Rows L2 Evl Lay
section
variable {P : Program} {w : World} {K : PySem.W.Frag} {mg : Str → Option Value} {base : Heap} {CB CT CW CTable CBlock CBadRuler CBadWords CBadBook CBadTold CBadPlan CBadText CBadCommand cL__law_refusals PL__law_refusals : Addr} {tkC tkK tkL : Tok}
def ckMost (s : Str) (n m : Int) : Option Er := if m < n then some (.many s) else none
def spMost (CT CW : Addr) : Sp := fun vs H Q E => ∃ (s : Str) (n m : Int), vs = [.str s, .int n, .int m] ∧ s.length ≤ 1000 ∧ Outc CT CW (ckMost s n m) H Q E
abbrev s_check_most : Stmt := top 18
theorem sc_check_most : FnScope ["what", "many", "most"] ["what", "many", "most"] (defScope s_check_most) := ⟨rfl, rfl, rfl, by decide +kernel, rfl, by decide +kernel, by decide +kernel⟩
theorem ok_check_most (T : Txt K mg CB tkC tkK tkL  CBadRuler CBadWords CBadBook CBadTold CBadPlan CBadText CBadCommand) (F : At K mg "check_most" s_check_most ["what", "many", "most"]) (x_TooMany : Exn P w K mg base "TooMany" "what" CT) (d_is_whole : Def P w K mg base "is_whole" 1 ["value"] spIsWhole) :
    Def P w K mg base "check_most" 3 ["what", "many", "most"] (spMost CT CW) := by
  refine Def.mk' F sc_check_most (fun vs H Q E h => ?_) (fun f cdv Ar outer s H vs Q E hr h => ⟨_, (pss_one (ps_if (PW.pt (pw_and (pt_val (pe_d d_is_whole (hr.mono (by decide)) (passes_call (takes_of rfl rfl rfl rfl) (fun _ _ _ _ h => h)) (pa_cons (pv 1) pa_nil))) (pw_and1 (pt_cmpR op_gt (pv 1) (pv 2) (nomark _))))) (pss_one (ps_raiseE x_TooMany rfl (hr.mono (by decide)) (takes_of rfl rfl rfl rfl) (pv 0))) pss_nil)), ?_⟩)
  · obtain ⟨s, n, m, rfl, _⟩ := h
    rfl
  · obtain ⟨s, n, m, rfl, hs, q⟩ := h
    walk_at "go0"
    refine ⟨n, rfl, ?_⟩
    walk_at "go"
    refine r_ite (fun c => ?_) (fun c => ?_)
    · walk_at "go"
      unfold ckMost at q
      rw [if_pos c] at q
      exact ⟨hs, q⟩
    · walk_at "go"
      unfold ckMost at q
      rw [if_neg c] at q
      exact q H (Ex.refl H)
def ckNums (s : Str) (ns : List Int) (m : Int) : Option Er := if ns.any (fun n => decide (m < n)) then some (.many s) else none
theorem ckNums_take {s : Str} {ns : List Int} {m z : Int} {i : Nat} (h : ns[i]? = some z) (c : m < z) : ckNums s ns m = some (.many s) := by
  unfold ckNums
  rw [if_pos]
  exact List.any_eq_true.mpr ⟨z, List.mem_of_getElem? h, decide_eq_true c⟩
def spNums (K : PySem.W.Frag) (CT CW : Addr) : Sp := fun vs H Q E => ∃ (s : Str) (a : Addr) (ns : List Int) (m : Int), vs = [.str s, .ref a, .int m] ∧ s.length ≤ 1000 ∧ SqL K H a (ns.map V.int) ∧ Outc CT CW (ckNums s ns m) H Q E
abbrev s_check_numbers : Stmt := top 19
theorem sc_check_numbers : FnScope ["what", "numbers", "most", "number"] ["what", "numbers", "most"] (defScope s_check_numbers) := ⟨rfl, rfl, rfl, by decide +kernel, rfl, by decide +kernel, by decide +kernel⟩
theorem ok_check_numbers (T : Txt K mg CB tkC tkK tkL  CBadRuler CBadWords CBadBook CBadTold CBadPlan CBadText CBadCommand) (F : At K mg "check_numbers" s_check_numbers ["what", "numbers", "most"]) (d_check_most : Def P w K mg base "check_most" 3 ["what", "many", "most"] (spMost CT CW)) :
    Def P w K mg base "check_numbers" 4 ["what", "numbers", "most"] (spNums K CT CW) := by
  refine Def.mk' F sc_check_numbers (fun vs H Q E h => ?_) (fun f cdv Ar outer s H vs Q E hr h => ⟨_, (pss_one (ps_for (passes_of rfl) rfl (pi_list (pv 1)) (pg_name (i := 3) sc_check_numbers.nd rfl (Or.inl rfl)) (pss_one (ps_expr (pe_d d_check_most (hr.mono (by decide)) (passes_call (takes_of rfl rfl rfl rfl) (fun _ _ _ _ h => h)) (pa_cons (pv 0) (pa_cons (pv 3) (pa_cons (pv 2) pa_nil)))))))), ?_⟩)
  · obtain ⟨s, a, ns, m, rfl, _⟩ := h
    rfl
  · obtain ⟨s, a, ns, m, rfl, hs, ha, q⟩ := h
    walk_at "go0"
    refine forI ha (fun i σ' H' => (∃ v, σ' = [some (.str s), some (.ref a), some (.int m), v]) ∧ Ex H H' ∧ ∀ (j : Nat) (z : Int), j < i → ns[j]? = some z → ¬ m < z) ?_ ?_ ?_ ?_
    · exact ⟨⟨none, rfl⟩, Ex.refl H, fun j z hj => absurd hj (Nat.not_lt_zero _)⟩
    · intro i σ' H' _ ⟨_, e, _⟩
      walk_at "sq"
    · rintro i z σ' H' hz ⟨⟨v, rfl⟩, e, hn⟩
      walk_at "go"
      refine ⟨s, z, m, rfl, hs, ?_⟩
      unfold ckMost
      by_cases c : m < z
      · rw [if_pos c]
        rw [ckNums_take hz c] at q
        exact Raised.mono (Outc.raised q) e
      · rw [if_neg c]
        intro H2 e2
        refine ⟨⟨_, rfl⟩, e.trans e2, fun j y hj hy => ?_⟩
        by_cases hji : j = i
        · rw [hji, hz] at hy
          cases hy
          exact c
        · exact hn j y (by omega) hy
    · rintro σ' H' ⟨_, e, hn⟩
      have hc : ckNums s ns m = none := by
        unfold ckNums
        rw [if_neg]
        intro hany
        obtain ⟨z, hz, hd⟩ := List.any_eq_true.mp hany
        obtain ⟨j, hj⟩ := List.getElem?_of_mem hz
        exact hn j z (List.getElem?_eq_some_iff.mp hj).1 hj (of_decide_eq_true hd)
      rw [hc] at q
      walk_at "go"
      exact q H' e
end
end K03
namespace K03
open PySem PySem.Spec PyProof.Rows L2 Evl Lay
section
variable {P : Program} {w : World} {K : PySem.W.Frag} {mg : Str → Option Value} {base : Heap} {CB CT CW CTable CBlock CBadRuler CBadWords CBadBook CBadTold CBadPlan CBadText CBadCommand cL__law_refusals PL__law_refusals : Addr} {tkC tkK tkL : Tok}
/-! ### bounds that hold -/
def spMost0 : Sp := fun vs H Q _ => ∃ (s : Str) (n m : Int), vs = [.str s, .int n, .int m] ∧ n ≤ m ∧ Q .non H
theorem ok_check_most0 (T : Txt K mg CB tkC tkK tkL  CBadRuler CBadWords CBadBook CBadTold CBadPlan CBadText CBadCommand) (F : At K mg "check_most" s_check_most ["what", "many", "most"]) (d_is_whole : Def P w K mg base "is_whole" 1 ["value"] spIsWhole) :
    Def P w K mg base "check_most" 2 ["what", "many", "most"] spMost0 := by
  refine Def.mk' F sc_check_most (fun vs H Q E h => ?_) (fun f cdv Ar outer s H vs Q E hr h => ⟨_, (pss_one (ps_if (PW.pt (pw_and (pt_val (pe_d d_is_whole (hr.mono (by decide)) (passes_call (takes_of rfl rfl rfl rfl) (fun _ _ _ _ h => h)) (pa_cons (pv 1) pa_nil))) (pw_and1 (pt_cmpR op_gt (pv 1) (pv 2) (nomark _))))) (pss_one ps_dead) pss_nil)), ?_⟩)
  · obtain ⟨s, n, m, rfl, _⟩ := h
    rfl
  · obtain ⟨s, n, m, rfl, hs, q⟩ := h
    walk_at "go0"
    refine ⟨n, rfl, ?_⟩
    walk_at "go"
    refine r_no (by omega) ?_
    walk_at "go"
    exact q
def spNums0 (K : PySem.W.Frag) : Sp := fun vs H Q _ => ∃ (s : Str) (a : Addr) (ns : List Int) (m : Int), vs = [.str s, .ref a, .int m] ∧ SqL K H a (ns.map V.int) ∧ (∀ z ∈ ns, z ≤ m) ∧ Q .non H
theorem ok_check_numbers0 (T : Txt K mg CB tkC tkK tkL  CBadRuler CBadWords CBadBook CBadTold CBadPlan CBadText CBadCommand) (F : At K mg "check_numbers" s_check_numbers ["what", "numbers", "most"]) (d_check_most0 : Def P w K mg base "check_most" 2 ["what", "many", "most"] spMost0) :
    Def P w K mg base "check_numbers" 3 ["what", "numbers", "most"] (spNums0 K) := by
  refine Def.mk' F sc_check_numbers (fun vs H Q E h => ?_) (fun f cdv Ar outer s H vs Q E hr h => ⟨_, (pss_one (ps_for (passes_of rfl) rfl (pi_list (pv 1)) (pg_name (i := 3) sc_check_numbers.nd rfl (Or.inl rfl)) (pss_one (ps_expr (pe_d d_check_most0 (hr.mono (by decide)) (passes_call (takes_of rfl rfl rfl rfl) (fun _ _ _ _ h => h)) (pa_cons (pv 0) (pa_cons (pv 3) (pa_cons (pv 2) pa_nil)))))))), ?_⟩)
  · obtain ⟨s, a, ns, m, rfl, _⟩ := h
    rfl
  · obtain ⟨s, a, ns, m, rfl, ha, hm, q⟩ := h
    walk_at "go0"
    refine forI ha (fun i σ' H' => (∃ v, σ' = [some (.str s), some (.ref a), some (.int m), v]) ∧ H' = H) ⟨⟨_, rfl⟩, rfl⟩ ?_ ?_ ?_
    · rintro i σ' H' _ ⟨_, rfl⟩
      exact ha
    · rintro i z σ' H' hz ⟨⟨v, rfl⟩, rfl⟩
      walk_at "go"
      refine ⟨s, z, m, rfl, hm z (List.mem_of_getElem? hz), ?_⟩
      walk_at "go"
      exact ⟨⟨_, rfl⟩, rfl⟩
    · rintro σ' H' ⟨⟨v, rfl⟩, rfl⟩
      walk_at "go"
      exact q
def spNumsT (K : PySem.W.Frag) : Sp := fun vs H Q _ => ∃ (s : Str) (a : Addr) (ns : List Int) (m : Int), vs = [.str s, .ref a, .int m] ∧ SqT K H a (ns.map V.int) ∧ (∀ z ∈ ns, z ≤ m) ∧ Q .non H
theorem ok_check_numbersT (T : Txt K mg CB tkC tkK tkL  CBadRuler CBadWords CBadBook CBadTold CBadPlan CBadText CBadCommand) (F : At K mg "check_numbers" s_check_numbers ["what", "numbers", "most"]) (d_check_most0 : Def P w K mg base "check_most" 2 ["what", "many", "most"] spMost0) :
    Def P w K mg base "check_numbers" 3 ["what", "numbers", "most"] (spNumsT K) := by
  refine Def.mk' F sc_check_numbers (fun vs H Q E h => ?_) (fun f cdv Ar outer s H vs Q E hr h => ⟨_, (pss_one (ps_for (passes_of rfl) rfl (pi_tup (pv 1)) (pg_name (i := 3) sc_check_numbers.nd rfl (Or.inl rfl)) (pss_one (ps_expr (pe_d d_check_most0 (hr.mono (by decide)) (passes_call (takes_of rfl rfl rfl rfl) (fun _ _ _ _ h => h)) (pa_cons (pv 0) (pa_cons (pv 3) (pa_cons (pv 2) pa_nil)))))))), ?_⟩)
  · obtain ⟨s, a, ns, m, rfl, _⟩ := h
    rfl
  · obtain ⟨s, a, ns, m, rfl, ha, hm, q⟩ := h
    walk_at "go0"
    refine forT ha (fun i σ' H' => (∃ v, σ' = [some (.str s), some (.ref a), some (.int m), v]) ∧ H' = H) ⟨⟨_, rfl⟩, rfl⟩ ?_ ?_ ?_
    · rintro i σ' H' _ ⟨_, rfl⟩
      exact ha
    · rintro i z σ' H' hz ⟨⟨v, rfl⟩, rfl⟩
      obtain ⟨hi, rfl⟩ := int_at hz
      walk_at "go"
      refine ⟨s, _, m, rfl, hm _ (List.getElem_mem hi), ?_⟩
      walk_at "go"
      exact ⟨⟨_, rfl⟩, rfl⟩
    · rintro σ' H' ⟨⟨v, rfl⟩, rfl⟩
      walk_at "go"
      exact q
end
end K03
namespace K03
open PySem PySem.Spec PyProof.Rows L2 Evl Lay
section
variable {P : Program} {w : World} {K : PySem.W.Frag} {mg : Str → Option Value} {base : Heap} {CB CT CW CTable CBlock CBadRuler CBadWords CBadBook CBadTold CBadPlan CBadText CBadCommand cL__law_refusals PL__law_refusals : Addr} {tkC tkK tkL : Tok}
/-! ### tables -/
def TabAt (K : PySem.W.Frag) (CTable : Addr) (H : Hp) (x : Addr) (sp : Prs) : Prop := ∃ dx sl ps fr, H x = some (.ins CTable dx [("span_rows", .ref sl), ("free_lines", .int fr)]) ∧ PrL K H sl ps sp ∧ H sl = some (.lst (ps.map V.ref))
theorem TabAt.ex {K : PySem.W.Frag} {CTable : Addr} {H H2 : Hp} {x : Addr} {sp : Prs} (h : TabAt K CTable H x sp) (e : Ex H H2) : TabAt K CTable H2 x sp := by
  obtain ⟨dx, sl, ps, fr, h1, h2, h3⟩ := h
  exact ⟨dx, sl, ps, fr, e _ _ h1, h2.ex e, e _ _ h3⟩
def spTable (K : PySem.W.Frag) (CTable : Addr) : Sp := fun vs H Q _ => ∃ (x a dx : Addr) (fr : Int) (ps : List Addr) (sp : Prs), vs = [.ref x, .ref a, .int fr] ∧ H x = some (.ins CTable dx []) ∧ PrL K H a ps sp ∧ WK.Ok sp ∧
  (∀ i : Int, 0 ≤ i → i < sp.length → zl sp i ≤ 1000000 ∧ zh sp i ≤ 1000000) ∧ 2 ≤ sp.length ∧ sp.length ≤ 64 ∧ 0 ≤ fr ∧ fr ≤ 1000000 ∧ ∀ H2, ExB x H H2 → TabAt K CTable H2 x sp → Q .non H2
abbrev s_Table___init__ : Stmt := inClass (top 22) 0
theorem sc_Table___init__ : FnScope ["self", "spans", "free", "span", "low", "high"] ["self", "spans", "free"] (defScope s_Table___init__) := ⟨rfl, rfl, rfl, by decide +kernel, rfl, by decide +kernel, by decide +kernel⟩
theorem ok_Table_init (T : Txt K mg CB tkC tkK tkL  CBadRuler CBadWords CBadBook CBadTold CBadPlan CBadText CBadCommand) (F : AtID K mg "Table" CTable "Table.__init__" s_Table___init__ ["self", "spans", "free"] [.int 0]) (o_Table : OC K mg "Table" CTable ["span_rows", "free_lines"])
    (d_check_most0 : Def P w K mg base "check_most" 2 ["what", "many", "most"] spMost0) (d_check_numbersT : Def P w K mg base "check_numbers" 3 ["what", "numbers", "most"] (spNumsT K)) :
    DID P w K mg base "Table" CTable 4 ["self", "spans", "free"] [.int 0] (spTable K CTable) := by
  refine DI.dflt F sc_Table___init__ (fun vs H Q E h => ?_) (fun f cdv Ar outer s H vs Q E hr h => ⟨_, (pss_cons (ps_expr (pe_d d_check_most0 (hr.mono (by decide)) (passes_call (takes_of rfl rfl rfl rfl) (fun _ _ _ _ h => h)) (pa_cons pe_str (pa_cons (pe_callB (r := Lay.rLen K) c_len rfl T.n_len PySem.boot_len (pa_cons (pv 1) pa_nil)) (pa_cons (pe_glob (v := .int 64) rfl T.g_CELLS ⟨_, rfl⟩) pa_nil)))))
      (pss_cons (ps_for (passes_of rfl) rfl (pi_list (pv 1)) (pg_name (i := 3) sc_Table___init__.nd rfl (Or.inl rfl)) (pss_one (ps_expr (pe_d d_check_numbersT (hr.mono (by decide)) (passes_call (takes_of rfl rfl rfl rfl) (fun _ _ _ _ h => h)) (pa_cons pe_str (pa_cons (pv 3) (pa_cons (pe_glob (v := .int 1000000) rfl T.g_LINES ⟨_, rfl⟩) pa_nil)))))))
      (pss_cons (ps_expr (pe_d d_check_most0 (hr.mono (by decide)) (passes_call (takes_of rfl rfl rfl rfl) (fun _ _ _ _ h => h)) (pa_cons pe_str (pa_cons (pv 2) (pa_cons (pe_glob (v := .int 1000000) rfl T.g_LINES ⟨_, rfl⟩) pa_nil)))))
      (pss_cons (ps_if (pt_cmpR op_lt (pe_callB (r := Lay.rLen K) c_len rfl T.n_len PySem.boot_len (pa_cons (pv 1) pa_nil)) pe_int (nomark _)) (pss_one ps_dead) pss_nil)
      (pss_cons (ps_for (passes_of rfl) rfl (pi_list (pv 1)) (pg_tup (n := 2) rfl (pgs_cons (pg_name (i := 4) sc_Table___init__.nd rfl (Or.inl rfl)) (pgs_cons (pg_name (i := 5) sc_Table___init__.nd rfl (Or.inl rfl)) pgs_nil))) (pss_one (ps_if (pt_not (pt_chain op_le op_le pe_int (pv 4) (pv 5))) (pss_one ps_dead) pss_nil)))
      (pss_cons (ps_if (pt_cmpR op_lt (pv 2) pe_int (nomark _)) (pss_one ps_dead) pss_nil)
      (pss_cons (ps_fld (pv 0) (pe_lc (own := [("low", 4), ("high", 5)]) (g := (gTup K 2 (gCons (gName 4) (gCons (gName 5) gNil)))) (tt := tYes) rfl sc_Table___init__.nd (pi_list (pv 1)) (blkOk_by (own := [("low", 4), ("high", 5)]) (N := ["self", "spans", "free", "span", "low", "high"]) (sc := defScope s_Table___init__) (by decide +kernel)) (fun _ _ _ _ _ => (pg_tup (n := 2) rfl (pgs_cons (pg_name (i := 4) sc_Table___init__.nd rfl (Or.inl rfl)) (pgs_cons (pg_name (i := 5) sc_Table___init__.nd rfl (Or.inl rfl)) pgs_nil)))) (fun _ _ _ _ _ => pts_nil) (fun _ _ _ _ _ => (pe_tup (pa_cons (pv 4) (pa_cons (pv 5) pa_nil))))) rfl)
      (pss_one (ps_fld (pv 0) (pv 2) rfl))))))))), ?_⟩)
  · obtain ⟨x, a, dx, fr, ps, sp, rfl, _⟩ := h
    rfl
  · obtain ⟨x, a, dx, fr, ps, sp, rfl, hx, ha, ho, hb, h2, h64, f0, f1, q⟩ := h
    walk_at "go0"
    refine ⟨"cells", _, 64, rfl, by omega, ?_⟩
    walk_at "go"
    refine forP ha (fun i s h => (∃ v, s = [some (.ref x), some (.ref a), some (.int fr), v, none, none]) ∧ h = H) ⟨⟨_, rfl⟩, rfl⟩ ?_ ?_ ?_
    · rintro i s h _ ⟨_, rfl⟩
      exact ha.1
    · rintro i s h hi ⟨⟨v, rfl⟩, rfl⟩
      have hp := ha.2.2 i (by omega) (by omega)
      have b := hb i (by omega) (by omega)
      walk_at "go"
      refine ⟨"lines", _, [zl sp i, zh sp i], 1000000, rfl, L2.SqT.of hp, ?_, ?_⟩
      · intro z hz
        rcases List.mem_cons.mp hz with r | hz
        · rw [r]; exact b.1
        · rcases List.mem_cons.mp hz with r | hz
          · rw [r]; exact b.2
          · exact (List.not_mem_nil hz).elim
      walk_at "go"
      exact ⟨⟨_, rfl⟩, rfl⟩
    rintro s h ⟨⟨v, rfl⟩, rfl⟩
    walk_at "go"
    refine ⟨"lines", _, 1000000, rfl, f1, ?_⟩
    walk_at "go"
    refine r_no (by omega) ?_
    walk_at "go"
    refine forP ha (fun i s h2 => (∃ v v1 v2, s = [some (.ref x), some (.ref a), some (.int fr), v, v1, v2]) ∧ h2 = h) ⟨⟨_, _, _, rfl⟩, rfl⟩ ?_ ?_ ?_
    · rintro i s h _ ⟨_, rfl⟩
      exact ha.1
    · rintro i s h hi ⟨⟨v, v1, v2, rfl⟩, rfl⟩
      have hp := ha.2.2 i (by omega) (by omega)
      have o := ho i (by omega) (by omega)
      walk_at "go"
      refine r_yes o.1 ?_
      walk_at "go"
      rw [decide_eq_true o.2]
      walk_at "go"
      exact ⟨⟨_, _, _, rfl⟩, rfl⟩
    rintro s h2 ⟨⟨v, v1, v2, rfl⟩, rfl⟩
    walk_at "go"
    refine r_no (by omega) ?_
    walk_at "go"
    refine lcP ha (fun p i h => ∃ qs : List Addr, h p = some (.lst (qs.map V.ref)) ∧ qs.length = i ∧ (∀ j : Int, 0 ≤ j → j < i → h (ga qs j) = some (.tup [.int (zl sp j), .int (zh sp j)])) ∧ Ex h2 h ∧ h2 p = none) ?_ ?_ ?_ ?_
    · exact fun p h n e hp => ⟨[], hp, rfl, fun j a b => absurd b (by omega), e, n⟩
    · rintro p i h _ ⟨qs, _, _, _, e, _⟩
      exact ex_l e ha.1
    · rintro p i h hi ⟨qs, hp, hq, ht, e, n⟩
      have hg := e _ _ (ha.2.2 i (by omega) (by omega))
      walk_at "go"
      refine r_yesC rfl ?_
      walk_at "go"
      refine r_newT (len3 rfl) fun t H2 nt et hT => ?_
      refine appW (et _ _ hp) (by rw [List.length_map]; omega) fun H5 e5 h5 => ?_
      have np : t ≠ p := by walk_at "ne"
      refine ⟨qs ++ [t], by rw [List.map_append]; exact h5, by rw [List.length_append, hq]; rfl, fun j j0 j1 => ?_, ExB.ex (e.trans et) e5 n, n⟩
      by_cases c : j < i
      · rw [ga_snoc j0 (by omega)]
        have z := et _ _ (ht j j0 c)
        exact e5 _ _ (fun y => by rw [y, et _ _ hp] at z; cases z) z
      · rw [ga_last (by omega)]
        have ej : j = (i : Int) := by omega
        rw [ej]
        exact e5 _ _ np hT
    · rintro p h ⟨qs, hp, hq, ht, e, n⟩
      walk_at "go"
      refine r_rfst (e _ _ hx) o_Table (by decide) (by decide) fun H2 e2 hx2 => ?_
      walk_at "go"
      refine r_rfst hx2 o_Table (by decide) (Nat.le_of_ble_eq_true rfl) fun H3 e3 hx3 => ?_
      have npx : p ≠ x := by walk_at "ne"
      have hx1 := e _ _ hx
      have P : PrL K h p qs sp := ⟨L2.SqL.of hp, hq, ht⟩
      have P2 := (P.exb e2 npx (fun xs z => by rw [hx1] at z; cases z)).exb e3 npx (fun xs z => by rw [hx2] at z; cases z)
      refine r_next (q H3 (by walk_at "ex") ⟨dx, p, qs, fr, hx3, P2, ?_⟩)
      exact exb_at e3 npx (exb_at e2 npx hp)
end
end K03
namespace K03
open PySem PySem.Spec PyProof.Rows L2 Evl Lay
section
variable {P : Program} {w : World} {K : PySem.W.Frag} {mg : Str → Option Value} {base : Heap} {CB CT CW CTable CBlock CBadRuler CBadWords CBadBook CBadTold CBadPlan CBadText CBadCommand cL__law_refusals PL__law_refusals : Addr} {tkC tkK tkL : Tok}
/-! ### blocks -/
def ckBlock (n : Int) : Option Er := if 1000000 < n then some (.many "lines") else if n < 1 then some (.style "block") else none
def spBlock (CT CW CBlock : Addr) : Sp := fun vs H Q E => ∃ (x dx : Addr) (n : Int), vs = [.ref x, .int n, .int 0] ∧ H x = some (.ins CBlock dx []) ∧ (match ckBlock n with
  | none => ∀ H2, ExB x H H2 → Q .non H2
  | some e => Raised CT CW e H E)
abbrev s_Block___init__ : Stmt := inClass (top 23) 0
theorem sc_Block___init__ : FnScope ["self", "lines", "pad"] ["self", "lines", "pad"] (defScope s_Block___init__) := ⟨rfl, rfl, rfl, by decide +kernel, rfl, by decide +kernel, by decide +kernel⟩
theorem ok_Block_init (T : Txt K mg CB tkC tkK tkL  CBadRuler CBadWords CBadBook CBadTold CBadPlan CBadText CBadCommand) (F : AtI K mg "Block" CBlock "Block.__init__" s_Block___init__ ["self", "lines", "pad"]) (o_Block : OC K mg "Block" CBlock ["line_many", "pad_lines"]) (x_BadStyle : Exn2 P w K mg base "BadStyle" "name" "what" CW)
    (d_check_numbers : Def P w K mg base "check_numbers" 4 ["what", "numbers", "most"] (spNums K CT CW)) : DI P w K mg base "Block" CBlock 5 ["self", "lines", "pad"] (spBlock CT CW CBlock) := by
  refine DI.mk' F sc_Block___init__ (fun vs H Q E h => ?_) (fun f cdv Ar outer s H vs Q E hr h => ⟨_, (pss_cons (ps_expr (pe_d d_check_numbers (hr.mono (by decide)) (passes_call (takes_of rfl rfl rfl rfl) (fun _ _ _ _ h => h)) (pa_cons pe_str (pa_cons (pe_lst (pa_cons (pv 1) (pa_cons (pv 2) pa_nil))) (pa_cons (pe_glob (v := .int 1000000) rfl T.g_LINES ⟨_, rfl⟩) pa_nil)))))
      (pss_cons (ps_if (pt_cmpR op_lt (pv 1) pe_int (nomark _)) (pss_one (ps_raiseE2 x_BadStyle rfl (hr.mono (by decide)) (takes_of rfl rfl rfl rfl) pe_str pe_str)) pss_nil)
      (pss_cons (ps_if (pt_cmpR op_lt (pv 2) pe_int (nomark _)) (pss_one (ps_raiseE2 x_BadStyle rfl (hr.mono (by decide)) (takes_of rfl rfl rfl rfl) pe_str pe_str)) pss_nil)
      (pss_cons (ps_fld (pv 0) (pv 1) rfl)
      (pss_one (ps_fld (pv 0) (pv 2) rfl)))))), ?_⟩)
  · obtain ⟨x, dx, n, rfl, _⟩ := h
    rfl
  · obtain ⟨x, dx, n, rfl, hx, q⟩ := h
    walk_at "go0"
    refine r_newI2 fun l H1 nl e1 hl => ?_
    walk_at "go"
    refine ⟨"lines", l, [n, 0], 1000000, rfl, by decide +kernel, L2.SqL.of hl, ?_⟩
    by_cases c : 1000000 < n
    · have z : ckNums "lines" [n, 0] 1000000 = some (.many "lines") := by unfold ckNums; rw [if_pos (by simp [c])]
      have zb : ckBlock n = some (.many "lines") := by unfold ckBlock; rw [if_pos c]
      rw [zb] at q
      rw [z]
      exact Raised.mono q e1
    have z : ckNums "lines" [n, 0] 1000000 = none := by unfold ckNums; rw [if_neg (by simp [c])]
    rw [z]
    intro H2 e2
    have e12 := e1.trans e2
    walk_at "go"
    refine r_ite (fun c2 => ?_) (fun c2 => ?_)
    · have zb : ckBlock n = some (.style "block") := by unfold ckBlock; rw [if_neg c, if_pos c2]
      rw [zb] at q
      refine r_raise2 ?_
      walk_at "go"
      exact ⟨rfl, (show ("block" : Str).length ≤ 1000 by decide +kernel), Raised.mono q e12⟩
    have zb : ckBlock n = none := by unfold ckBlock; rw [if_neg c, if_neg c2]
    rw [zb] at q
    walk_at "go"
    refine r_no (by omega) ?_
    walk_at "go"
    refine r_rfst (e12 _ _ hx) o_Block (by decide) (by decide) fun H3 e3 hx3 => ?_
    walk_at "go"
    refine r_rfst hx3 o_Block (by decide) (Nat.le_of_ble_eq_true rfl) fun H4 e4 hx4 => ?_
    exact r_next (q H4 (by walk_at "ex"))
end
end K03
namespace K03
open PySem PySem.Spec PyProof.Rows L2 Evl Lay
section
variable {P : Program} {w : World} {K : PySem.W.Frag} {mg : Str → Option Value} {base : Heap} {CB CT CW CTable CBlock CBadRuler CBadWords CBadBook CBadTold CBadPlan CBadText CBadCommand cL__law_refusals PL__law_refusals : Addr} {tkC tkK tkL : Tok}
/-! ### plain tables -/
def ckPlain (ns : List Int) : Option Er := if 64 < ns.length then some (.many "cells") else if ns.any (fun n => decide (1000000 < n)) then some (.many "lines") else if ns.length < 2 then some (.style "cells") else if ns.any (fun n => decide (n < 0)) then some (.style "span") else none
def spPlain (K : PySem.W.Frag) (CT CW : Addr) : Sp := fun vs H Q E => ∃ (a : Addr) (ns : List Int), vs = [.ref a, .int 0] ∧ SqL K H a (ns.map V.int) ∧ OutA CT CW (ckPlain ns) H Q E
abbrev s_plain_table : Stmt := top 21
theorem sc_plain_table : FnScope ["lengths", "pad", "length"] ["lengths", "pad"] (defScope s_plain_table) := ⟨rfl, rfl, rfl, by decide +kernel, rfl, by decide +kernel, by decide +kernel⟩
theorem ok_plain (T : Txt K mg CB tkC tkK tkL  CBadRuler CBadWords CBadBook CBadTold CBadPlan CBadText CBadCommand) (F : At K mg "plain_table" s_plain_table ["lengths", "pad"]) (x_BadStyle : Exn2 P w K mg base "BadStyle" "name" "what" CW)
    (d_check_most : Def P w K mg base "check_most" 3 ["what", "many", "most"] (spMost CT CW)) (d_check_numbers : Def P w K mg base "check_numbers" 4 ["what", "numbers", "most"] (spNums K CT CW))
    (d_Table : DID P w K mg base "Table" CTable 4 ["self", "spans", "free"] [.int 0] (spTable K CTable)) : Def P w K mg base "plain_table" 6 ["lengths", "pad"] (spPlain K CT CW) := by
  refine Def.mk' F sc_plain_table (fun vs H Q E h => ?_) (fun f cdv Ar outer s H vs Q E hr h => ⟨_, (pss_cons (ps_expr (pe_d d_check_most (hr.mono (by decide)) (passes_call (takes_of rfl rfl rfl rfl) (fun _ _ _ _ h => h)) (pa_cons pe_str (pa_cons (pe_callB (r := Lay.rLen K) c_len rfl T.n_len PySem.boot_len (pa_cons (pv 0) pa_nil)) (pa_cons (pe_glob (v := .int 64) rfl T.g_CELLS ⟨_, rfl⟩) pa_nil)))))
      (pss_cons (ps_expr (pe_d d_check_numbers (hr.mono (by decide)) (passes_call (takes_of rfl rfl rfl rfl) (fun _ _ _ _ h => h)) (pa_cons pe_str (pa_cons (pv 0) (pa_cons (pe_glob (v := .int 1000000) rfl T.g_LINES ⟨_, rfl⟩) pa_nil)))))
      (pss_cons (ps_expr (pe_d d_check_most (hr.mono (by decide)) (passes_call (takes_of rfl rfl rfl rfl) (fun _ _ _ _ h => h)) (pa_cons pe_str (pa_cons (pv 1) (pa_cons (pe_glob (v := .int 1000000) rfl T.g_LINES ⟨_, rfl⟩) pa_nil)))))
      (pss_cons (ps_expr (pe_d d_check_numbers (hr.mono (by decide)) (passes_call (takes_of rfl rfl rfl rfl) (fun _ _ _ _ h => h)) (pa_cons pe_str (pa_cons (pe_lc (own := [("length", 2)]) (g := gName 2) (tt := tYes) rfl sc_plain_table.nd (pi_list (pv 0)) (blkOk_by (own := [("length", 2)]) (N := ["lengths", "pad", "length"]) (sc := defScope s_plain_table) (by decide +kernel)) (fun _ _ _ _ _ => (pg_name (i := 2) sc_plain_table.nd rfl (Or.inl rfl))) (fun _ _ _ _ _ => pts_nil) (fun _ _ _ _ _ => (pe_op op_add (pv 2) (pv 1)))) (pa_cons (pe_glob (v := .int 1000000) rfl T.g_LINES ⟨_, rfl⟩) pa_nil)))))
      (pss_cons (ps_if (pt_cmpR op_lt (pe_callB (r := Lay.rLen K) c_len rfl T.n_len PySem.boot_len (pa_cons (pv 0) pa_nil)) pe_int (nomark _)) (pss_one (ps_raiseE2 x_BadStyle rfl (hr.mono (by decide)) (takes_of rfl rfl rfl rfl) pe_str pe_str)) pss_nil)
      (pss_cons (ps_for (passes_of rfl) rfl (pi_list (pv 0)) (pg_name (i := 2) sc_plain_table.nd rfl (Or.inl rfl)) (pss_one (ps_if (pt_cmpR op_lt (pv 2) pe_int (nomark _)) (pss_one (ps_raiseE2 x_BadStyle rfl (hr.mono (by decide)) (takes_of rfl rfl rfl rfl) pe_str pe_str)) pss_nil)))
      (pss_cons (ps_if (pt_cmpR op_lt (pv 1) pe_int (nomark _)) (pss_one (ps_raiseE2 x_BadStyle rfl (hr.mono (by decide)) (takes_of rfl rfl rfl rfl) pe_str pe_str)) pss_nil)
      (pss_one (ps_ret (pe_mkDD d_Table (hr.mono (by decide)) (passes_call (takes_of rfl rfl rfl rfl) (fun _ _ _ _ h => h)) (pa_cons (pe_lc (own := [("length", 2)]) (g := gName 2) (tt := tYes) rfl sc_plain_table.nd (pi_list (pv 0)) (blkOk_by (own := [("length", 2)]) (N := ["lengths", "pad", "length"]) (sc := defScope s_plain_table) (by decide +kernel)) (fun _ _ _ _ _ => (pg_name (i := 2) sc_plain_table.nd rfl (Or.inl rfl))) (fun _ _ _ _ _ => pts_nil) (fun _ _ _ _ _ => (pe_tup (pa_cons (pv 2) (pa_cons (pe_op op_add (pv 2) (pv 1)) pa_nil))))) pa_nil))))))))))), ?_⟩)
  · obtain ⟨a, ns, rfl, _⟩ := h
    rfl
  · obtain ⟨a, ns, rfl, ha, q⟩ := h
    walk_at "go0"
    refine ⟨"cells", _, 64, rfl, by decide +kernel, ?_⟩
    by_cases c1 : 64 < ns.length
    · have z : ckMost "cells" ns.length 64 = some (.many "cells") := by unfold ckMost; rw [if_pos (by omega)]
      have zp : ckPlain ns = some (.many "cells") := by unfold ckPlain; rw [if_pos c1]
      rw [zp] at q
      rw [z]
      exact q
    have z : ckMost "cells" ns.length 64 = none := by unfold ckMost; rw [if_neg (by omega)]
    rw [z]
    intro H1 e1
    have ha1 := ex_l e1 ha
    walk_at "go"
    refine ⟨"lines", a, ns, 1000000, rfl, by decide +kernel, ha1, ?_⟩
    by_cases c2 : ns.any (fun n => decide (1000000 < n)) = true
    · have zp : ckPlain ns = some (.many "lines") := by unfold ckPlain; rw [if_neg c1, if_pos c2]
      have z : ckNums "lines" ns 1000000 = some (.many "lines") := by unfold ckNums; rw [if_pos c2]
      rw [zp] at q
      rw [z]
      exact Raised.mono (OutA.raised q) e1
    have z : ckNums "lines" ns 1000000 = none := by unfold ckNums; rw [if_neg c2]
    rw [z]
    intro H2 e2
    have ha2 := ex_l e2 ha1
    have E2 := e1.trans e2
    walk_at "go"
    refine ⟨"lines", 0, 1000000, rfl, by decide +kernel, ?_⟩
    have z0 : ckMost "lines" 0 1000000 = none := by unfold ckMost; rw [if_neg (by decide)]
    rw [z0]
    intro H3 e3
    have ha3 := ex_l e3 ha2
    have E3 := E2.trans e3
    walk_at "go"
    refine lcI ha3 (fun l i h => h l = some (.lst ((ns.take i).map V.int)) ∧ Ex H3 h ∧ H3 l = none) ?_ ?_ ?_ ?_ (fun _ => rfl)
    · exact fun l h n e hl => ⟨hl, e, n⟩
    · rintro l i h _ ⟨_, e, _⟩
      exact ex_l e ha3
    · rintro l i v h hv ⟨hl, e, n⟩
      obtain ⟨hi, ez⟩ := List.getElem?_eq_some_iff.mp hv
      walk_at "go"
      refine appW hl (by rw [List.length_map, List.length_take]; omega) fun H5 e5 h5 => ⟨?_, ExB.ex e e5 n, n⟩
      rw [← take_snoc hi, List.map_append, ez]
      rw [Int.add_zero] at h5
      exact h5
    rintro l H4 ⟨hl, e4, nl⟩
    rw [List.take_length] at hl
    have E4 := E3.trans e4
    walk_at "go"
    refine ⟨"lines", l, ns, 1000000, rfl, by decide +kernel, L2.SqL.of hl, ?_⟩
    rw [z]
    intro H5 e5
    have E5 := E4.trans e5
    have ha5 := ex_l e5 (ex_l e4 ha3)
    walk_at "go"
    refine r_ite (fun c3 => ?_) (fun c3 => ?_)
    · have zp : ckPlain ns = some (.style "cells") := by unfold ckPlain; rw [if_neg c1, if_neg c2, if_pos (by omega)]
      rw [zp] at q
      refine r_raise2 ?_
      walk_at "go"
      exact ⟨rfl, (show ("cells" : Str).length ≤ 1000 by decide +kernel), Raised.mono (OutA.raised q) E5⟩
    have c3' : ¬ ns.length < 2 := by omega
    walk_at "go"
    refine forI ha5 (fun i s h => (∃ v2, s = [some (.ref a), some (.int 0), v2]) ∧ h = H5 ∧ ∀ (j : Nat) (z : Int), j < i → ns[j]? = some z → ¬ z < 0) ?_ ?_ ?_ ?_
    · exact ⟨⟨_, rfl⟩, rfl, fun j z hj => absurd hj (Nat.not_lt_zero _)⟩
    · rintro i s h _ ⟨_, rfl, _⟩
      exact ha5
    · rintro i z s h hz ⟨⟨v2, rfl⟩, rfl, hn⟩
      walk_at "go"
      refine r_ite (fun c4 => ?_) (fun c4 => ?_)
      · have zp : ckPlain ns = some (.style "span") := by
          unfold ckPlain
          rw [if_neg c1, if_neg c2, if_neg c3', if_pos]
          exact List.any_eq_true.mpr ⟨z, List.mem_of_getElem? hz, decide_eq_true c4⟩
        rw [zp] at q
        refine r_raise2 ?_
        walk_at "go"
        exact ⟨rfl, (show ("span" : Str).length ≤ 1000 by decide +kernel), Raised.mono (OutA.raised q) E5⟩
      · refine r_next ⟨⟨_, rfl⟩, rfl, fun j y hj hy => ?_⟩
        by_cases hji : j = i
        · rw [hji, hz] at hy
          cases hy
          exact c4
        · exact hn j y (by omega) hy
    rintro s h ⟨⟨v2, rfl⟩, rfl, hn⟩
    have c4 : ¬ ns.any (fun n => decide (n < 0)) = true := fun hany => by
      obtain ⟨z, hz, hd⟩ := List.any_eq_true.mp hany
      obtain ⟨j, hj⟩ := List.getElem?_of_mem hz
      exact hn j z (List.getElem?_eq_some_iff.mp hj).1 hj (of_decide_eq_true hd)
    have zp : ckPlain ns = none := by unfold ckPlain; rw [if_neg c1, if_neg c2, if_neg c3', if_neg c4]
    rw [zp] at q
    have nn : ∀ (i : Nat) (hi : i < ns.length), 0 ≤ ns[i] ∧ ns[i] ≤ 1000000 := fun i hi => by
      have a := hn i ns[i] hi (List.getElem?_eq_getElem hi)
      have b : ¬ 1000000 < ns[i] := fun z => c2 (List.any_eq_true.mpr ⟨_, List.getElem_mem hi, decide_eq_true z⟩)
      exact ⟨by omega, by omega⟩
    walk_at "go"
    refine r_no (by omega) ?_
    walk_at "go"
    refine r_makeD ?_
    walk_at "go"
    refine lcI ha5 (fun l i h2 => ∃ qs, PB h2 l qs ((ns.take i).map fun z => (z, z)) ∧ Ex h h2 ∧ h l = none) ?_ ?_ ?_ ?_ (fun _ => rfl)
    · exact fun l h2 n e hl => ⟨[], PB.nil hl, e, n⟩
    · rintro l i h2 _ ⟨qs, _, e, _⟩
      exact ex_l e ha5
    · rintro l i v h2 hv ⟨qs, hB, e, n⟩
      obtain ⟨hi, ez⟩ := List.getElem?_eq_some_iff.mp hv
      walk_at "go"
      refine r_newT (len3 rfl) fun t H6 _ e6 ht => ?_
      rw [Int.add_zero] at ht
      refine hB.appW (by rw [hB.2.1, List.length_map, List.length_take]; omega) e6 ht fun H7 e7 b7 => ⟨qs ++ [t], ?_, ExB.ex (e.trans e6) e7 n, n⟩
      rw [← take_snoc hi, List.map_append, ez]
      exact b7
    rintro l2 H6 ⟨qs, hB, e6, n6⟩
    rw [List.take_length] at hB
    walk_at "go"
    refine r_rmkD fun x dx H7 nx nd ne e7 hx => ?_
    have gd : ∀ i : Int, 0 ≤ i → i < (ns.map fun z => (z, z)).length → ∃ j, ∃ hj : j < ns.length, zl (ns.map fun z => (z, z)) i = ns[j] ∧ zh (ns.map fun z => (z, z)) i = ns[j] := fun i h0 h1 => by
      rw [List.length_map] at h1
      have hj : i.toNat < ns.length := by omega
      refine ⟨i.toNat, hj, ?_, ?_⟩
      · unfold zl
        rw [List.getD_eq_getElem?_getD, List.getElem?_map, List.getElem?_eq_getElem hj]
        rfl
      · unfold zh
        rw [List.getD_eq_getElem?_getD, List.getElem?_map, List.getElem?_eq_getElem hj]
        rfl
    refine ⟨x, l2, dx, 0, qs, _, rfl, hx, (hB.ex e7).pr, fun i h0 h1 => ?_, fun i h0 h1 => ?_, ?_, ?_, by decide, by decide, fun H8 e8 hT => ⟨rfl, ?_⟩⟩
    · obtain ⟨j, hj, a, b⟩ := gd i h0 h1
      rw [a, b]
      exact ⟨(nn j hj).1, Int.le_refl _⟩
    · obtain ⟨j, hj, a, b⟩ := gd i h0 h1
      rw [a, b]
      exact ⟨(nn j hj).2, (nn j hj).2⟩
    · rw [List.length_map]; omega
    · rw [List.length_map]; omega
    · exact q _ H8 ((E5.trans e6).trans (ExB.ex e7 e8 nx))
end
end K03
namespace K03
open PySem PySem.Spec PyProof.Rows L2 Evl Lay
section
variable {P : Program} {w : World} {K : PySem.W.Frag} {mg : Str → Option Value} {base : Heap} {CB CT CW CTable CBlock CBadRuler CBadWords CBadBook CBadTold CBadPlan CBadText CBadCommand cL__law_refusals PL__law_refusals : Addr} {tkC tkK tkL : Tok}
/-! ### rows to be priced: what is refused -/
open WP (PRow rowD rowsD) in
def k1 : PRow → Option Er
  | .tab ns => ckMost "cells" ns.length 64
  | _ => none
open WP (PRow rowD rowsD) in
def k3 : PRow → Option Er
  | .tab ns => ckNums "lines" ns 1000000
  | .blk n => ckMost "lines" n 1000000
  | .opn => none
open WP (PRow rowD rowsD) in
def k5 : PRow → Option Er
  | .tab ns => ckPlain ns
  | .blk n => ckBlock n
  | .opn => none
def orE (a b : Option Er) : Option Er := match a with
  | some e => some e
  | none => b
def ckRows (rs : List WP.PRow) (cs : List Int) : Option Er := orE (rs.findSome? k1) (orE (ckMost "kinds" rs.length 12) (orE (rs.findSome? k3) (orE (ckNums "lines" cs 1000000) (rs.findSome? k5))))
def spCkRows (K : PySem.W.Frag) (CT CW : Addr) : Sp := fun vs H Q E => ∃ (a b : Addr) (rs : List WP.PRow) (cs : List Int), vs = [.ref a, .ref b] ∧ Dp K H (.ref a) (WP.rowsD rs) ∧ SqL K H b (cs.map V.int) ∧ Outc CT CW (ckRows rs cs) H Q E
abbrev s_check_price_rows : Stmt := top 25
theorem sc_check_price_rows : FnScope ["rows", "prices", "row"] ["rows", "prices"] (defScope s_check_price_rows) := ⟨rfl, rfl, rfl, by decide +kernel, rfl, by decide +kernel, by decide +kernel⟩
theorem ok_ckrows (T : Txt K mg CB tkC tkK tkL  CBadRuler CBadWords CBadBook CBadTold CBadPlan CBadText CBadCommand) (F : At K mg "check_price_rows" s_check_price_rows ["rows", "prices"]) (d_check_most : Def P w K mg base "check_most" 3 ["what", "many", "most"] (spMost CT CW)) (d_check_numbers : Def P w K mg base "check_numbers" 4 ["what", "numbers", "most"] (spNums K CT CW))
    (d_plain_table : Def P w K mg base "plain_table" 6 ["lengths", "pad"] (spPlain K CT CW)) (d_Block : DI P w K mg base "Block" CBlock 5 ["self", "lines", "pad"] (spBlock CT CW CBlock)) : Def P w K mg base "check_price_rows" 7 ["rows", "prices"] (spCkRows K CT CW) := by
  refine Def.mk' F sc_check_price_rows (fun vs H Q E h => ?_) (fun f cdv Ar outer s H vs Q E hr h => ⟨_, (pss_cons (ps_for (passes_of rfl) rfl (pi_list (pv 0)) (pg_name (i := 2) sc_check_price_rows.nd rfl (Or.inl rfl)) (pss_one (ps_if (pt_cmpR op_eq (pe_ix (r := rIxT K) ix_tup (pv 2) pe_int (fun _ _ => rfl)) pe_str (nomark _)) (pss_one (ps_expr (pe_d d_check_most (hr.mono (by decide)) (passes_call (takes_of rfl rfl rfl rfl) (fun _ _ _ _ h => h)) (pa_cons pe_str (pa_cons (pe_callB (r := Lay.rLen K) c_len rfl T.n_len PySem.boot_len (pa_cons (pe_ix (r := rIxT K) ix_tup (pv 2) pe_int (fun _ _ => rfl)) pa_nil)) (pa_cons (pe_glob (v := .int 64) rfl T.g_CELLS ⟨_, rfl⟩) pa_nil)))))) pss_nil)))
      (pss_cons (ps_expr (pe_d d_check_most (hr.mono (by decide)) (passes_call (takes_of rfl rfl rfl rfl) (fun _ _ _ _ h => h)) (pa_cons pe_str (pa_cons (pe_callB (r := Lay.rLen K) c_len rfl T.n_len PySem.boot_len (pa_cons (pv 0) pa_nil)) (pa_cons (pe_glob (v := .int 12) rfl T.g_KINDS ⟨_, rfl⟩) pa_nil)))))
      (pss_cons (ps_for (passes_of rfl) rfl (pi_list (pv 0)) (pg_name (i := 2) sc_check_price_rows.nd rfl (Or.inl rfl)) (pss_one (ps_if (pt_cmpR op_eq (pe_ix (r := rIxT K) ix_tup (pv 2) pe_int (fun _ _ => rfl)) pe_str (nomark _)) (pss_one (ps_expr (pe_d d_check_numbers (hr.mono (by decide)) (passes_call (takes_of rfl rfl rfl rfl) (fun _ _ _ _ h => h)) (pa_cons pe_str (pa_cons (pe_ix (r := rIxT K) ix_tup (pv 2) pe_int (fun _ _ => rfl)) (pa_cons (pe_glob (v := .int 1000000) rfl T.g_LINES ⟨_, rfl⟩) pa_nil)))))) (pss_one (ps_if (pt_cmpR op_eq (pe_ix (r := rIxT K) ix_tup (pv 2) pe_int (fun _ _ => rfl)) pe_str (nomark _)) (pss_one (ps_expr (pe_d d_check_most (hr.mono (by decide)) (passes_call (takes_of rfl rfl rfl rfl) (fun _ _ _ _ h => h)) (pa_cons pe_str (pa_cons (pe_ix (r := rIxT K) ix_tup (pv 2) pe_int (fun _ _ => rfl)) (pa_cons (pe_glob (v := .int 1000000) rfl T.g_LINES ⟨_, rfl⟩) pa_nil)))))) pss_nil)))))
      (pss_cons (ps_expr (pe_d d_check_numbers (hr.mono (by decide)) (passes_call (takes_of rfl rfl rfl rfl) (fun _ _ _ _ h => h)) (pa_cons pe_str (pa_cons (pv 1) (pa_cons (pe_glob (v := .int 1000000) rfl T.g_LINES ⟨_, rfl⟩) pa_nil)))))
      (pss_one (ps_for (passes_of rfl) rfl (pi_list (pv 0)) (pg_name (i := 2) sc_check_price_rows.nd rfl (Or.inl rfl)) (pss_one (ps_if (pt_cmpR op_eq (pe_ix (r := rIxT K) ix_tup (pv 2) pe_int (fun _ _ => rfl)) pe_str (nomark _)) (pss_one (ps_expr (pe_d d_plain_table (hr.mono (by decide)) (passes_call (takes_of rfl rfl rfl rfl) (fun _ _ _ _ h => h)) (pa_cons (pe_ix (r := rIxT K) ix_tup (pv 2) pe_int (fun _ _ => rfl)) (pa_cons pe_int pa_nil))))) (pss_one (ps_if (pt_cmpR op_eq (pe_ix (r := rIxT K) ix_tup (pv 2) pe_int (fun _ _ => rfl)) pe_str (nomark _)) (pss_one (ps_expr (pe_mkD d_Block (hr.mono (by decide)) (passes_call (takes_of rfl rfl rfl rfl) (fun _ _ _ _ h => h)) (pa_cons (pe_ix (r := rIxT K) ix_tup (pv 2) pe_int (fun _ _ => rfl)) (pa_cons pe_int pa_nil))))) pss_nil)))))))))), ?_⟩)
  · obtain ⟨a, b, rs, cs, rfl, _⟩ := h
    rfl
  · obtain ⟨a, b, rs, cs, rfl, hD, hc, q⟩ := h
    obtain ⟨xs, hx, hA⟩ := WP.rows_at hD
    have hl := WP.rows_len hA
    have nx : ∀ {i : Nat} {r : WP.PRow} {k : WP.PRow → Option Er}, (∀ (j : Nat) (r : WP.PRow), j < i → rs[j]? = some r → k r = none) → rs[i]? = some r → k r = none → ∀ (j : Nat) (r : WP.PRow), j < i + 1 → rs[j]? = some r → k r = none := fun {i r k} hn hr hk j r' hj hr' => by
      by_cases e : j = i
      · rw [e, hr] at hr'; cases hr'; exact hk
      · exact hn j r' (by omega) hr'
    walk_at "go0"
    refine forL hx (fun i s h => (∃ v, s = [some (.ref a), some (.ref b), v]) ∧ Ex H h ∧ ∀ (j : Nat) (r : WP.PRow), j < i → rs[j]? = some r → k1 r = none) ?_ ?_ ?_ ?_
    · exact ⟨⟨_, rfl⟩, Ex.refl _, fun j r hj => absurd hj (Nat.not_lt_zero _)⟩
    · rintro i s h _ ⟨_, e, _⟩
      exact ex_l e hx
    · rintro i x s h hxi ⟨⟨v, rfl⟩, e, hn⟩
      obtain ⟨r, hr, hd⟩ := WP.rows_get (Dp.exAll e _ _ hA) hxi
      cases r with
      | tab ns =>
        obtain ⟨t, l, rfl, ht, hns⟩ := WP.row_tab hd
        walk_at "go"
        refine r_yes rfl ?_
        walk_at "go"
        refine ⟨"cells", _, 64, rfl, by decide +kernel, ?_⟩
        cases hk : ckMost "cells" ns.length 64 with
        | some e' =>
          have z : ckRows rs cs = some e' := by unfold ckRows; rw [WP.fs_some hn hr hk]; rfl
          rw [z] at q
          exact Raised.mono (Outc.raised q) e
        | none =>
          intro H2 e2
          walk_at "go"
          exact ⟨⟨_, rfl⟩, e.trans e2, nx hn hr hk⟩
      | blk n =>
        obtain ⟨t, rfl, ht⟩ := WP.row_blk hd
        walk_at "go"
        refine r_no (by decide +kernel) ?_
        walk_at "go"
        exact ⟨⟨_, rfl⟩, e, nx hn hr rfl⟩
      | opn =>
        obtain ⟨t, rfl, ht⟩ := WP.row_opn hd
        walk_at "go"
        refine r_no (by decide +kernel) ?_
        walk_at "go"
        exact ⟨⟨_, rfl⟩, e, nx hn hr rfl⟩
    rintro s h1 ⟨⟨v, rfl⟩, e1, hn1⟩
    have z1 : rs.findSome? k1 = none := WP.fs_none fun j r hj hr => hn1 j r (by rw [hl]; exact hj) hr
    have hx1 := ex_l e1 hx
    walk_at "go"
    refine r_len hx1 ?_
    walk_at "go"
    refine ⟨"kinds", _, 12, rfl, by decide +kernel, ?_⟩
    rw [hl]
    cases hk2 : ckMost "kinds" rs.length 12 with
    | some e' =>
      have z : ckRows rs cs = some e' := by unfold ckRows; rw [z1, hk2]; rfl
      rw [z] at q
      exact Raised.mono (Outc.raised q) e1
    | none =>
      intro h2 e2
      have E2 := e1.trans e2
      have hx2 := ex_l E2 hx
      walk_at "go"
      refine forL hx2 (fun i s h => (∃ v, s = [some (.ref a), some (.ref b), v]) ∧ Ex H h ∧ ∀ (j : Nat) (r : WP.PRow), j < i → rs[j]? = some r → k3 r = none) ?_ ?_ ?_ ?_
      · exact ⟨⟨_, rfl⟩, E2, fun j r hj => absurd hj (Nat.not_lt_zero _)⟩
      · rintro i s h _ ⟨_, e, _⟩
        exact ex_l e hx
      · rintro i x s h hxi ⟨⟨v, rfl⟩, e, hn⟩
        obtain ⟨r, hr, hd⟩ := WP.rows_get (Dp.exAll e _ _ hA) hxi
        have bad : ∀ e', k3 r = some e' → Raised CT CW e' h E := fun e' hk => by
          have z : ckRows rs cs = some e' := by unfold ckRows; rw [z1, hk2, WP.fs_some hn hr hk]; rfl
          rw [z] at q
          exact Raised.mono (Outc.raised q) e
        cases r with
        | tab ns =>
          obtain ⟨t, l, rfl, ht, hns⟩ := WP.row_tab hd
          walk_at "go"
          refine r_yes rfl ?_
          walk_at "go"
          refine ⟨"lines", l, ns, 1000000, rfl, by decide +kernel, hns, ?_⟩
          cases hk : ckNums "lines" ns 1000000 with
          | some e' => exact bad e' hk
          | none =>
            intro H2 e2
            walk_at "go"
            exact ⟨⟨_, rfl⟩, e.trans e2, nx hn hr hk⟩
        | blk n =>
          obtain ⟨t, rfl, ht⟩ := WP.row_blk hd
          walk_at "go"
          refine r_no (by decide +kernel) ?_
          walk_at "go"
          refine r_yes rfl ?_
          walk_at "go"
          refine ⟨"lines", n, 1000000, rfl, by decide +kernel, ?_⟩
          cases hk : ckMost "lines" n 1000000 with
          | some e' => exact bad e' hk
          | none =>
            intro H2 e2
            walk_at "go"
            exact ⟨⟨_, rfl⟩, e.trans e2, nx hn hr hk⟩
        | opn =>
          obtain ⟨t, rfl, ht⟩ := WP.row_opn hd
          walk_at "go"
          refine r_no (by decide +kernel) ?_
          walk_at "go"
          refine r_no (by decide +kernel) ?_
          walk_at "go"
          exact ⟨⟨_, rfl⟩, e, nx hn hr rfl⟩
      rintro s h3 ⟨⟨v, rfl⟩, e3, hn3⟩
      have z3 : rs.findSome? k3 = none := WP.fs_none fun j r hj hr => hn3 j r (by rw [hl]; exact hj) hr
      walk_at "go"
      refine ⟨"lines", b, cs, 1000000, rfl, by decide +kernel, ex_l e3 hc, ?_⟩
      cases hk4 : ckNums "lines" cs 1000000 with
      | some e' =>
        have z : ckRows rs cs = some e' := by unfold ckRows; rw [z1, hk2, z3, hk4]; rfl
        rw [z] at q
        exact Raised.mono (Outc.raised q) e3
      | none =>
        intro h4 e4
        have E4 := e3.trans e4
        have hx4 := ex_l E4 hx
        walk_at "go"
        refine forL hx4 (fun i s h => (∃ v, s = [some (.ref a), some (.ref b), v]) ∧ Ex H h ∧ ∀ (j : Nat) (r : WP.PRow), j < i → rs[j]? = some r → k5 r = none) ?_ ?_ ?_ ?_
        · exact ⟨⟨_, rfl⟩, E4, fun j r hj => absurd hj (Nat.not_lt_zero _)⟩
        · rintro i s h _ ⟨_, e, _⟩
          exact ex_l e hx
        · rintro i x s h hxi ⟨⟨v, rfl⟩, e, hn⟩
          obtain ⟨r, hr, hd⟩ := WP.rows_get (Dp.exAll e _ _ hA) hxi
          have bad : ∀ e', k5 r = some e' → Raised CT CW e' h E := fun e' hk => by
            have z : ckRows rs cs = some e' := by unfold ckRows; rw [z1, hk2, z3, hk4, WP.fs_some hn hr hk]; rfl
            rw [z] at q
            exact Raised.mono (Outc.raised q) e
          cases r with
          | tab ns =>
            obtain ⟨t, l, rfl, ht, hns⟩ := WP.row_tab hd
            walk_at "go"
            refine r_yes rfl ?_
            walk_at "go"
            refine ⟨l, ns, rfl, hns, ?_⟩
            cases hk : ckPlain ns with
            | some e' => exact bad e' hk
            | none =>
              intro v2 H2 e2
              walk_at "go"
              exact ⟨⟨_, rfl⟩, e.trans e2, nx hn hr hk⟩
          | blk n =>
            obtain ⟨t, rfl, ht⟩ := WP.row_blk hd
            walk_at "go"
            refine r_no (by decide +kernel) ?_
            walk_at "go"
            refine r_yes rfl ?_
            walk_at "go"
            refine r_rmk fun y dy H2 ny nd ne e2 hy => ?_
            refine ⟨y, dy, n, rfl, hy, ?_⟩
            cases hk : ckBlock n with
            | some e' => exact Raised.mono (bad e' hk) e2
            | none =>
              intro H3 e3
              refine ⟨rfl, ?_⟩
              walk_at "go"
              exact ⟨⟨_, rfl⟩, e.trans (ExB.ex e2 e3 ny), nx hn hr hk⟩
          | opn =>
            obtain ⟨t, rfl, ht⟩ := WP.row_opn hd
            walk_at "go"
            refine r_no (by decide +kernel) ?_
            walk_at "go"
            refine r_no (by decide +kernel) ?_
            walk_at "go"
            exact ⟨⟨_, rfl⟩, e, nx hn hr rfl⟩
        rintro s h5 ⟨⟨v, rfl⟩, e5, hn5⟩
        have z5 : rs.findSome? k5 = none := WP.fs_none fun j r hj hr => hn5 j r (by rw [hl]; exact hj) hr
        have z : ckRows rs cs = none := by unfold ckRows; rw [z1, hk2, z3, hk4, z5]; rfl
        rw [z] at q
        walk_at "go"
        exact q h5 e5
end
end K03
namespace K03
open PySem PySem.Spec PyProof.Rows L2 Evl Lay
section
variable {P : Program} {w : World} {K : PySem.W.Frag} {mg : Str → Option Value} {base : Heap} {CB CT CW CTable CBlock CBadRuler CBadWords CBadBook CBadTold CBadPlan CBadText CBadCommand cL__law_refusals PL__law_refusals : Addr} {tkC tkK tkL : Tok}
/-! ### pads -/
def spPadF (K : PySem.W.Frag) : Sp := fun vs H Q _ => ∃ (v : V) (r : WP.PRow), vs = [v] ∧ Dp K H v (WP.rowD r) ∧ (∀ ns, r = .tab ns → 1 ≤ ns.length) ∧ Q (.int (WP.padF r)) H
abbrev s_pad_for_falls : Stmt := top 26
theorem sc_pad_for_falls : FnScope ["row", "most", "highest", "length"] ["row"] (defScope s_pad_for_falls) := ⟨rfl, rfl, rfl, by decide +kernel, rfl, by decide +kernel, by decide +kernel⟩
theorem ok_padf (T : Txt K mg CB tkC tkK tkL  CBadRuler CBadWords CBadBook CBadTold CBadPlan CBadText CBadCommand) (F : At K mg "pad_for_falls" s_pad_for_falls ["row"]) : Def P w K mg base "pad_for_falls" 1 ["row"] (spPadF K) := by
  refine Def.mk' F sc_pad_for_falls (fun vs H Q E h => ?_) (fun f cdv Ar outer s H vs Q E hr h => ⟨_, (pss_cons (ps_if (pt_cmpR op_ne (pe_ix (r := rIxT K) ix_tup (pv 0) pe_int (fun _ _ => rfl)) pe_str (nomark _)) (pss_one (ps_ret pe_int)) pss_nil)
      (pss_cons (ps_set (i := 1) sc_pad_for_falls.nd rfl (Or.inl rfl) pe_int)
      (pss_cons (ps_set (i := 2) sc_pad_for_falls.nd rfl (Or.inl rfl) (pe_ix (r := rIxL K) ix_list (pe_ix (r := rIxT K) ix_tup (pv 0) pe_int (fun _ _ => rfl)) pe_int (fun _ _ => rfl)))
      (pss_cons (ps_for (passes_of rfl) rfl (pi_list (pe_ix (r := rIxT K) ix_tup (pv 0) pe_int (fun _ _ => rfl))) (pg_name (i := 3) sc_pad_for_falls.nd rfl (Or.inl rfl)) (pss_cons (ps_set (i := 2) sc_pad_for_falls.nd rfl (Or.inl rfl) (pe_callB (c_max2 rfl) rfl T.n_max (by decide +kernel) (pa_cons (pv 2) (pa_cons (pv 3) pa_nil))))
      (pss_one (ps_set (i := 1) sc_pad_for_falls.nd rfl (Or.inl rfl) (pe_callB (c_max2 rfl) rfl T.n_max (by decide +kernel) (pa_cons (pv 1) (pa_cons (pe_op op_sub (pv 2) (pv 3)) pa_nil)))))))
      (pss_one (ps_ret (pv 1))))))), ?_⟩)
  · obtain ⟨v, r, rfl, _⟩ := h
    rfl
  · obtain ⟨v, r, rfl, hd, h1, q⟩ := h
    cases r with
    | tab ns =>
      obtain ⟨t, l, rfl, ht, hns⟩ := WP.row_tab hd
      have l1 := h1 ns rfl
      walk_at "go0"
      refine r_noN rfl ?_
      walk_at "go"
      refine forI hns (fun i s h => (∃ v, s = [some (.ref t), some (.int (WP.moN ns i)), some (.int (WP.hiN ns i)), v]) ∧ h = H) ⟨⟨_, rfl⟩, rfl⟩ ?_ ?_ ?_
      · rintro i s h _ ⟨_, rfl⟩
        exact hns
      · rintro i z s h hz ⟨⟨v, rfl⟩, rfl⟩
        have ez : gi ns i = z := by
          unfold gi
          rw [Int.toNat_natCast, List.getD_eq_getElem?_getD, hz]
          rfl
        walk_at "go"
        refine ⟨⟨some (.int z), ?_⟩, rfl⟩
        have e1 : (if z > WP.hiN ns i then z else WP.hiN ns i) = WP.hiN ns (i + 1) := by rw [WP.hiN, ez]; rfl
        rw [e1]
        have e2 : (if WP.hiN ns (i + 1) - z > WP.moN ns i then WP.hiN ns (i + 1) - z else WP.moN ns i) = WP.moN ns (i + 1) := by
          show mx (WP.moN ns i) (WP.hiN ns (i + 1) - z) = _
          rw [WP.moN, ez]
        rw [e2]
        rfl
      · rintro s h ⟨⟨v, rfl⟩, rfl⟩
        walk_at "go"
        exact q
    | blk n =>
      obtain ⟨t, rfl, ht⟩ := WP.row_blk hd
      walk_at "go0"
      refine r_yesN (by decide +kernel) ?_
      walk_at "go"
      exact q
    | opn =>
      obtain ⟨t, rfl, ht⟩ := WP.row_opn hd
      walk_at "go0"
      refine r_yesN (by decide +kernel) ?_
      walk_at "go"
      exact q
def spPadL (K : PySem.W.Frag) : Sp := fun vs H Q _ => ∃ (v : V) (r : WP.PRow), vs = [v] ∧ Dp K H v (WP.rowD r) ∧ r ≠ .opn ∧ (∀ ns, r = .tab ns → 1 ≤ ns.length ∧ ns.length ≤ 100) ∧ Q (.int (WP.padL r)) H
abbrev s_pad_for_leaps : Stmt := top 27
theorem sc_pad_for_leaps : FnScope ["row", "most", "place"] ["row"] (defScope s_pad_for_leaps) := ⟨rfl, rfl, rfl, by decide +kernel, rfl, by decide +kernel, by decide +kernel⟩
theorem ok_padl (T : Txt K mg CB tkC tkK tkL  CBadRuler CBadWords CBadBook CBadTold CBadPlan CBadText CBadCommand) (F : At K mg "pad_for_leaps" s_pad_for_leaps ["row"]) : Def P w K mg base "pad_for_leaps" 1 ["row"] (spPadL K) := by
  refine Def.mk' F sc_pad_for_leaps (fun vs H Q E h => ?_) (fun f cdv Ar outer s H vs Q E hr h => ⟨_, (pss_cons (ps_if (pt_cmpR op_eq (pe_ix (r := rIxT K) ix_tup (pv 0) pe_int (fun _ _ => rfl)) pe_str (nomark _)) (pss_one (ps_ret (pe_op op_sub (pe_ix (r := rIxT K) ix_tup (pv 0) pe_int (fun _ _ => rfl)) pe_int))) pss_nil)
      (pss_cons (ps_set (i := 1) sc_pad_for_leaps.nd rfl (Or.inl rfl) pe_int)
      (pss_cons (ps_for (passes_of rfl) rfl (pi_range2 rfl T.n_range (pa_cons pe_int (pa_cons (pe_callB (r := Lay.rLen K) c_len rfl T.n_len PySem.boot_len (pa_cons (pe_ix (r := rIxT K) ix_tup (pv 0) pe_int (fun _ _ => rfl)) pa_nil)) pa_nil))) (pg_name (i := 2) sc_pad_for_leaps.nd rfl (Or.inl rfl)) (pss_one (ps_set (i := 1) sc_pad_for_leaps.nd rfl (Or.inl rfl) (pe_callB (c_max2 rfl) rfl T.n_max (by decide +kernel) (pa_cons (pv 1) (pa_cons (pe_callB c_abs rfl T.n_abs (by decide +kernel) (pa_cons (pe_op op_sub (pe_ix (r := rIxL K) ix_list (pe_ix (r := rIxT K) ix_tup (pv 0) pe_int (fun _ _ => rfl)) (pv 2) (fun _ _ => rfl)) (pe_ix (r := rIxL K) ix_list (pe_ix (r := rIxT K) ix_tup (pv 0) pe_int (fun _ _ => rfl)) (pe_op op_sub (pv 2) pe_int) (fun _ _ => rfl))) pa_nil)) pa_nil))))))
      (pss_one (ps_ret (pv 1)))))), ?_⟩)
  · obtain ⟨v, r, rfl, _⟩ := h
    rfl
  · obtain ⟨v, r, rfl, hd, hno, h1, q⟩ := h
    cases r with
    | tab ns =>
      obtain ⟨t, l, rfl, ht, hns⟩ := WP.row_tab hd
      obtain ⟨l1, l2⟩ := h1 ns rfl
      walk_at "go0"
      refine r_no (by decide +kernel) ?_
      walk_at "go"
      refine forR2 ⟨by decide, by decide⟩ ⟨by omega, by omega⟩ (fun k s h => (∃ v, s = [some (.ref t), some (.int (WP.leN ns k)), v]) ∧ h = H) ⟨⟨_, rfl⟩, rfl⟩ ?_ ?_
      · rintro k s h hk ⟨⟨v, rfl⟩, rfl⟩
        walk_at "go"
        refine ⟨⟨some (.int (1 + k)), ?_⟩, rfl⟩
        rw [show (1 : Int) + k - 1 = k by omega, show (1 : Int) + k = ((k + 1 : Nat) : Int) by omega]
        rfl
      · rintro s h ⟨⟨v, rfl⟩, rfl⟩
        rw [show ((ns.length : Int) - 1).toNat = ns.length - 1 by omega]
        walk_at "go"
        exact q
    | blk n =>
      obtain ⟨t, rfl, ht⟩ := WP.row_blk hd
      walk_at "go0"
      refine r_yes rfl ?_
      walk_at "go"
      exact q
    | opn => exact absurd rfl hno
def spPriced (K : PySem.W.Frag) : Sp := fun vs H Q _ => ∃ (a b : Addr) (ps cs : List Int), vs = [.ref a, .ref b] ∧ SqL K H a (ps.map V.int) ∧ SqL K H b (cs.map V.int) ∧ ps.length ≤ cs.length ∧ ps.length ≤ 100 ∧ (∀ z ∈ ps, -1000000 ≤ z ∧ z ≤ 1000000) ∧ ∀ H2, Ex H H2 → Q (.int (WP.price ps cs)) H2
abbrev s_priced : Stmt := top 28
theorem sc_priced : FnScope ["pads", "prices", "total", "place", "pad"] ["pads", "prices"] (defScope s_priced) := ⟨rfl, rfl, rfl, by decide +kernel, rfl, by decide +kernel, by decide +kernel⟩
theorem ok_priced (T : Txt K mg CB tkC tkK tkL  CBadRuler CBadWords CBadBook CBadTold CBadPlan CBadText CBadCommand) (F : At K mg "priced" s_priced ["pads", "prices"]) : Def P w K mg base "priced" 1 ["pads", "prices"] (spPriced K) := by
  refine Def.mk' F sc_priced (fun vs H Q E h => ?_) (fun f cdv Ar outer s H vs Q E hr h => ⟨_, (pss_cons (ps_set (i := 2) sc_priced.nd rfl (Or.inl rfl) pe_int)
      (pss_cons (ps_for (passes_of rfl) rfl (pi_enum rfl T.n_enumerate (pa_cons (pv 0) pa_nil)) (pg_tup (n := 2) rfl (pgs_cons (pg_name (i := 3) sc_priced.nd rfl (Or.inl rfl)) (pgs_cons (pg_name (i := 4) sc_priced.nd rfl (Or.inl rfl)) pgs_nil))) (pss_one (ps_set (i := 2) sc_priced.nd rfl (Or.inl rfl) (pe_op op_add (pv 2) (pe_op op_mul (pv 4) (pe_ix (r := rIxL K) ix_list (pv 1) (pv 3) (fun _ _ => rfl)))))))
      (pss_one (ps_ret (pv 2))))), ?_⟩)
  · obtain ⟨a, b, ps, cs, rfl, _⟩ := h
    rfl
  · obtain ⟨a, b, ps, cs, rfl, ha, hb, hl, h100, hp, q⟩ := h
    walk_at "go0"
    refine forE ha (fun i s h => (∃ v3 v4, s = [some (.ref a), some (.ref b), some (.int (WP.prN ps cs i)), v3, v4]) ∧ Ex H h) ⟨⟨_, _, rfl⟩, Ex.refl _⟩ ?_ ?_ ?_
    · rintro i s h _ ⟨_, e⟩
      exact ex_l e ha
    · rintro i x s h h2 hx ⟨⟨v3, v4, rfl⟩, e⟩ e2
      obtain ⟨hi, rfl⟩ := int_at hx
      have pb := hp _ (List.getElem_mem hi)
      have hb2 := ex_l (e.trans e2) hb
      have eg : gi ps i = ps[i] := by
        unfold gi
        rw [Int.toNat_natCast, List.getD_eq_getElem?_getD, List.getElem?_eq_getElem hi]
        rfl
      walk_at "go"
      refine ⟨⟨some (.int i), some (.int ps[i]), ?_⟩, e.trans e2⟩
      rw [WP.prN, eg]
      rfl
    · rintro s h ⟨⟨v3, v4, rfl⟩, e⟩
      rw [List.length_map]
      walk_at "go"
      exact q h e
/-- what is left: lengths and blocks within -/
theorem ck_ok {rs : List WP.PRow} {cs : List Int} (h : ckRows rs cs = none) : rs.length ≤ 12 ∧ (∀ ns, WP.PRow.tab ns ∈ rs → 2 ≤ ns.length ∧ ns.length ≤ 64 ∧ WP.InB ns 1000000) ∧ (∀ n, WP.PRow.blk n ∈ rs → 1 ≤ n ∧ n ≤ 1000000) := by
  unfold ckRows at h
  have or : ∀ a b : Option Er, orE a b = none → a = none ∧ b = none := fun a b z => by
    cases a with
    | some e => cases z
    | none => exact ⟨rfl, z⟩
  obtain ⟨h1, h⟩ := or _ _ h
  obtain ⟨h2, h⟩ := or _ _ h
  obtain ⟨h3, h⟩ := or _ _ h
  obtain ⟨h4, h5⟩ := or _ _ h
  refine ⟨?_, fun ns hm => ?_, fun n hm => ?_⟩
  · unfold ckMost at h2
    split at h2
    · cases h2
    · omega
  · have a := WP.fs_inv h5 _ hm
    change ckPlain ns = none at a
    unfold ckPlain at a
    split at a
    · cases a
    split at a
    · cases a
    split at a
    · cases a
    split at a
    · cases a
    rename_i c1 c2 c3 c4
    refine ⟨by omega, by omega, fun z hz => ⟨?_, ?_⟩⟩
    · by_cases k : z < 0
      · exact absurd (List.any_eq_true.mpr ⟨z, hz, decide_eq_true k⟩) c4
      · omega
    · by_cases k : 1000000 < z
      · exact absurd (List.any_eq_true.mpr ⟨z, hz, decide_eq_true k⟩) c2
      · omega
  · have a := WP.fs_inv h5 _ hm
    change ckBlock n = none at a
    unfold ckBlock at a
    split at a
    · cases a
    split at a
    · cases a
    exact ⟨by omega, by omega⟩
theorem padF_B {rs : List WP.PRow} {cs : List Int} (h : ckRows rs cs = none) : ∀ z ∈ WP.falls rs, -1000000 ≤ z ∧ z ≤ 1000000 := fun z hz => by
  obtain ⟨_, h1, h2⟩ := ck_ok h
  obtain ⟨r, hm, rfl⟩ := List.mem_map.mp hz
  cases r with
  | tab ns =>
    have a := WP.moN_nn ns ns.length
    have b := WP.moN_B (h1 ns hm).2.2 (by decide) ns.length
    show -1000000 ≤ WP.moN ns ns.length ∧ WP.moN ns ns.length ≤ 1000000
    omega
  | blk n => exact ⟨by show (-1000000 : Int) ≤ 0; decide, by show (0 : Int) ≤ 1000000; decide⟩
  | opn => exact ⟨by show (-1000000 : Int) ≤ 0; decide, by show (0 : Int) ≤ 1000000; decide⟩
theorem padL_B {rs : List WP.PRow} {cs : List Int} (h : ckRows rs cs = none) : ∀ z ∈ WP.leaps rs, -1000000 ≤ z ∧ z ≤ 1000000 := fun z hz => by
  obtain ⟨_, h1, h2⟩ := ck_ok h
  obtain ⟨r, hm, rfl⟩ := List.mem_map.mp hz
  cases r with
  | tab ns =>
    have a := WP.leN_nn ns (ns.length - 1)
    have b := WP.leN_B (h1 ns hm).2.2 (by decide) (ns.length - 1)
    show -1000000 ≤ WP.leN ns (ns.length - 1) ∧ WP.leN ns (ns.length - 1) ≤ 1000000
    omega
  | blk n =>
    have := h2 n hm
    show -1000000 ≤ n - 1 ∧ n - 1 ≤ 1000000
    omega
  | opn => exact ⟨by show (-1000000 : Int) ≤ 0; decide, by show (0 : Int) ≤ 1000000; decide⟩
def LeastK (H : Hp) (Q : VK) (rs : List WP.PRow) (cs : List Int) : Prop := ∀ t l H2, H l = none → Ex H H2 → H2 t = some (.tup [.int (WP.least rs cs).1, .str (WP.least rs cs).2.1, .ref l]) → H2 l = some (.lst ((WP.least rs cs).2.2.map V.int)) → Q (.ref t) H2
def spLeast (K : PySem.W.Frag) (CT CW : Addr) : Sp := fun vs H Q E => ∃ (a b : Addr) (rs : List WP.PRow) (cs : List Int), vs = [.ref a, .ref b] ∧ Dp K H (.ref a) (WP.rowsD rs) ∧ SqL K H b (cs.map V.int) ∧ (ckRows rs cs = none → rs.length ≤ cs.length) ∧
  (match ckRows rs cs with
  | none => LeastK H Q rs cs
  | some e => Raised CT CW e H E)
abbrev s_least_pads : Stmt := top 29
theorem sc_least_pads : FnScope ["rows", "prices", "falls", "leaps", "row"] ["rows", "prices"] (defScope s_least_pads) := ⟨rfl, rfl, rfl, by decide +kernel, rfl, by decide +kernel, by decide +kernel⟩
theorem ok_least (T : Txt K mg CB tkC tkK tkL  CBadRuler CBadWords CBadBook CBadTold CBadPlan CBadText CBadCommand) (F : At K mg "least_pads" s_least_pads ["rows", "prices"]) (d_check_price_rows : Def P w K mg base "check_price_rows" 7 ["rows", "prices"] (spCkRows K CT CW)) (d_pad_for_falls : Def P w K mg base "pad_for_falls" 1 ["row"] (spPadF K))
    (d_pad_for_leaps : Def P w K mg base "pad_for_leaps" 1 ["row"] (spPadL K)) (d_priced : Def P w K mg base "priced" 1 ["pads", "prices"] (spPriced K)) : Def P w K mg base "least_pads" 8 ["rows", "prices"] (spLeast K CT CW) := by
  refine Def.mk' F sc_least_pads (fun vs H Q E h => ?_) (fun f cdv Ar outer s H vs Q E hr h => ⟨_, (pss_cons (ps_expr (pe_d d_check_price_rows (hr.mono (by decide)) (passes_call (takes_of rfl rfl rfl rfl) (fun _ _ _ _ h => h)) (pa_cons (pv 0) (pa_cons (pv 1) pa_nil))))
      (pss_cons (ps_setLc (i := 2) (own := [("row", 4)]) (g := gName 4) (tt := tYes) rfl sc_least_pads.nd rfl rfl (sw_true rfl rfl rfl (by decide +kernel)) (pi_list (pv 0)) (blkOk_by (own := [("row", 4)]) (N := ["rows", "prices", "falls", "leaps", "row"]) (sc := defScope s_least_pads) (by decide +kernel)) (fun _ _ _ _ _ => (pg_name (i := 4) sc_least_pads.nd rfl (Or.inl rfl))) (fun _ _ _ _ _ => pts_nil) (fun _ _ _ _ _ => (pe_d d_pad_for_falls (hr.mono (by decide)) passL (pa_cons (pv 4) pa_nil))))
      (pss_cons (ps_if (pt_cmpR op_gt (pe_callB (r := Lay.rLen K) c_len rfl T.n_len PySem.boot_len (pa_cons (pe_lc (own := [("row", 4)]) (g := gName 4) rfl sc_least_pads.nd (pi_list (pv 0)) (blkOk_by (own := [("row", 4)]) (N := ["rows", "prices", "falls", "leaps", "row"]) (sc := defScope s_least_pads) (by decide +kernel)) (fun _ _ _ _ _ => (pg_name (i := 4) sc_least_pads.nd rfl (Or.inl rfl))) (fun _ _ _ _ _ => (pts_one (pt_cmpR op_eq (pe_ix (r := rIxT K) ix_tup (pv 4) pe_int (fun _ _ => rfl)) pe_str (nomark _)))) (fun _ _ _ _ _ => (pv 4))) pa_nil)) pe_int (nomark _)) (pss_one (ps_ret (pe_tup (pa_cons (pe_d d_priced (hr.mono (by decide)) (passes_call (takes_of rfl rfl rfl rfl) (fun _ _ _ _ h => h)) (pa_cons (pv 2) (pa_cons (pv 1) pa_nil))) (pa_cons pe_str (pa_cons (pv 2) pa_nil)))))) pss_nil)
      (pss_cons (ps_setLc (i := 3) (own := [("row", 4)]) (g := gName 4) (tt := tYes) rfl sc_least_pads.nd rfl rfl (sw_true rfl rfl rfl (by decide +kernel)) (pi_list (pv 0)) (blkOk_by (own := [("row", 4)]) (N := ["rows", "prices", "falls", "leaps", "row"]) (sc := defScope s_least_pads) (by decide +kernel)) (fun _ _ _ _ _ => (pg_name (i := 4) sc_least_pads.nd rfl (Or.inl rfl))) (fun _ _ _ _ _ => pts_nil) (fun _ _ _ _ _ => (pe_d d_pad_for_leaps (hr.mono (by decide)) passL (pa_cons (pv 4) pa_nil))))
      (pss_cons (ps_if (pt_cmpR op_lt (pe_d d_priced (hr.mono (by decide)) (passes_call (takes_of rfl rfl rfl rfl) (fun _ _ _ _ h => h)) (pa_cons (pv 3) (pa_cons (pv 1) pa_nil))) (pe_d d_priced (hr.mono (by decide)) (passes_call (takes_of rfl rfl rfl rfl) (fun _ _ _ _ h => h)) (pa_cons (pv 2) (pa_cons (pv 1) pa_nil))) (nomark _)) (pss_one (ps_ret (pe_tup (pa_cons (pe_d d_priced (hr.mono (by decide)) (passes_call (takes_of rfl rfl rfl rfl) (fun _ _ _ _ h => h)) (pa_cons (pv 3) (pa_cons (pv 1) pa_nil))) (pa_cons pe_str (pa_cons (pv 3) pa_nil)))))) pss_nil)
      (pss_one (ps_ret (pe_tup (pa_cons (pe_d d_priced (hr.mono (by decide)) (passes_call (takes_of rfl rfl rfl rfl) (fun _ _ _ _ h => h)) (pa_cons (pv 2) (pa_cons (pv 1) pa_nil))) (pa_cons pe_str (pa_cons (pv 2) pa_nil))))))))))), ?_⟩)
  · obtain ⟨a, b, rs, cs, rfl, _⟩ := h
    rfl
  · obtain ⟨a, b, rs, cs, rfl, hD, hc, hl, q⟩ := h
    walk_at "go0"
    refine ⟨a, b, rs, cs, rfl, hD, hc, ?_⟩
    cases hk : ckRows rs cs with
    | some e =>
      rw [hk] at q
      exact q
    | none =>
      rw [hk] at q
      have hl := hl hk
      obtain ⟨l12, ht, hb⟩ := ck_ok hk
      have fB := padF_B hk
      have lB := padL_B hk
      obtain ⟨xs, hx, hA⟩ := WP.rows_at hD
      have xl := WP.rows_len hA
      intro H1 e1
      walk_at "go"
      refine lcLG (ex_l e1 hx) (fun p i h => h p = some (.lst (((rs.take i).map WP.padF).map V.int)) ∧ Ex H1 h ∧ H1 p = none) ?_ ?_ ?_ ?_
      · exact fun p h n e hp => ⟨hp, e, n⟩
      · rintro p i h _ ⟨_, e, _⟩
        exact ex_l (e1.trans e) hx
      · rintro p i x h hxi ⟨hp, e, n⟩
        obtain ⟨r, hr, hd⟩ := WP.rows_get (Dp.exAll (e1.trans e) _ _ hA) hxi
        obtain ⟨hi, er⟩ := List.getElem?_eq_some_iff.mp hr
        refine r_gName ?_
        refine r_yesC rfl ?_
        walk_at "go"
        refine ⟨x, r, rfl, hd, fun ns z => ?_, ?_⟩
        · have := (ht ns (by rw [← z, ← er]; exact List.getElem_mem hi)).1
          omega
        refine appW hp (by rw [List.length_map, List.length_map, List.length_take]; omega) fun H5 e5 h5 => ⟨?_, ExB.ex e e5 n, n⟩
        rw [h5, List.take_succ_eq_append_getElem hi, List.map_append, List.map_append, er]
        rfl
      rintro fl H2 ⟨hfl, e2, nf⟩
      rw [xl, List.take_length] at hfl
      have E2 := e1.trans e2
      have nfH : H fl = none := fresh_back e1 nf
      walk_at "go"
      refine lcLG (ex_l E2 hx) (fun p i h => ∃ ys : List V, h p = some (.lst ys) ∧ ys.length ≤ i ∧ (0 < ys.length ↔ ∃ j : Nat, j < i ∧ rs[j]? = some .opn) ∧ Ex H2 h ∧ H2 p = none) ?_ ?_ ?_ ?_
      · exact fun p h n e hp => ⟨[], hp, Nat.le_refl _, ⟨fun z => absurd z (Nat.lt_irrefl 0), fun ⟨j, hj, _⟩ => absurd hj (Nat.not_lt_zero _)⟩, e, n⟩
      · rintro p i h _ ⟨_, _, _, _, e, _⟩
        exact ex_l (E2.trans e) hx
      · rintro p i x h hxi ⟨ys, hp, yl, yi, e, n⟩
        obtain ⟨r, hr, hd⟩ := WP.rows_get (Dp.exAll (E2.trans e) _ _ hA) hxi
        obtain ⟨hi, er⟩ := List.getElem?_eq_some_iff.mp hr
        have no : r ≠ .opn → ∃ ys : List V, h p = some (.lst ys) ∧ ys.length ≤ i + 1 ∧ (0 < ys.length ↔ ∃ j : Nat, j < i + 1 ∧ rs[j]? = some .opn) ∧ Ex H2 h ∧ H2 p = none := fun hne =>
          ⟨ys, hp, by omega, yi.trans ⟨fun ⟨j, a, b⟩ => ⟨j, by omega, b⟩, fun ⟨j, a, b⟩ => ⟨j, by
            by_cases z : j = i
            · rw [z, hr] at b; exact absurd (Option.some.inj b) hne
            · omega, b⟩⟩, e, n⟩
        refine r_gName ?_
        refine ⟨rfl, ?_⟩
        cases r with
        | tab ns =>
          obtain ⟨t, l, rfl, ht2, hns⟩ := WP.row_tab hd
          walk_at "go"
          refine r_no (by decide +kernel) ?_
          exact no (fun z => by cases z)
        | blk m =>
          obtain ⟨t, rfl, ht2⟩ := WP.row_blk hd
          walk_at "go"
          refine r_no (by decide +kernel) ?_
          exact no (fun z => by cases z)
        | opn =>
          obtain ⟨t, rfl, ht2⟩ := WP.row_opn hd
          walk_at "go"
          refine r_yes rfl ?_
          walk_at "go"
          refine appW hp (by omega) fun H5 e5 h5 => ⟨_, h5, by rw [List.length_append]; show ys.length + 1 ≤ _; omega, ⟨fun _ => ⟨i, by omega, hr⟩, fun _ => by rw [List.length_append]; show 0 < ys.length + 1; omega⟩, ExB.ex e e5 n, n⟩
      rintro p h ⟨ys, hp, yl, yi, e3, n3⟩
      rw [xl] at yi
      have ho : WP.hasOpn rs = decide (0 < ys.length) := by
        unfold WP.hasOpn
        by_cases c : 0 < ys.length
        · rw [decide_eq_true c]
          obtain ⟨j, _, hj⟩ := yi.mp c
          exact List.any_eq_true.mpr ⟨_, List.mem_of_getElem? hj, decide_eq_true rfl⟩
        · rw [decide_eq_false c]
          refine Bool.eq_false_iff.mpr fun z => ?_
          obtain ⟨r, hm, hr⟩ := List.any_eq_true.mp z
          obtain ⟨j, hj⟩ := List.getElem?_of_mem hm
          exact c (yi.mpr ⟨j, (List.getElem?_eq_some_iff.mp hj).1, by rw [hj, of_decide_eq_true hr]⟩)
      have E3 := E2.trans e3
      have hfl3 := e3 _ _ hfl
      have lf : (WP.falls rs).length = rs.length := by unfold WP.falls; rw [List.length_map]
      have ll : (WP.leaps rs).length = rs.length := by unfold WP.leaps; rw [List.length_map]
      walk_at "go"
      refine r_len (L2.SqL.of hp) ?_
      walk_at "go"
      refine r_ite (fun c => ?_) (fun c => ?_)
      · have hz : WP.hasOpn rs = true := by rw [ho]; exact decide_eq_true (by omega)
        walk_at "go"
        refine ⟨fl, b, WP.falls rs, cs, rfl, L2.SqL.of hfl3, ex_l E3 hc, by omega, by omega, fB, fun H5 e5 => ?_⟩
        walk_at "go"
        refine r_newT (len3 rfl) fun t H6 _ e6 ht6 => ?_
        have lq : WP.least rs cs = (WP.price (WP.falls rs) cs, ("falls" : Str), WP.falls rs) := by unfold WP.least; rw [if_pos hz]
        exact q t fl H6 nfH (E3.trans (e5.trans e6)) (by rw [lq]; exact ht6) (by rw [lq]; exact e6 _ _ (e5 _ _ hfl3))
      have hz : WP.hasOpn rs = false := by rw [ho]; exact decide_eq_false (by omega)
      walk_at "go"
      refine lcLG (ex_l E3 hx) (fun p i h' => h' p = some (.lst (((rs.take i).map WP.padL).map V.int)) ∧ Ex h h' ∧ h p = none) ?_ ?_ ?_ ?_
      · exact fun p h n e hp => ⟨hp, e, n⟩
      · rintro p i h _ ⟨_, e, _⟩
        exact ex_l (E3.trans e) hx
      · rintro p i x h' hxi ⟨hp, e, n⟩
        obtain ⟨r, hr, hd⟩ := WP.rows_get (Dp.exAll (E3.trans e) _ _ hA) hxi
        obtain ⟨hi, er⟩ := List.getElem?_eq_some_iff.mp hr
        refine r_gName ?_
        refine r_yesC rfl ?_
        walk_at "go"
        refine ⟨x, r, rfl, hd, fun z => ?_, fun ns z => ?_, ?_⟩
        · rw [z] at hr
          exact c (by have := yi.mpr ⟨i, hi, hr⟩; omega)
        · have := ht ns (by rw [← z, ← er]; exact List.getElem_mem hi)
          omega
        refine appW hp (by rw [List.length_map, List.length_map, List.length_take]; omega) fun H5 e5 h5 => ⟨?_, ExB.ex e e5 n, n⟩
        rw [h5, List.take_succ_eq_append_getElem hi, List.map_append, List.map_append, er]
        rfl
      rintro ll2 H4 ⟨hll, e4, n4⟩
      rw [xl, List.take_length] at hll
      have E4 := E3.trans e4
      have hfl4 := e4 _ _ hfl3
      walk_at "go"
      refine ⟨ll2, b, WP.leaps rs, cs, rfl, L2.SqL.of hll, ex_l E4 hc, by omega, by omega, lB, fun H5 e5 => ?_⟩
      walk_at "go"
      refine ⟨fl, b, WP.falls rs, cs, rfl, L2.SqL.of (e5 _ _ hfl4), ex_l (E4.trans e5) hc, by omega, by omega, fB, fun H6 e6 => ?_⟩
      walk_at "go"
      have E6 := E4.trans (e5.trans e6)
      have hfl6 := e6 _ _ (e5 _ _ hfl4)
      have hll6 := e6 _ _ (e5 _ _ hll)
      refine r_ite (fun c2 => ?_) (fun c2 => ?_)
      · walk_at "go"
        refine ⟨ll2, b, WP.leaps rs, cs, rfl, L2.SqL.of hll6, ex_l E6 hc, by omega, by omega, lB, fun H7 e7 => ?_⟩
        walk_at "go"
        refine r_newT (len3 rfl) fun t H8 _ e8 ht8 => ?_
        have lq : WP.least rs cs = (WP.price (WP.leaps rs) cs, ("leaps" : Str), WP.leaps rs) := by unfold WP.least; rw [if_neg (by rw [hz]; decide), if_pos c2]
        exact q t ll2 H8 (fresh_back E3 n4) (E6.trans (e7.trans e8)) (by rw [lq]; exact ht8) (by rw [lq]; exact e8 _ _ (e7 _ _ hll6))
      · walk_at "go"
        refine ⟨fl, b, WP.falls rs, cs, rfl, L2.SqL.of hfl6, ex_l E6 hc, by omega, by omega, fB, fun H7 e7 => ?_⟩
        walk_at "go"
        refine r_newT (len3 rfl) fun t H8 _ e8 ht8 => ?_
        have lq : WP.least rs cs = (WP.price (WP.falls rs) cs, ("falls" : Str), WP.falls rs) := by unfold WP.least; rw [if_neg (by rw [hz]; decide), if_neg c2]
        exact q t fl H8 nfH (E6.trans (e7.trans e8)) (by rw [lq]; exact ht8) (by rw [lq]; exact e8 _ _ (e7 _ _ hfl6))
end
end K03
namespace K03
open PySem PySem.Spec PyProof.Rows L2 Evl Lay
section
variable {P : Program} {w : World} {K : PySem.W.Frag} {mg : Str → Option Value} {base : Heap} {CB CT CW CTable CBlock CBadRuler CBadWords CBadBook CBadTold CBadPlan CBadText CBadCommand cL__law_refusals PL__law_refusals : Addr} {tkC tkK tkL : Tok}
/-! ### the law's own -/
def spPurse (K : PySem.W.Frag) : Sp := fun vs H Q _ => ∃ (a : Addr) (ns : List Int) (i : Int), vs = [.ref a, .int i] ∧ SqL K H a (ns.map V.int) ∧ 0 ≤ i ∧ ns.length ≤ 63 ∧ ∀ p H2, H p = none → Ex H H2 → Pur H2 p → Q (.ref p) H2
abbrev s__law_purse : Stmt := top 31
theorem sc__law_purse : FnScope ["script", "at", "cell", "size", "one"] ["script", "at"] (defScope s__law_purse) := ⟨rfl, rfl, rfl, by decide +kernel, rfl, by decide +kernel, by decide +kernel⟩
theorem ok_purse (T : Txt K mg CB tkC tkK tkL  CBadRuler CBadWords CBadBook CBadTold CBadPlan CBadText CBadCommand) (F : At K mg "_law_purse" s__law_purse ["script", "at"]) : Def P w K mg base "_law_purse" 1 ["script", "at"] (spPurse K) := by
  refine Def.mk' F sc__law_purse (fun vs H Q E h => ?_) (fun f cdv Ar outer s H vs Q E hr h => ⟨_, (pss_cons (ps_set (i := 2) sc__law_purse.nd rfl (Or.inl rfl) (pe_ifExp (pt_cmpR op_lt (pv 1) (pe_callB (r := Lay.rLen K) c_len rfl T.n_len PySem.boot_len (pa_cons (pv 0) pa_nil)) (nomark _)) (pe_callTy c_int rfl T.n_int (by decide +kernel) (pa_cons (pe_ix (r := rIxL K) ix_list (pv 0) (pv 1) (fun _ _ => rfl)) pa_nil)) (pe_op op_mul pe_int (pe_callB (r := rSum K) (cr_sum rfl) rfl T.n_sum (by decide +kernel) (pa_cons (pe_lc (own := [("one", 4)]) (g := gName 4) (tt := tYes) rfl sc__law_purse.nd (pi_list (pe_slice (r := rSlL K) sl_list (pv 0) po_none (po_some pe_int))) (blkOk_by (own := [("one", 4)]) (N := ["script", "at", "cell", "size", "one"]) (sc := defScope s__law_purse) (by decide +kernel)) (fun _ _ _ _ _ => (pg_name (i := 4) sc__law_purse.nd rfl (Or.inl rfl))) (fun _ _ _ _ _ => pts_nil) (fun _ _ _ _ _ => (pe_callTy c_int rfl T.n_int (by decide +kernel) (pa_cons (pv 4) pa_nil)))) pa_nil)))))
      (pss_cons (ps_set (i := 3) sc__law_purse.nd rfl (Or.inl rfl) (pe_op op_add (pe_op op_mul pe_int (pe_callB c_abs rfl T.n_abs (by decide +kernel) (pa_cons (pv 2) pa_nil))) (pe_ifExp (pt_cmpR op_lt (pv 2) pe_int (nomark _)) pe_int pe_int)))
      (pss_one (ps_ret (pe_lst (pa_cons (pe_ifExp (pt_cmpR op_ge (pv 3) (pe_op op_pow pe_int pe_int) (nomark _)) (pv 3) pe_int) (pa_cons (pe_op op_mod (pe_callTy c_int rfl T.n_int (by decide +kernel) (pa_cons (pe_op op_add (pe_op op_add (pv 3) (pe_op op_mul (pv 1) pe_int)) pe_int) pa_nil)) pe_int) (pa_cons (pv 1) pa_nil)))))))), ?_⟩)
  · obtain ⟨a, ns, i, rfl, _⟩ := h
    rfl
  · obtain ⟨a, ns, i, rfl, ha, h0, hl, q⟩ := h
    walk_at "go0"
    refine r_K (fun Q' k => ?_) (fun c H1 e1 => ?_)
    · refine r_tIf ?_
      walk_at "go"
      refine r_ite (fun c => ?_) (fun c => ?_)
      · walk_at "go"
        exact k _ H (Ex.refl H)
      · walk_at "go"
        refine r_slL ha fun p H1 hp e1 h1 => ?_
        rw [cut_ints] at h1
        walk_at "go"
        refine lcI (by walk_at "sq") (fun l i h => ∃ zs : List Int, zs.length = i ∧ h l = some (.lst (zs.map V.int)) ∧ Ex H1 h ∧ H1 l = none) ?_ ?_ ?_ ?_ (fun _ => rfl)
        · exact fun l h hl e hn => ⟨[], rfl, hn, e, hl⟩
        · intro l i h _ ⟨zs, _, _, e, _⟩
          walk_at "sq"
        · intro l i z h hz ⟨zs, hi, hl, e, ln⟩
          walk_at "go"
          have hm : i < 64 := by
            have a := (List.getElem?_eq_some_iff.mp hz).1
            rw [List.length_take, List.length_drop] at a
            omega
          exact appW hl (by rw [List.length_map]; omega) fun H5 e5 h5 => ⟨zs ++ [z], by rw [List.length_append, hi]; rfl, by rw [List.map_append]; exact h5, ExB.ex e e5 ln, ln⟩
        · intro l h ⟨zs, _, hl, e, _⟩
          walk_at "go"
          refine r_sum (by walk_at "sq") ?_
          walk_at "go"
          exact k _ h (e1.trans e)
    · walk_at "go"
      refine r_K (fun Q' k => ?_) (fun c3 H3 e3 => ?_)
      · refine r_tIf ?_
        walk_at "go"
        refine r_ite (fun _ => ?_) (fun _ => ?_)
        · walk_at "go"
          exact k _ H1 (Ex.refl H1)
        · walk_at "go"
          exact k _ H1 (Ex.refl H1)
      walk_at "go"
      exact r_newL (len3 rfl) fun p H4 hp e4 h4 => q p H4 (fresh_back (e1.trans e3) hp) (e1.trans (e3.trans e4)) ⟨_, _, _, h4⟩
def spDraw : Sp := fun vs H Q _ => ∃ (p : Addr) (n : Int), vs = [.ref p, .int n] ∧ 0 < n ∧ n < 1073741824 ∧ Pur H p ∧ ∀ r H2, 0 ≤ r → r < n → ExB p H H2 → Pur H2 p → Q (.int r) H2
abbrev s__law_draw : Stmt := top 32
theorem sc__law_draw : FnScope ["purse", "many", "found"] ["purse", "many"] (defScope s__law_draw) := ⟨rfl, rfl, rfl, by decide +kernel, rfl, by decide +kernel, by decide +kernel⟩
theorem ok_draw (T : Txt K mg CB tkC tkK tkL  CBadRuler CBadWords CBadBook CBadTold CBadPlan CBadText CBadCommand) (F : At K mg "_law_draw" s__law_draw ["purse", "many"]) : Def P w K mg base "_law_draw" 1 ["purse", "many"] spDraw := by
  refine Def.mk' F sc__law_draw (fun vs H Q E h => ?_) (fun f cdv Ar outer s H vs Q E hr h => ⟨_, (pss_cons (ps_if (pt_cmpR op_gt (pe_ix (r := rIxL K) ix_list (pv 0) pe_int (fun _ _ => rfl)) pe_int (nomark _)) (pss_cons (ps_set (i := 2) sc__law_draw.nd rfl (Or.inl rfl) (pe_op op_mod (pe_callTy c_int rfl T.n_int (by decide +kernel) (pa_cons (pe_ix (r := rIxL K) ix_list (pv 0) pe_int (fun _ _ => rfl)) pa_nil)) (pv 1)))
      (pss_cons (ps_asg (pe_op op_fdivN (pe_ix (r := rIxL K) ix_list (pv 0) pe_int (fun _ _ => rfl)) (pv 1)) (pg_sub (pv 0) pe_int set_list))
      (pss_one (ps_ret (pv 2))))) pss_nil)
      (pss_cons (ps_augS (pv 0) pe_int get_list pe_int ip_add set_list)
      (pss_cons (ps_asg (pe_op op_mod (pe_callTy c_int rfl T.n_int (by decide +kernel) (pa_cons (pe_op op_add (pe_op op_mul (pe_ix (r := rIxL K) ix_list (pv 0) pe_int (fun _ _ => rfl)) pe_int) (pe_op op_mul (pe_ix (r := rIxL K) ix_list (pv 0) pe_int (fun _ _ => rfl)) pe_int)) pa_nil)) pe_int) (pg_sub (pv 0) pe_int set_list))
      (pss_one (ps_ret (pe_op op_mod (pe_op op_fdiv (pe_op op_mod (pe_callTy c_int rfl T.n_int (by decide +kernel) (pa_cons (pe_op op_add (pe_op op_mul (pe_ix (r := rIxL K) ix_list (pv 0) pe_int (fun _ _ => rfl)) pe_int) (pe_op op_mul (pe_ix (r := rIxL K) ix_list (pv 0) pe_int (fun _ _ => rfl)) pe_int)) pa_nil)) pe_int) pe_int) (pv 1))))))), ?_⟩)
  · obtain ⟨p, n, rfl, _⟩ := h
    rfl
  · obtain ⟨p, n, rfl, h0, h1, ⟨a, b, c, hp⟩, q⟩ := h
    walk_at "go0"
    refine r_ite (fun c => ?_) (fun c => ?_)
    · walk_at "go"
      refine r_setL hp (by decide) (by simp) fun H2 e2 h2 _ => ?_
      walk_at "go"
      exact q _ H2 (Int.emod_nonneg _ (by omega)) (Int.emod_lt_of_pos _ h0) e2 ⟨_, _, _, h2⟩
    · walk_at "go"
      refine r_setL hp (by decide) (by simp) fun H2 e2 h2 _ => ?_
      walk_at "go"
      refine r_setL h2 (by decide) (by simp) fun H3 e3 h3 _ => ?_
      walk_at "go"
      exact q _ H3 (Int.emod_nonneg _ (by omega)) (Int.emod_lt_of_pos _ h0) (e2.trans e3) ⟨_, _, _, h3⟩
end
end K03
namespace K03
open PySem PySem.Spec PyProof.Rows L2 Evl Lay
section
variable {P : Program} {w : World} {K : PySem.W.Frag} {mg : Str → Option Value} {base : Heap} {CB CT CW CTable CBlock CBadRuler CBadWords CBadBook CBadTold CBadPlan CBadText CBadCommand cL__law_refusals PL__law_refusals : Addr} {tkC tkK tkL : Tok}
/-! ### the law's rows -/
def RowAt (K : PySem.W.Frag) (H : Hp) (r : Addr) (sp : Prs) (fr : Int) : Prop := ∃ a ps, H r = some (.tup [.str "table", .ref a, .int fr]) ∧ PB H a ps sp
theorem RowAt.ex {K : PySem.W.Frag} {H H2 : Hp} {r : Addr} {sp : Prs} {fr : Int} (h : RowAt K H r sp fr) (e : Ex H H2) : RowAt K H2 r sp fr := by
  obtain ⟨a, ps, h1, h2⟩ := h
  exact ⟨a, ps, e _ _ h1, h2.ex e⟩
theorem RowAt.pur {K : PySem.W.Frag} {H H2 : Hp} {r p : Addr} {sp : Prs} {fr : Int} (h : RowAt K H r sp fr) (hp : Pur H p) (e : ExB p H H2) (n : 0 < sp.length) : RowAt K H2 r sp fr := by
  obtain ⟨a, ps, h1, h2⟩ := h
  have np : a ≠ p := fun z => by
    obtain ⟨u, v, w, hp⟩ := hp
    have x := h2.1
    rw [z, hp] at x
    cases ps with
    | nil => exact absurd h2.2.1 (by show ¬ 0 = sp.length; omega)
    | cons b ps => cases x
  exact ⟨a, ps, e _ _ (fun z => hp.nt _ (by rw [← z]; exact h1)) h1, h2.exb e np hp.nt⟩
def spCouples : Sp := fun vs H Q _ => ∃ (n : Int), vs = [.int n] ∧ 0 ≤ n ∧ n ≤ 64 ∧ ∀ l qs cs H2, H l = none → Ex H H2 → PB H2 l qs cs → cs.length ≤ 5000 → (∀ a b : Int, (a, b) ∈ cs ↔ 0 ≤ a ∧ a < b ∧ b < n) → Q (.ref l) H2
abbrev s__law_couples : Stmt := top 35
theorem sc__law_couples : FnScope ["many", "found", "width", "place"] ["many"] (defScope s__law_couples) := ⟨rfl, rfl, rfl, by decide +kernel, rfl, by decide +kernel, by decide +kernel⟩
theorem ok_couples (T : Txt K mg CB tkC tkK tkL  CBadRuler CBadWords CBadBook CBadTold CBadPlan CBadText CBadCommand) (F : At K mg "_law_couples" s__law_couples ["many"]) : Def P w K mg base "_law_couples" 1 ["many"] spCouples := by
  refine Def.mk' F sc__law_couples (fun vs H Q E h => ?_) (fun f cdv Ar outer s H vs Q E hr h => ⟨_, (pss_cons (ps_set (i := 1) sc__law_couples.nd rfl (Or.inl rfl) (pe_lst pa_nil))
      (pss_cons (ps_for (passes_of rfl) rfl (pi_range2 rfl T.n_range (pa_cons pe_int (pa_cons (pv 0) pa_nil))) (pg_name (i := 2) sc__law_couples.nd rfl (Or.inr rfl)) (pss_one (ps_set (i := 1) sc__law_couples.nd rfl (Or.inl rfl) (pe_op op_cat (pv 1) (pe_lc (own := [("place", 3)]) (g := gName 3) (tt := tYes) rfl sc__law_couples.nd (pi_range1 rfl T.n_range (pa_cons (pe_op op_sub (pv 0) (pv 2)) pa_nil)) (blkOk_by (own := [("place", 3)]) (N := ["many", "found", "width", "place"]) (sc := defScope s__law_couples) (by decide +kernel)) (fun _ _ _ _ _ => (pg_name (i := 3) sc__law_couples.nd rfl (Or.inl rfl))) (fun _ _ _ _ _ => pts_nil) (fun _ _ _ _ _ => (pe_tup (pa_cons (pv 3) (pa_cons (pe_op op_add (pv 3) (pv 2)) pa_nil)))))))))
      (pss_one (ps_ret (pv 1))))), ?_⟩)
  · obtain ⟨n, rfl, _⟩ := h
    rfl
  · obtain ⟨n, rfl, h0, h64, q⟩ := h
    walk_at "go0"
    refine r_newI0 fun l H1 n1 e1 hl => ?_
    walk_at "go"
    refine forR2 ⟨by decide, by decide⟩ ⟨by omega, by omega⟩ (fun k s h => ∃ l v2 v3 qs cs, s = [some (.int n), some (.ref l), v2, v3] ∧ Ex H h ∧ H l = none ∧ PB h l qs cs ∧ cs.length ≤ 64 * k ∧ ∀ a b : Int, (a, b) ∈ cs ↔ 0 ≤ a ∧ a < b ∧ b - a < 1 + k ∧ b < n) ?_ ?_ ?_
    · exact ⟨l, _, _, [], [], rfl, e1, n1, PB.nil hl, Nat.le_refl _, fun a b => ⟨fun z => (List.not_mem_nil z).elim, fun ⟨_, _, _, _⟩ => by omega⟩⟩
    · rintro k s h hk ⟨l, v2, v3, qs, cs, rfl, e, nl, hB, hc, hm⟩
      walk_at "go"
      refine lcR1 (by omega) (by omega) (fun p i h' => ∃ rs, PB h' p rs ((List.range i).map fun j : Nat => ((j : Int), (j : Int) + (1 + k))) ∧ Ex h h' ∧ h p = none) ?_ ?_ ?_ (fun _ => rfl)
      · exact fun p h' np e' hp => ⟨[], PB.nil hp, e', np⟩
      · rintro p i h' hi ⟨rs, hB', e', np⟩
        walk_at "go"
        refine r_newT (len3 rfl) fun t H3 nt e3 ht => ?_
        refine hB'.appW (by rw [hB'.2.1, List.length_map, List.length_range]; omega) e3 ht fun H5 e5 b5 => ⟨rs ++ [t], ?_, ExB.ex (e'.trans e3) e5 np, np⟩
        rw [List.range_succ, List.map_append]
        exact b5
      · rintro p h' ⟨rs, hB', e', np⟩
        have hl2 := hB'.2.1
        rw [List.length_map, List.length_range] at hl2
        have hl1 := hB.2.1
        walk_at "go"
        refine (hB.ex e').cat hB' (by omega) fun p2 H2 n2 e2 b2 => ?_
        refine r_next ⟨p2, _, _, _, _, rfl, e.trans (e'.trans e2), fresh_back (e.trans e') n2, b2, ?_, fun a b => ?_⟩
        · rw [List.length_append, List.length_map, List.length_range]
          omega
        · rw [List.mem_append, hm, List.mem_map]
          constructor
          · rintro (⟨a0, ab, bl, bn⟩ | ⟨j, hj, z⟩)
            · exact ⟨a0, ab, by omega, bn⟩
            · rw [List.mem_range] at hj
              cases z
              exact ⟨by omega, by omega, by omega, by omega⟩
          · rintro ⟨a0, ab, bl, bn⟩
            by_cases z : b - a < 1 + k
            · exact .inl ⟨a0, ab, z, bn⟩
            · refine .inr ⟨a.toNat, List.mem_range.mpr (by omega), ?_⟩
              rw [Int.toNat_of_nonneg a0, show a + (1 + (k : Int)) = b by omega]
    · rintro s h ⟨l, v2, v3, qs, cs, rfl, e, nl, hB, hc, hm⟩
      walk_at "go"
      refine q l qs cs h nl e hB (by omega) fun a b => (hm a b).trans ⟨fun ⟨x, y, _, z⟩ => ⟨x, y, z⟩, fun ⟨x, y, z⟩ => ⟨x, y, by omega, z⟩⟩
end
end K03
namespace K03
open PySem PySem.Spec PyProof.Rows L2 Evl Lay
section
variable {P : Program} {w : World} {K : PySem.W.Frag} {mg : Str → Option Value} {base : Heap} {CB CT CW CTable CBlock CBadRuler CBadWords CBadBook CBadTold CBadPlan CBadText CBadCommand cL__law_refusals PL__law_refusals : Addr} {tkC tkK tkL : Tok}
/-! ### padded rows -/
def PadAt (K : PySem.W.Frag) (H : Hp) (t : Addr) (r : WP.PRow) (p : Int) : Prop := match r with
  | .tab ns => RowAt K H t (WP.spn ns p) 0
  | .blk n => H t = some (.tup [.str "block", .int n, .int p])
  | .opn => H t = some (.tup [.str "opening"])
theorem PadAt.ex {K : PySem.W.Frag} {H H2 : Hp} {t : Addr} {r : WP.PRow} {p : Int} (h : PadAt K H t r p) (e : Ex H H2) : PadAt K H2 t r p := by
  cases r with
  | tab ns => exact RowAt.ex (K := K) h e
  | blk n => exact e _ _ h
  | opn => exact e _ _ h
def spPadded (K : PySem.W.Frag) : Sp := fun vs H Q _ => ∃ (v : V) (r : WP.PRow) (p : Int), vs = [v, .int p] ∧ Dp K H v (WP.rowD r) ∧ (∀ ns, r = .tab ns → ns.length ≤ 64) ∧ ∀ t H2, Ex H H2 → PadAt K H2 t r p → Q (.ref t) H2
abbrev s__law_padded : Stmt := top 39
theorem sc__law_padded : FnScope ["row", "pad", "one"] ["row", "pad"] (defScope s__law_padded) := ⟨rfl, rfl, rfl, by decide +kernel, rfl, by decide +kernel, by decide +kernel⟩
theorem ok_padded (T : Txt K mg CB tkC tkK tkL  CBadRuler CBadWords CBadBook CBadTold CBadPlan CBadText CBadCommand) (F : At K mg "_law_padded" s__law_padded ["row", "pad"]) : Def P w K mg base "_law_padded" 1 ["row", "pad"] (spPadded K) := by
  refine Def.mk' F sc__law_padded (fun vs H Q E h => ?_) (fun f cdv Ar outer s H vs Q E hr h => ⟨_, (pss_cons (ps_if (pt_cmpR op_eq (pe_ix (r := rIxT K) ix_tup (pv 0) pe_int (fun _ _ => rfl)) pe_str (nomark _)) (pss_one (ps_ret (pe_tup (pa_cons pe_str (pa_cons (pe_lc (own := [("one", 2)]) (g := gName 2) (tt := tYes) rfl sc__law_padded.nd (pi_list (pe_ix (r := rIxT K) ix_tup (pv 0) pe_int (fun _ _ => rfl))) (blkOk_by (own := [("one", 2)]) (N := ["row", "pad", "one"]) (sc := defScope s__law_padded) (by decide +kernel)) (fun _ _ _ _ _ => (pg_name (i := 2) sc__law_padded.nd rfl (Or.inl rfl))) (fun _ _ _ _ _ => pts_nil) (fun _ _ _ _ _ => (pe_tup (pa_cons (pv 2) (pa_cons (pe_op op_add (pv 2) (pv 1)) pa_nil))))) (pa_cons pe_int pa_nil)))))) pss_nil)
      (pss_cons (ps_if (pt_cmpR op_eq (pe_ix (r := rIxT K) ix_tup (pv 0) pe_int (fun _ _ => rfl)) pe_str (nomark _)) (pss_one (ps_ret (pe_tup (pa_cons pe_str (pa_cons (pe_ix (r := rIxT K) ix_tup (pv 0) pe_int (fun _ _ => rfl)) (pa_cons (pv 1) pa_nil)))))) pss_nil)
      (pss_one (ps_ret (pe_tup (pa_cons pe_str pa_nil)))))), ?_⟩)
  · obtain ⟨v, r, p, rfl, _⟩ := h
    rfl
  · obtain ⟨v, r, p, rfl, hd, h64, q⟩ := h
    cases r with
    | tab ns =>
      obtain ⟨t, l, rfl, ht, hns⟩ := WP.row_tab hd
      have l64 := h64 ns rfl
      walk_at "go0"
      refine r_yes rfl ?_
      walk_at "go"
      refine lcI hns (fun l i h2 => ∃ qs, PB h2 l qs (WP.spn (ns.take i) p) ∧ Ex H h2 ∧ H l = none) ?_ ?_ ?_ ?_ (fun _ => rfl)
      · exact fun l h2 n e hl => ⟨[], PB.nil hl, e, n⟩
      · rintro l i h2 _ ⟨qs, _, e, _⟩
        exact ex_l e hns
      · rintro l i v h2 hv ⟨qs, hB, e, n⟩
        obtain ⟨hi, ez⟩ := List.getElem?_eq_some_iff.mp hv
        walk_at "go"
        refine r_newT (len3 rfl) fun t H6 _ e6 ht => ?_
        refine hB.appW (by rw [hB.2.1, WP.spn_len, List.length_take]; omega) e6 ht fun H7 e7 b7 => ⟨qs ++ [t], ?_, ExB.ex (e.trans e6) e7 n, n⟩
        unfold WP.spn at b7 ⊢
        rw [← take_snoc hi, List.map_append, ez]
        exact b7
      rintro l2 H6 ⟨qs, hB, e6, n6⟩
      rw [List.take_length] at hB
      walk_at "go"
      exact r_newT (len3 rfl) fun t H7 _ e7 ht7 => q t H7 (e6.trans e7) ⟨l2, qs, ht7, hB.ex e7⟩
    | blk n =>
      obtain ⟨t, rfl, ht⟩ := WP.row_blk hd
      walk_at "go0"
      refine r_no (by decide +kernel) ?_
      walk_at "go"
      refine r_yes rfl ?_
      walk_at "go"
      exact r_newT (len3 rfl) fun t H7 _ e7 ht7 => q t H7 e7 ht7
    | opn =>
      obtain ⟨t, rfl, ht⟩ := WP.row_opn hd
      walk_at "go0"
      refine r_no (by decide +kernel) ?_
      walk_at "go"
      refine r_no (by decide +kernel) ?_
      walk_at "go"
      exact r_newT (len3 rfl) fun t H7 _ e7 ht7 => q t H7 e7 ht7
def spFalls3 (K : PySem.W.Frag) : Sp := fun vs H Q _ => ∃ (r : Addr) (pr : WP.PRow) (p : Int), vs = [.ref r] ∧ PadAt K H r pr p ∧ 0 ≤ p ∧ (∀ ns, pr = .tab ns → ns.length ≤ 64) ∧
  ∀ l ds H2, Ex H H2 → Dp K H2 (.ref l) (.list ds) → (∀ d ∈ ds, Fl d) → (ds = [] ↔ WP.m0 pr p = true) → Q (.ref l) H2
abbrev s__law_falls : Stmt := top 34
theorem sc__law_falls : FnScope ["row", "spans", "p", "q"] ["row"] (defScope s__law_falls) := ⟨rfl, rfl, rfl, by decide +kernel, rfl, by decide +kernel, by decide +kernel⟩
theorem ok_falls (T : Txt K mg CB tkC tkK tkL  CBadRuler CBadWords CBadBook CBadTold CBadPlan CBadText CBadCommand) (F : At K mg "_law_falls" s__law_falls ["row"]) (d__law_couples : Def P w K mg base "_law_couples" 1 ["many"] spCouples) : Def P w K mg base "_law_falls" 2 ["row"] (spFalls3 K) := by
  refine Def.mk' F sc__law_falls (fun vs H Q E h => ?_) (fun f cdv Ar outer s H vs Q E hr h => ⟨_, (pss_cons (ps_if (pt_cmpR op_ne (pe_ix (r := rIxT K) ix_tup (pv 0) pe_int (fun _ _ => rfl)) pe_str (nomark _)) (pss_one (ps_ret (pe_lst pa_nil))) pss_nil)
      (pss_cons (ps_set (i := 1) sc__law_falls.nd rfl (Or.inr rfl) (pe_ix (r := rIxT K) ix_tup (pv 0) pe_int (fun _ _ => rfl)))
      (pss_one (ps_ret (pe_lc (own := [("p", 2), ("q", 3)]) (g := (gTup K 2 (gCons (gName 2) (gCons (gName 3) gNil)))) rfl sc__law_falls.nd (pi_list (pe_d d__law_couples (hr.mono (by decide)) (passes_call (takes_of rfl rfl rfl rfl) (fun _ _ _ _ h => h)) (pa_cons (pe_callB (r := Lay.rLen K) c_len rfl T.n_len PySem.boot_len (pa_cons (pv 1) pa_nil)) pa_nil))) (blkOk_by (own := [("p", 2), ("q", 3)]) (N := ["row", "spans", "p", "q"]) (sc := defScope s__law_falls) (by decide +kernel)) (fun _ _ _ _ _ => (pg_tup (n := 2) rfl (pgs_cons (pg_name (i := 2) sc__law_falls.nd rfl (Or.inl rfl)) (pgs_cons (pg_name (i := 3) sc__law_falls.nd rfl (Or.inl rfl)) pgs_nil)))) (fun _ _ _ _ _ => (pts_one (pt_cmpR op_lt (pe_ix (r := rIxT K) ix_tup (pe_ix (r := rIxL K) ix_list (pv 1) (pv 3) (fun _ _ => rfl)) pe_int (fun _ _ => rfl)) (pe_ix (r := rIxT K) ix_tup (pe_ix (r := rIxL K) ix_list (pv 1) (pv 2) (fun _ _ => rfl)) pe_int (fun _ _ => rfl)) (nomark _)))) (fun _ _ _ _ _ => (pe_tup (pa_cons (pe_op op_add (pv 2) pe_int) (pa_cons (pe_op op_add (pv 3) pe_int) (pa_cons (pe_op op_sub (pe_ix (r := rIxT K) ix_tup (pe_ix (r := rIxL K) ix_list (pv 1) (pv 2) (fun _ _ => rfl)) pe_int (fun _ _ => rfl)) (pe_ix (r := rIxT K) ix_tup (pe_ix (r := rIxL K) ix_list (pv 1) (pv 3) (fun _ _ => rfl)) pe_int (fun _ _ => rfl))) pa_nil)))))))))), ?_⟩)
  · obtain ⟨r, pr, p, rfl, _⟩ := h
    rfl
  · obtain ⟨r, pr, p, rfl, hPad, hp0, h64', q'⟩ := h
    cases pr with
    | blk n =>
      have h1 : H r = some (.tup [.str "block", .int n, .int p]) := hPad
      walk_at "go0"
      refine r_yesN (by decide +kernel) ?_
      walk_at "go"
      exact r_newI0 fun l H1 n1 e1 hl => q' l [] H1 e1 (.lst (L2.SqL.of hl) .nil) (fun _ z => (List.not_mem_nil z).elim) ⟨fun _ => decide_eq_true hp0, fun _ => rfl⟩
    | opn =>
      have h1 : H r = some (.tup [.str "opening"]) := hPad
      walk_at "go0"
      refine r_yesN (by decide +kernel) ?_
      walk_at "go"
      exact r_newI0 fun l H1 n1 e1 hl => q' l [] H1 e1 (.lst (L2.SqL.of hl) .nil) (fun _ z => (List.not_mem_nil z).elim) ⟨fun _ => decide_eq_true hp0, fun _ => rfl⟩
    | tab ns =>
      obtain ⟨a, ps, h1, hB⟩ := hPad
      have h64 : (WP.spn ns p).length ≤ 64 := by rw [WP.spn_len]; exact h64' ns rfl
      have q : ∀ l ts H2, Ex H H2 → TB H2 l ts → (ts = [] ↔ ¬ WK.fallP (WP.spn ns p)) → Q (.ref l) H2 := fun l ts H2 e hT hz => by
        obtain ⟨ds, d1, d2, d3⟩ := dp_t3s (K := K) hT.2
        refine q' l ds H2 e (.lst (L2.SqL.of hT.1) d1) d2 (d3.trans (hz.trans ((WP.fall_pad hp0).trans ?_)))
        exact ⟨fun z => decide_eq_true z, fun z => of_decide_eq_true z⟩
      generalize WP.spn ns p = sp at *
      have hP : PrL K H a ps sp := hB.pr
      walk_at "go0"
      refine r_noN rfl ?_
      walk_at "go"
      refine ⟨_, rfl, by omega, by omega, fun c qs cs H1 nc e1 hC hcl hcm => ?_⟩
      have hP1 := hP.ex e1
      refine lcP hC.pr (fun p i h => ∃ ts, TB h p ts ∧ Ex H1 h ∧ H1 p = none ∧ ts.length ≤ i ∧ (ts = [] ↔ ∀ j : Int, 0 ≤ j → j < i → ¬ zh sp (zh cs j) < zl sp (zl cs j))) ?_ ?_ ?_ ?_
      · exact fun p h np e hp => ⟨[], TB.nil hp, e, np, Nat.le_refl _, fun _ j a b => by omega, fun _ => rfl⟩
      · rintro p i h _ ⟨ts, _, e, _⟩
        exact ex_l e (L2.SqL.of hC.1)
      · rintro p i h hi ⟨ts, hT, e, np, hl, hz⟩
        have hg := (hC.ex e).2.2 i (by omega) (by omega)
        have hP2 := hP1.ex e
        have mem : (zl cs i, zh cs i) ∈ cs := by
          unfold zl zh
          rw [Int.toNat_natCast, List.getD_eq_getElem?_getD, List.getElem?_eq_getElem hi]
          exact List.getElem_mem hi
        obtain ⟨m0, m1, m2⟩ := (hcm _ _).mp mem
        walk_at "go"
        refine ⟨rfl, ?_⟩
        walk_at "go"
        refine r_ite (fun z => ?_) (fun z => ?_)
        · walk_at "go"
          refine r_newT (len3 rfl) fun t H3 nt e3 ht => ?_
          refine hT.appW (by omega) e3 ⟨_, _, _, .inr ⟨_, rfl⟩, ht⟩ fun H5 e5 b5 => ⟨ts ++ [t], b5, ExB.ex (e.trans e3) e5 np, np, by rw [List.length_append]; show ts.length + 1 ≤ _; omega, fun y => ?_, fun y => ?_⟩
          · exact absurd y (by simp)
          · exact absurd z (y i (by omega) (by omega))
        · refine ⟨ts, hT, e, np, by omega, fun y j j0 j1 => ?_, fun y => hz.mpr fun j j0 j1 => y j j0 (by omega)⟩
          by_cases ej : j = i
          · rw [ej]; exact z
          · exact hz.mp y j j0 (by omega)
      · rintro p h ⟨ts, hT, e, np, hl, hz⟩
        walk_at "go"
        refine q p ts h (e1.trans e) hT (hz.trans ⟨fun y ⟨u, v, u0, uv, vn, k⟩ => ?_, fun y j j0 j1 k => ?_⟩)
        · obtain ⟨j, hj, ej⟩ := List.mem_iff_getElem.mp ((hcm u v).mpr ⟨u0, uv, vn⟩)
          have w := y j (by omega) (by omega)
          have eu : zl cs j = u := by
            unfold zl
            rw [Int.toNat_natCast, List.getD_eq_getElem?_getD, List.getElem?_eq_getElem hj, ej]
            rfl
          have ev : zh cs j = v := by
            unfold zh
            rw [Int.toNat_natCast, List.getD_eq_getElem?_getD, List.getElem?_eq_getElem hj, ej]
            rfl
          rw [eu, ev] at w
          exact w k
        · obtain ⟨n, rfl⟩ : ∃ n : Nat, j = n := ⟨j.toNat, by omega⟩
          have hj : n < cs.length := by omega
          have mem : (zl cs n, zh cs n) ∈ cs := by
            unfold zl zh
            rw [Int.toNat_natCast, List.getD_eq_getElem?_getD, List.getElem?_eq_getElem hj]
            exact List.getElem_mem hj
          obtain ⟨m0, m1, m2⟩ := (hcm _ _).mp mem
          exact y ⟨_, _, m0, m1, m2, k⟩
def spLeaps3 (K : PySem.W.Frag) : Sp := fun vs H Q _ => ∃ (r : Addr) (pr : WP.PRow) (p : Int), vs = [.ref r] ∧ PadAt K H r pr p ∧ 0 ≤ p ∧ (∀ ns, pr = .tab ns → ns.length ≤ 64) ∧
  ∀ l ds H2, Ex H H2 → Dp K H2 (.ref l) (.list ds) → (∀ d ∈ ds, Fl d) → (ds = [] ↔ WP.m1 pr p = true) → Q (.ref l) H2
abbrev s__law_leaps : Stmt := top 36
theorem sc__law_leaps : FnScope ["row", "found", "place", "before", "here"] ["row"] (defScope s__law_leaps) := ⟨rfl, rfl, rfl, by decide +kernel, rfl, by decide +kernel, by decide +kernel⟩
theorem ok_leaps (T : Txt K mg CB tkC tkK tkL  CBadRuler CBadWords CBadBook CBadTold CBadPlan CBadText CBadCommand) (F : At K mg "_law_leaps" s__law_leaps ["row"]) : Def P w K mg base "_law_leaps" 1 ["row"] (spLeaps3 K) := by
  refine Def.mk' F sc__law_leaps (fun vs H Q E h => ?_) (fun f cdv Ar outer s H vs Q E hr h => ⟨_, (pss_cons (ps_if (pt_cmpR op_eq (pe_ix (r := rIxT K) ix_tup (pv 0) pe_int (fun _ _ => rfl)) pe_str (nomark _)) (pss_one (ps_ret (pe_lst (pa_cons (pe_tup (pa_cons pe_int (pa_cons pe_non (pa_cons pe_bl pa_nil)))) pa_nil)))) pss_nil)
      (pss_cons (ps_if (pt_cmpR op_eq (pe_ix (r := rIxT K) ix_tup (pv 0) pe_int (fun _ _ => rfl)) pe_str (nomark _)) (pss_one (ps_ret (pe_ifExp (pt_cmpR op_ge (pe_ix (r := rIxT K) ix_tup (pv 0) pe_int (fun _ _ => rfl)) (pe_op op_add (pe_ix (r := rIxT K) ix_tup (pv 0) pe_int (fun _ _ => rfl)) pe_int) (nomark _)) (pe_lst (pa_cons (pe_tup (pa_cons pe_int (pa_cons (pe_op op_sub (pe_op op_sub (pe_ix (r := rIxT K) ix_tup (pv 0) pe_int (fun _ _ => rfl)) pe_int) (pe_ix (r := rIxT K) ix_tup (pv 0) pe_int (fun _ _ => rfl))) (pa_cons pe_bl pa_nil)))) pa_nil)) (pe_lst pa_nil)))) pss_nil)
      (pss_cons (ps_set (i := 1) sc__law_leaps.nd rfl (Or.inl rfl) (pe_lst pa_nil))
      (pss_cons (ps_for (passes_of rfl) rfl (pi_range2 rfl T.n_range (pa_cons pe_int (pa_cons (pe_callB (r := Lay.rLen K) c_len rfl T.n_len PySem.boot_len (pa_cons (pe_ix (r := rIxT K) ix_tup (pv 0) pe_int (fun _ _ => rfl)) pa_nil)) pa_nil))) (pg_name (i := 2) sc__law_leaps.nd rfl (Or.inl rfl)) (pss_cons (ps_set (i := 3) sc__law_leaps.nd rfl (Or.inl rfl) (pe_ix (r := rIxL K) ix_list (pe_ix (r := rIxT K) ix_tup (pv 0) pe_int (fun _ _ => rfl)) (pe_op op_sub (pv 2) pe_int) (fun _ _ => rfl)))
      (pss_cons (ps_set (i := 4) sc__law_leaps.nd rfl (Or.inl rfl) (pe_ix (r := rIxL K) ix_list (pe_ix (r := rIxT K) ix_tup (pv 0) pe_int (fun _ _ => rfl)) (pv 2) (fun _ _ => rfl)))
      (pss_cons (ps_if (pt_cmpR op_gt (pe_ix (r := rIxT K) ix_tup (pv 4) pe_int (fun _ _ => rfl)) (pe_ix (r := rIxT K) ix_tup (pv 3) pe_int (fun _ _ => rfl)) (nomark _)) (pss_one (ps_expr (pe_bm PySem.F.plainAttrs_list PySem.F.slot_list_append PySem.F.type_list_append mt_append (pv 1) (pa_cons (pe_tup (pa_cons (pe_op op_add (pv 2) pe_int) (pa_cons (pe_op op_sub (pe_ix (r := rIxT K) ix_tup (pv 4) pe_int (fun _ _ => rfl)) (pe_ix (r := rIxT K) ix_tup (pv 3) pe_int (fun _ _ => rfl))) (pa_cons pe_bl pa_nil)))) pa_nil)))) pss_nil)
      (pss_one (ps_if (pt_cmpR op_gt (pe_ix (r := rIxT K) ix_tup (pv 3) pe_int (fun _ _ => rfl)) (pe_ix (r := rIxT K) ix_tup (pv 4) pe_int (fun _ _ => rfl)) (nomark _)) (pss_one (ps_expr (pe_bm PySem.F.plainAttrs_list PySem.F.slot_list_append PySem.F.type_list_append mt_append (pv 1) (pa_cons (pe_tup (pa_cons (pe_op op_add (pv 2) pe_int) (pa_cons (pe_op op_sub (pe_ix (r := rIxT K) ix_tup (pv 3) pe_int (fun _ _ => rfl)) (pe_ix (r := rIxT K) ix_tup (pv 4) pe_int (fun _ _ => rfl))) (pa_cons pe_bl pa_nil)))) pa_nil)))) pss_nil))))))
      (pss_one (ps_ret (pv 1))))))), ?_⟩)
  · obtain ⟨r, pr, p, rfl, _⟩ := h
    rfl
  · obtain ⟨r, pr, p, rfl, hPad, hp0, h64', q'⟩ := h
    have fl1 : ∀ d, Fl d → ∀ e ∈ [d], Fl e := fun d h e he => by rw [List.mem_singleton.mp he]; exact h
    cases pr with
    | opn =>
      have h1 : H r = some (.tup [.str "opening"]) := hPad
      walk_at "go0"
      refine r_yes rfl ?_
      walk_at "go"
      refine r_newT (len3 rfl) fun t H1 n1 e1 ht => ?_
      walk_at "go"
      refine r_newL (len3 rfl) fun l H2 n2 e2 hl => ?_
      refine q' l [.tuple [.int 0, .none, .bool true]] H2 (e1.trans e2) (.lst (L2.SqL.of hl) (.cons (.tup (L2.SqT.of (e2 _ _ ht)) (.cons (.int 0) (.cons .non (.cons (.bl true) .nil)))) .nil)) (fl1 _ ⟨rfl, by simp [PyData.depth, PyData.depthAll]⟩) ⟨fun z => absurd z (by simp), fun z => absurd (show false = true from z) (by decide)⟩
    | blk n =>
      have h1 : H r = some (.tup [.str "block", .int n, .int p]) := hPad
      walk_at "go0"
      refine r_no (by decide +kernel) ?_
      walk_at "go"
      refine r_yes rfl ?_
      walk_at "go"
      refine r_tIf ?_
      walk_at "go"
      refine r_ite (fun c => ?_) (fun c => ?_)
      · walk_at "go"
        refine r_newT (len3 rfl) fun t H1 n1 e1 ht => ?_
        walk_at "go"
        refine r_newL (len3 rfl) fun l H2 n2 e2 hl => ?_
        refine q' l [.tuple [.int 0, .int (n - 1 - p), .bool true]] H2 (e1.trans e2) (.lst (L2.SqL.of hl) (.cons (.tup (L2.SqT.of (e2 _ _ ht)) (.cons (.int 0) (.cons (.int _) (.cons (.bl true) .nil)))) .nil)) (fl1 _ ⟨by simp [PyData.canLay0, PyData.canLayAll0], by simp [PyData.depth, PyData.depthAll]⟩) ⟨fun z => absurd z (by simp), fun z => ?_⟩
        have z' : n - 1 ≤ p := of_decide_eq_true z
        omega
      · walk_at "go"
        exact r_newI0 fun l H1 n1 e1 hl => q' l [] H1 e1 (.lst (L2.SqL.of hl) .nil) (fun _ z => (List.not_mem_nil z).elim) ⟨fun _ => decide_eq_true (by show n - 1 ≤ p; omega), fun _ => rfl⟩
    | tab ns =>
      obtain ⟨a, ps, h1, hB⟩ := hPad
      have h64 : (WP.spn ns p).length ≤ 64 := by rw [WP.spn_len]; exact h64' ns rfl
      have q : ∀ l ts H2, Ex H H2 → TB H2 l ts → (ts = [] ↔ ¬ WK.leapP (WP.spn ns p)) → Q (.ref l) H2 := fun l ts H2 e hT hz => by
        obtain ⟨ds, d1, d2, d3⟩ := dp_t3s (K := K) hT.2
        refine q' l ds H2 e (.lst (L2.SqL.of hT.1) d1) d2 (d3.trans (hz.trans ((WP.leap_pad hp0).trans ?_)))
        exact ⟨fun z => decide_eq_true z, fun z => of_decide_eq_true z⟩
      generalize WP.spn ns p = sp at *
      have hP : PrL K H a ps sp := hB.pr
      walk_at "go0"
      refine r_no (by decide +kernel) ?_
      walk_at "go"
      refine r_no (by decide +kernel) ?_
      walk_at "go"
      refine r_newI0 fun l H1 nl e1 hl => ?_
      have hP1 := hP.ex e1
      walk_at "go"
      refine forR2 ⟨by decide, by decide⟩ ⟨by omega, by omega⟩ (fun k s h => ∃ v2 v3 v4 ts, s = [some (.ref r), some (.ref l), v2, v3, v4] ∧ Ex H h ∧ TB h l ts ∧ ts.length ≤ 2 * k ∧ (ts = [] ↔ ∀ j : Int, 1 ≤ j → j < 1 + k → ¬ (zh sp (j - 1) < zl sp j ∨ zh sp j < zl sp (j - 1)))) ?_ ?_ ?_
      · exact ⟨_, _, _, [], rfl, e1, TB.nil hl, Nat.le_refl _, fun _ j a b => by omega, fun _ => rfl⟩
      · rintro k s h hk ⟨v2, v3, v4, ts, rfl, e, hT, hn, hz⟩
        have hP2 := hP.ex e
        have hr := e _ _ h1
        have hTl := hT.1
        have step : ∀ (ts' : List Addr), (ts' = [] ↔ ts = [] ∧ ¬ (zh sp k < zl sp (1 + k) ∨ zh sp (1 + k) < zl sp k)) → (ts' = [] ↔ ∀ j : Int, 1 ≤ j → j < 1 + ((k + 1 : Nat) : Int) → ¬ (zh sp (j - 1) < zl sp j ∨ zh sp j < zl sp (j - 1))) := by
          intro ts' w
          rw [w, hz]
          constructor
          · rintro ⟨x, y⟩ j j0 j1
            by_cases ej : j = 1 + k
            · rw [ej, show (1 + (k : Int)) - 1 = k by omega]; exact y
            · exact x j j0 (by omega)
          · intro x
            refine ⟨fun j j0 j1 => x j j0 (by omega), ?_⟩
            have y := x (1 + k) (by omega) (by omega)
            rw [show (1 + (k : Int)) - 1 = k by omega] at y
            exact y
        walk_at "go"
        have g1 := hP2.2.2 (1 + k) (by omega) (by omega)
        have g0 := hP2.2.2 (1 + k - 1) (by omega) (by omega)
        rw [show (1 + (k : Int)) - 1 = k by omega] at g0 ⊢
        walk_at "go"
        refine r_ite (fun z => ?_) (fun z => ?_)
        · walk_at "go"
          refine r_newT (len3 rfl) fun t H3 nt e3 ht => ?_
          walk_at "go"
          refine hT.app (by omega) e3 ⟨_, _, _, .inl ⟨_, rfl⟩, ht⟩ fun H5 e5 b5 => ?_
          have hl3 := e3 _ _ hT.1
          have f0 : H5 (ga ps k) = some (.tup [.int (zl sp k), .int (zh sp k)]) := e5 _ _ (fun y => by have := e3 _ _ g0; rw [y, hl3] at this; cases this) (e3 _ _ g0)
          have f1 : H5 (ga ps (1 + k)) = some (.tup [.int (zl sp (1 + k)), .int (zh sp (1 + k))]) := e5 _ _ (fun y => by have := e3 _ _ g1; rw [y, hl3] at this; cases this) (e3 _ _ g1)
          have e6 : Ex H H5 := ExB.ex (e.trans e3) e5 nl
          have b5l := b5.1
          walk_at "go"
          refine r_ite (fun z2 => ?_) (fun z2 => ?_)
          · walk_at "go"
            refine r_newT (len3 rfl) fun t2 H6 nt2 e7 ht2 => ?_
            walk_at "go"
            refine b5.app (by rw [List.length_append]; show ts.length + 1 < _; omega) e7 ⟨_, _, _, .inl ⟨_, rfl⟩, ht2⟩ fun H8 e8 b8 => ?_
            refine r_next ⟨_, _, _, _, rfl, ExB.ex (e6.trans e7) e8 nl, b8, ?_, step _ ?_⟩
            · rw [List.length_append, List.length_append]
              show ts.length + 1 + 1 ≤ _
              omega
            · exact ⟨fun y => absurd y (by simp), fun ⟨_, y⟩ => absurd (.inl z) y⟩
          · refine r_next ⟨_, _, _, _, rfl, e6, b5, ?_, step _ ?_⟩
            · rw [List.length_append]
              show ts.length + 1 ≤ _
              omega
            · exact ⟨fun y => absurd y (by simp), fun ⟨_, y⟩ => absurd (.inl z) y⟩
        · walk_at "go"
          refine r_ite (fun z2 => ?_) (fun z2 => ?_)
          · walk_at "go"
            refine r_newT (len3 rfl) fun t2 H6 nt2 e7 ht2 => ?_
            walk_at "go"
            refine hT.app (by omega) e7 ⟨_, _, _, .inl ⟨_, rfl⟩, ht2⟩ fun H8 e8 b8 => ?_
            refine r_next ⟨_, _, _, _, rfl, ExB.ex (e.trans e7) e8 nl, b8, ?_, step _ ?_⟩
            · rw [List.length_append]
              show ts.length + 1 ≤ _
              omega
            · exact ⟨fun y => absurd y (by simp), fun ⟨_, y⟩ => absurd (.inr z2) y⟩
          · refine r_next ⟨_, _, _, _, rfl, e, hT, by omega, step _ ⟨fun y => ⟨y, fun w => w.elim z z2⟩, fun y => y.1⟩⟩
      · rintro s h ⟨v2, v3, v4, ts, rfl, e, hT, hn, hz⟩
        walk_at "go"
        refine q l ts h e hT (hz.trans ⟨fun y ⟨i, i0, i1, w⟩ => y i i0 (by omega) w, fun y j j0 j1 w => y ⟨j, j0, by omega, w⟩⟩)
end
end K03
namespace K03
open PySem PySem.Spec PyProof.Rows L2 Evl Lay
section
variable {P : Program} {w : World} {K : PySem.W.Frag} {mg : Str → Option Value} {base : Heap} {CB CT CW CTable CBlock CBadRuler CBadWords CBadBook CBadTold CBadPlan CBadText CBadCommand cL__law_refusals PL__law_refusals : Addr} {tkC tkK tkL : Tok}
/-! ### all pads, marks -/
/-- at p stands a list of lists of ints -/
def WA (h : Hp) (p : Addr) (W : List (List Int)) : Prop := ∃ ps : List Addr, h p = some (.lst (ps.map V.ref)) ∧ ps.length = W.length ∧ (∀ (i : Nat) (c : Addr) (u : List Int), ps[i]? = some c → W[i]? = some u → h c = some (.lst (u.map V.int))) ∧ ∀ c ∈ ps, c ≠ p
theorem WA.nil {h : Hp} {p : Addr} (hp : h p = some (.lst [])) : WA h p [] := ⟨[], hp, rfl, (fun i c u a b => by cases a), fun c m => (List.not_mem_nil m).elim⟩
theorem WA.ex {h h2 : Hp} {p : Addr} {W : List (List Int)} (b : WA h p W) (e : Ex h h2) : WA h2 p W := by
  obtain ⟨ps, h1, h2, h3, h4⟩ := b
  exact ⟨ps, e _ _ h1, h2, fun i c u a b => e _ _ (h3 i c u a b), h4⟩
theorem WA.lst {h : Hp} {p : Addr} {W : List (List Int)} (b : WA h p W) : ∃ xs, h p = some (.lst xs) ∧ xs.length = W.length := by
  obtain ⟨ps, h1, h2, _⟩ := b
  exact ⟨_, h1, by rw [List.length_map, h2]⟩
theorem WA.put {h H5 : Hp} {p c : Addr} {W : List (List Int)} {u : List Int} (b : WA h p W) (hc : h c = some (.lst (u.map V.int))) (n : c ≠ p) (e5 : ExB p h H5) (h5 : ∀ xs, h p = some (.lst xs) → H5 p = some (.lst (xs ++ [.ref c]))) : WA H5 p (W ++ [u]) := by
  obtain ⟨ps, h1, h2, h3, h4⟩ := b
  refine ⟨ps ++ [c], by rw [List.map_append]; exact h5 _ h1, by rw [List.length_append, List.length_append, h2]; rfl, fun i c' u' a b => ?_, fun c' m => ?_⟩
  · by_cases k : i < ps.length
    · rw [List.getElem?_append_left k] at a
      rw [List.getElem?_append_left (by omega)] at b
      exact e5 _ _ (h4 c' (List.mem_of_getElem? a)) (h3 i c' u' a b)
    · have i0 : i = ps.length := by
        have z := (List.getElem?_eq_some_iff.mp a).1
        rw [List.length_append] at z
        change i < ps.length + 1 at z
        omega
      rw [i0, List.getElem?_append_right (Nat.le_refl _), Nat.sub_self] at a
      rw [i0, h2, List.getElem?_append_right (Nat.le_refl _), Nat.sub_self] at b
      cases a
      cases b
      exact e5 _ _ n hc
  · rcases List.mem_append.mp m with m | m
    · exact h4 c' m
    · rw [List.mem_singleton.mp m]; exact n
theorem WA.appW {h : Hp} {p c : Addr} {W : List (List Int)} {u : List Int} {N : Hp → Prop} (b : WA h p W) (hc : h c = some (.lst (u.map V.int))) (n : c ≠ p) (lt : W.length < 100000) (q : ∀ H5, ExB p h H5 → WA H5 p (W ++ [u]) → N H5) : AppW p N (.ref c) h := by
  obtain ⟨xs, hx, hl⟩ := b.lst
  exact Lay.appW hx (by omega) fun H5 e5 h5 => q H5 e5 (b.put hc n e5 fun ys hy => by
    rw [hx] at hy
    cases hy
    exact h5)
theorem WA.cat {h : Hp} {l p : Addr} {W W2 : List (List Int)} {Q : VK} (b : WA h l W) (c : WA h p W2) (lt : W.length + W2.length ≤ 100000) (q : ∀ r H2, h r = none → Ex h H2 → WA H2 r (W ++ W2) → Q (.ref r) H2) : rCat (.ref l) (.ref p) h Q := by
  obtain ⟨ps, b1, b2, b3, b4⟩ := b
  obtain ⟨qs, c1, c2, c3, c4⟩ := c
  refine r_cat b1 c1 (by rw [List.length_map, List.length_map]; omega) fun r H2 n e h2 => q r H2 n e ⟨ps ++ qs, by rw [List.map_append]; exact h2, by rw [List.length_append, List.length_append, b2, c2], fun i c u x y => ?_, fun c m => ?_⟩
  · by_cases k : i < ps.length
    · rw [List.getElem?_append_left k] at x
      rw [List.getElem?_append_left (by omega)] at y
      exact e _ _ (b3 i c u x y)
    · rw [List.getElem?_append_right (by omega)] at x
      rw [List.getElem?_append_right (by omega), ← b2] at y
      exact e _ _ (c3 _ c u x y)
  · rcases List.mem_append.mp m with m | m
    · obtain ⟨i, hi⟩ := List.getElem?_of_mem m
      have hw : i < W.length := by have := (List.getElem?_eq_some_iff.mp hi).1; omega
      exact ne_of_none (b3 i c _ hi (List.getElem?_eq_getElem hw)) n
    · obtain ⟨i, hi⟩ := List.getElem?_of_mem m
      have hw : i < W2.length := by have := (List.getElem?_eq_some_iff.mp hi).1; omega
      exact ne_of_none (c3 i c _ hi (List.getElem?_eq_getElem hw)) n
theorem WA.get {h : Hp} {p : Addr} {W : List (List Int)} (b : WA h p W) : ∃ xs, SqL K h p xs ∧ xs.length = W.length ∧ ∀ (h2 : Hp), Ex h h2 → ∀ (i : Nat) x, xs[i]? = some x → ∃ c u, x = .ref c ∧ W[i]? = some u ∧ h2 c = some (.lst (u.map V.int)) := by
  obtain ⟨ps, h1, h2, h3, h4⟩ := b
  refine ⟨_, L2.SqL.of h1, by rw [List.length_map, h2], fun h2' e i x hx => ?_⟩
  rw [List.getElem?_map] at hx
  cases hp : ps[i]? with
  | none => rw [hp] at hx; cases hx
  | some c =>
    rw [hp] at hx
    cases hx
    have hw : i < W.length := by have := (List.getElem?_eq_some_iff.mp hp).1; omega
    exact ⟨c, W[i], rfl, List.getElem?_eq_getElem hw, e _ _ (h3 i c _ hp (List.getElem?_eq_getElem hw))⟩
def spAll (K : PySem.W.Frag) : Sp := fun vs H Q _ => ∃ (a : Addr) (rs : List WP.PRow), vs = [.ref a] ∧ Dp K H (.ref a) (WP.rowsD rs) ∧ rs.length ≤ 4 ∧ ∀ w H2, Ex H H2 → WA H2 w (WP.wayN rs rs.length) → Q (.ref w) H2
abbrev s__law_all_pads : Stmt := top 40
theorem sc__law_all_pads : FnScope ["rows", "ways", "row", "longer", "way", "pad"] ["rows"] (defScope s__law_all_pads) := ⟨rfl, rfl, rfl, by decide +kernel, rfl, by decide +kernel, by decide +kernel⟩
theorem ok_all (T : Txt K mg CB tkC tkK tkL  CBadRuler CBadWords CBadBook CBadTold CBadPlan CBadText CBadCommand) (F : At K mg "_law_all_pads" s__law_all_pads ["rows"]) : Def P w K mg base "_law_all_pads" 1 ["rows"] (spAll K) := by
  refine Def.mk' F sc__law_all_pads (fun vs H Q E h => ?_) (fun f cdv Ar outer s H vs Q E hr h => ⟨_, (pss_cons (ps_set (i := 1) sc__law_all_pads.nd rfl (Or.inl rfl) (pe_lst (pa_cons (pe_lst pa_nil) pa_nil)))
      (pss_cons (ps_for (passes_of rfl) rfl (pi_list (pv 0)) (pg_name (i := 2) sc__law_all_pads.nd rfl (Or.inl rfl)) (pss_cons (ps_set (i := 3) sc__law_all_pads.nd rfl (Or.inl rfl) (pe_lst pa_nil))
      (pss_cons (ps_for (passes_of rfl) rfl (pi_list (pv 1)) (pg_name (i := 4) sc__law_all_pads.nd rfl (Or.inr rfl)) (pss_one (ps_set (i := 3) sc__law_all_pads.nd rfl (Or.inl rfl) (pe_op op_cat (pv 3) (pe_lc (own := [("pad", 5)]) (g := gName 5) (tt := tYes) rfl sc__law_all_pads.nd (pi_range1 rfl T.n_range (pa_cons (pe_ifExp (pt_cmpR op_ne (pe_ix (r := rIxT K) ix_tup (pv 2) pe_int (fun _ _ => rfl)) pe_str (nomark _)) pe_int pe_int) pa_nil)) (blkOk_by (own := [("pad", 5)]) (N := ["rows", "ways", "row", "longer", "way", "pad"]) (sc := defScope s__law_all_pads) (by decide +kernel)) (fun _ _ _ _ _ => (pg_name (i := 5) sc__law_all_pads.nd rfl (Or.inl rfl))) (fun _ _ _ _ _ => pts_nil) (fun _ _ _ _ _ => (pe_op op_cat (pv 4) (pe_lst (pa_cons (pv 5) pa_nil)))))))))
      (pss_one (ps_set (i := 1) sc__law_all_pads.nd rfl (Or.inl rfl) (pv 3))))))
      (pss_one (ps_ret (pv 1))))), ?_⟩)
  · obtain ⟨a, rs, rfl, _⟩ := h
    rfl
  · obtain ⟨a, rs, rfl, hD, h4, q⟩ := h
    obtain ⟨xs, hx, hA⟩ := WP.rows_at hD
    have xl := WP.rows_len hA
    walk_at "go0"
    refine r_newI0 fun e0 H1 n1 e1 he0 => ?_
    walk_at "go"
    refine r_newL (len3 rfl) fun w0 H2 n2 e2 hw0 => ?_
    have E2 := e1.trans e2
    walk_at "go"
    refine forL (ex_l E2 hx) (fun i s h => ∃ w v2 v3 v4 v5, s = [some (.ref a), some (.ref w), v2, v3, v4, v5] ∧ Ex H h ∧ WA h w (WP.wayN rs i)) ?_ ?_ ?_ ?_
    · refine ⟨w0, _, _, _, _, rfl, E2, [e0], hw0, rfl, fun i c u x y => ?_, fun c m => ?_⟩
      · cases i with
        | zero => cases x; cases y; exact e2 _ _ he0
        | succ i => cases x
      · rw [List.mem_singleton.mp m]; exact ne_of_none he0 n2
    · rintro i s h _ ⟨w, _, _, _, _, _, e, _⟩
      exact ex_l e hx
    · rintro i x s h hxi ⟨w, v2, v3, v4, v5, rfl, e, hw⟩
      obtain ⟨r, hr, hd⟩ := WP.rows_get (Dp.exAll e _ _ hA) hxi
      obtain ⟨hi, er⟩ := List.getElem?_eq_some_iff.mp hr
      have eg : rs.getD i .opn = r := by rw [List.getD_eq_getElem?_getD, hr]; rfl
      obtain ⟨t, rest, rfl, ht⟩ := WP.row_tag hd
      have wl : (WP.wayN rs i).length ≤ 625 := Nat.le_trans (WP.way_len i) (Nat.pow_le_pow_right (by decide) (show i ≤ 4 by omega))
      have lm := WP.lim5 r
      obtain ⟨ys, hy, yl, hyg⟩ := hw.get (K := K)
      refine r_gName ?_
      walk_at "go"
      refine r_newI0 fun l0 H3 n3 e3 hl0 => ?_
      walk_at "go"
      refine forL (ex_l e3 hy) (fun j s h2 => ∃ l v4 v5, ∃ Z : List (List Int), s = [some (.ref a), some (.ref w), some (.ref t), some (.ref l), v4, v5] ∧ Ex H3 h2 ∧ WA h2 l Z ∧ Z = (((WP.wayN rs i).take j).flatMap fun u => (List.range (WP.lim r)).map fun p : Nat => u ++ [(p : Int)]) ∧ Z.length ≤ 5 * j) ?_ ?_ ?_ ?_
      · exact ⟨l0, _, _, [], rfl, Ex.refl _, WA.nil hl0, rfl, Nat.le_refl _⟩
      · rintro j s h2 _ ⟨l, _, _, _, _, e', _⟩
        exact ex_l (e3.trans e') hy
      · rintro j y s h2 hyj ⟨l, v4, v5, Z, rfl, e', hl, hz, zl⟩
        have yj := (List.getElem?_eq_some_iff.mp hyj).1
        obtain ⟨c, u, rfl, hu, hc⟩ := hyg h2 (e3.trans e') j y hyj
        have ht2 := ext (e3.trans e') ht
        have ul : u.length = i := ((WP.way_mem i u).mp (List.mem_of_getElem? hu)).1
        refine r_gName ?_
        walk_at "go"
        refine r_iteCN ?_
        rw [WP.tag_lim]
        walk_at "go"
        refine lcR1 (by omega) (by omega) (fun p k h3 => WA h3 p ((List.range k).map fun p : Nat => u ++ [(p : Int)]) ∧ Ex h2 h3 ∧ h2 p = none) ?_ ?_ ?_ (fun _ => rfl)
        · exact fun p h3 n e4 hp => ⟨WA.nil hp, e4, n⟩
        · rintro p k h3 hk ⟨hp, e4, n⟩
          have hc3 := e4 _ _ hc
          walk_at "go"
          refine r_newI1 fun o H5 n5 e5 ho => ?_
          walk_at "go"
          refine r_catI (e5 _ _ hc3) ho (by rw [ul]; show i + 1 ≤ _; omega) fun g H6 n6 e6 hg => ?_
          obtain ⟨xp, hxp, _⟩ := hp.lst
          have ngp : g ≠ p := (ne_of_none (e5 _ _ hxp) n6).symm
          refine (hp.ex (e5.trans e6)).appW hg ngp (by rw [List.length_map, List.length_range]; omega) fun H7 e7 b7 => ⟨?_, ExB.ex (e4.trans (e5.trans e6)) e7 n, n⟩
          rw [List.range_succ, List.map_append]
          exact b7
        · rintro p h3 ⟨hp, e4, n⟩
          rw [show ((WP.lim r : Int)).toNat = WP.lim r by omega] at hp
          walk_at "go"
          refine (hl.ex e4).cat hp (by rw [List.length_map, List.length_range]; omega) fun g H6 n6 e6 hg => ?_
          refine r_next ⟨g, _, _, _, rfl, e'.trans (e4.trans e6), hg, ?_, ?_⟩
          · rw [hz, List.take_succ, hu, List.flatMap_append]
            simp
          · rw [List.length_append, List.length_map, List.length_range]
            omega
      · rintro s h2 ⟨l, v4, v5, Z, rfl, e', hl, hz, zl⟩
        rw [yl, List.take_length] at hz
        rw [hz] at hl
        walk_at "go"
        refine ⟨l, _, _, _, _, rfl, (e.trans e3).trans e', ?_⟩
        rw [WP.wayN, eg]
        exact hl
    · rintro s h ⟨w, v2, v3, v4, v5, rfl, e, hw⟩
      rw [xl] at hw
      walk_at "go"
      exact q w h e hw
end
end K03
namespace K03
open PySem PySem.Spec PyProof.Rows L2 Evl Lay
section
variable {P : Program} {w : World} {K : PySem.W.Frag} {mg : Str → Option Value} {base : Heap} {CB CT CW CTable CBlock CBadRuler CBadWords CBadBook CBadTold CBadPlan CBadText CBadCommand cL__law_refusals PL__law_refusals : Addr} {tkC tkK tkL : Tok}
def spMarks (K : PySem.W.Frag) : Sp := fun vs H Q _ => ∃ (a : Addr) (rs : List WP.PRow), vs = [.ref a] ∧ Dp K H (.ref a) (WP.rowsD rs) ∧ rs.length ≤ 4 ∧ (∀ ns, WP.PRow.tab ns ∈ rs → ns.length ≤ 64) ∧ ∀ m H2, Ex H H2 → Dp K H2 (.ref m) (WP.marksD rs) → Q (.ref m) H2
abbrev s__law_marks : Stmt := top 41
theorem sc__law_marks : FnScope ["rows", "found", "row", "pad"] ["rows"] (defScope s__law_marks) := ⟨rfl, rfl, rfl, by decide +kernel, rfl, by decide +kernel, by decide +kernel⟩
theorem ok_marks (T : Txt K mg CB tkC tkK tkL  CBadRuler CBadWords CBadBook CBadTold CBadPlan CBadText CBadCommand) (F : At K mg "_law_marks" s__law_marks ["rows"]) (d__law_padded : Def P w K mg base "_law_padded" 1 ["row", "pad"] (spPadded K)) (d__law_falls : Def P w K mg base "_law_falls" 2 ["row"] (spFalls3 K))
    (d__law_leaps : Def P w K mg base "_law_leaps" 1 ["row"] (spLeaps3 K)) : Def P w K mg base "_law_marks" 3 ["rows"] (spMarks K) := by
  refine Def.mk' F sc__law_marks (fun vs H Q E h => ?_) (fun f cdv Ar outer s H vs Q E hr h => ⟨_, (pss_cons (ps_set (i := 1) sc__law_marks.nd rfl (Or.inl rfl) (pe_lst pa_nil))
      (pss_cons (ps_for (passes_of rfl) rfl (pi_list (pv 0)) (pg_name (i := 2) sc__law_marks.nd rfl (Or.inr rfl)) (pss_one (ps_expr (pe_bm PySem.F.plainAttrs_list PySem.F.slot_list_append PySem.F.type_list_append mt_append (pv 1) (pa_cons (pe_lc (own := [("pad", 3)]) (g := gName 3) (tt := tYes) rfl sc__law_marks.nd (pi_range1 rfl T.n_range (pa_cons pe_int pa_nil)) (blkOk_by (own := [("pad", 3)]) (N := ["rows", "found", "row", "pad"]) (sc := defScope s__law_marks) (by decide +kernel)) (fun _ _ _ _ _ => (pg_name (i := 3) sc__law_marks.nd rfl (Or.inl rfl))) (fun _ _ _ _ _ => pts_nil) (fun _ _ _ _ _ => (pe_tup (pa_cons (pe_cmpR (r := rEqD K) (op_eqD hr.units) (pe_d d__law_falls (hr.mono (by decide)) passL (pa_cons (pe_d d__law_padded (hr.mono (by decide)) passL (pa_cons (pv 2) (pa_cons (pv 3) pa_nil))) pa_nil)) (pe_lst pa_nil) (nomark _)) (pa_cons (pe_cmpR (r := rEqD K) (op_eqD hr.units) (pe_d d__law_leaps (hr.mono (by decide)) passL (pa_cons (pe_d d__law_padded (hr.mono (by decide)) passL (pa_cons (pv 2) (pa_cons (pv 3) pa_nil))) pa_nil)) (pe_lst pa_nil) (nomark _)) pa_nil))))) pa_nil)))))
      (pss_one (ps_ret (pv 1))))), ?_⟩)
  · obtain ⟨a, rs, rfl, _⟩ := h
    rfl
  · obtain ⟨a, rs, rfl, hD, h4, h64, q⟩ := h
    obtain ⟨xs, hx, hA⟩ := WP.rows_at hD
    have xl := WP.rows_len hA
    walk_at "go0"
    refine r_newI0 fun m H1 n1 e1 hm => ?_
    walk_at "go"
    refine forL (ex_l e1 hx) (fun i s h => ∃ v2 v3 zs, s = [some (.ref a), some (.ref m), v2, v3] ∧ Ex H h ∧ LB K h m zs ((rs.take i).map WP.markD)) ?_ ?_ ?_ ?_
    · exact ⟨_, _, _, rfl, e1, LB.nil hm⟩
    · rintro i s h _ ⟨_, _, _, _, e, _⟩
      exact ex_l e hx
    · rintro i x s h hxi ⟨v2, v3, zs, rfl, e, hL⟩
      obtain ⟨r, hr, hd⟩ := WP.rows_get (Dp.exAll e _ _ hA) hxi
      obtain ⟨hi, er⟩ := List.getElem?_eq_some_iff.mp hr
      have h64r : ∀ ns, r = .tab ns → ns.length ≤ 64 := fun ns z => h64 ns (by rw [← z, ← er]; exact List.getElem_mem hi)
      have hm1 := hL.1
      have hmS : SqL K h m zs := L2.SqL.of hm1
      refine r_gName ?_
      walk_at "go"
      refine lcR1 (by decide) (by decide) (fun p k h2 => ∃ ys, LB K (del h2 m) p ys ((List.range k).map fun p : Nat => PyData.tuple [.bool (WP.m0 r p), .bool (WP.m1 r p)]) ∧ Ex h h2 ∧ h p = none) ?_ ?_ ?_ (fun _ => rfl)
      · intro p h2 n e2 hp
        have pm : p ≠ m := (ne_of_none hm1 n).symm
        exact ⟨[], LB.nil (by rw [del_ne pm]; exact hp), e2, n⟩
      · rintro p k h2 hk ⟨ys, hB, e2, n⟩
        have pm : p ≠ m := (ne_of_none hm1 n).symm
        have hp2 : h2 p = some (.lst ys) := by have z := hB.1; rw [del_ne pm] at z; exact z
        have hm2 := e2 _ _ hm1
        walk_at "go"
        refine ⟨x, r, k, rfl, Dp.ex e2 _ _ hd, h64r, fun t H3 e3 hP => ?_⟩
        walk_at "go"
        refine ⟨t, r, k, rfl, hP, by omega, h64r, fun l1 d1 H4 e4 hd1 hf1 hz1 => ?_⟩
        walk_at "go"
        refine r_newI0 fun o1 H5 n5 e5 ho1 => ?_
        refine r_eqNil (Dp.ex e5 _ _ hd1) hf1 (L2.SqL.of ho1) ?_
        walk_at "go"
        refine ⟨x, r, k, rfl, Dp.ex (e2.trans (e3.trans (e4.trans e5))) _ _ hd, h64r, fun t2 H6 e6 hP2 => ?_⟩
        walk_at "go"
        refine ⟨t2, r, k, rfl, hP2, by omega, h64r, fun l2 d2 H7 e7 hd2 hf2 hz2 => ?_⟩
        walk_at "go"
        refine r_newI0 fun o2 H8 n8 e8 ho2 => ?_
        refine r_eqNil (Dp.ex e8 _ _ hd2) hf2 (L2.SqL.of ho2) ?_
        walk_at "go"
        refine r_newT (len3 rfl) fun t3 H9 n9 e9 ht3 => ?_
        have b1 : decide (d1 = []) = WP.m0 r k := by rw [Bool.eq_iff_iff, decide_eq_true_eq]; exact hz1
        have b2 : decide (d2 = []) = WP.m1 r k := by rw [Bool.eq_iff_iff, decide_eq_true_eq]; exact hz2
        rw [b1, b2] at ht3
        have E9 := e3.trans (e4.trans (e5.trans (e6.trans (e7.trans (e8.trans e9)))))
        have hp9 := E9 _ _ hp2
        have hm9 := E9 _ _ hm2
        have n3p : t3 ≠ p := fun z => by rw [z, hp9] at ht3; cases ht3
        have n3m : t3 ≠ m := fun z => by rw [z, hm9] at ht3; cases ht3
        refine Lay.appW hp9 (by rw [hB.len, List.length_map, List.length_range]; omega) fun H10 e10 h10 => ⟨ys ++ [.ref t3], ?_, ExB.ex (e2.trans E9) e10 n, n⟩
        rw [List.range_succ, List.map_append]
        refine (hB.ex (ex_del E9)).put (d := .tuple [.bool (WP.m0 r k), .bool (WP.m1 r k)]) (.tup (L2.SqT.of (by rw [del_ne n3p, del_ne n3m]; exact ht3)) (.cons (.bl _) (.cons (.bl _) .nil))) (exb_del e10) ?_
        rw [del_ne pm]
        exact h10
      · rintro p h2 ⟨ys, hB, e2, n⟩
        walk_at "go"
        refine (hL.ex e2).app (by rw [hL.len, List.length_map, List.length_take]; omega) (d := WP.markD r) hB.dp fun H5 e5 b5 => ?_
        have mH : H m = none := n1
        refine r_next ⟨_, _, zs ++ [.ref p], rfl, ExB.ex (e.trans e2) e5 mH, ?_⟩
        rw [List.take_succ_eq_append_getElem hi, List.map_append, er]
        exact b5
    · rintro s h ⟨v2, v3, zs, rfl, e, hL⟩
      rw [xl, List.take_length] at hL
      walk_at "go"
      exact q m h e hL.dp
/-- marks[place][pad][which] -/
theorem mark_at {K : PySem.W.Frag} {H : Hp} {m : Addr} {rs : List WP.PRow} (h : Dp K H (.ref m) (WP.marksD rs)) {i : Int} (h0 : 0 ≤ i) (h1 : i < rs.length) : (rs.map WP.markD)[i.toNat]? = some (WP.markD (rs.getD i.toNat .opn)) := by
  rw [List.getElem?_map, List.getElem?_eq_getElem (by omega), List.getD_eq_getElem?_getD, List.getElem?_eq_getElem (by omega)]
  rfl
def bestV : Option Int → V
  | none => .non
  | some m => .int m
def spCheap (K : PySem.W.Frag) : Sp := fun vs H Q _ => ∃ (a b : Addr) (rs : List WP.PRow) (cs : List Int), vs = [.ref a, .ref b] ∧ Dp K H (.ref a) (WP.rowsD rs) ∧ SqL K H b (cs.map V.int) ∧ rs.length ≤ 4 ∧ rs.length ≤ cs.length ∧ WP.Small rs ∧ (∀ z ∈ cs, 0 ≤ z ∧ z ≤ 1000000) ∧
  ∀ H2, Ex H H2 → Q (.int (WP.least rs cs).1) H2
theorem gi_cs {cs : List Int} (h : ∀ z ∈ cs, 0 ≤ z ∧ z ≤ 1000000) (i : Int) : 0 ≤ gi cs i ∧ gi cs i ≤ 1000000 := WP.inb_gi h (by decide) i
abbrev s__law_cheapest : Stmt := top 42
theorem sc__law_cheapest : FnScope ["rows", "prices", "marks", "best", "pads", "calm", "even", "price", "place"] ["rows", "prices"] (defScope s__law_cheapest) := ⟨rfl, rfl, rfl, by decide +kernel, rfl, by decide +kernel, by decide +kernel⟩
theorem ok_cheap (T : Txt K mg CB tkC tkK tkL  CBadRuler CBadWords CBadBook CBadTold CBadPlan CBadText CBadCommand) (F : At K mg "_law_cheapest" s__law_cheapest ["rows", "prices"]) (d__law_marks : Def P w K mg base "_law_marks" 3 ["rows"] (spMarks K)) (d__law_all_pads : Def P w K mg base "_law_all_pads" 1 ["rows"] (spAll K)) :
    Def P w K mg base "_law_cheapest" 4 ["rows", "prices"] (spCheap K) := by
  refine Def.mk' F sc__law_cheapest (fun vs H Q E h => ?_) (fun f cdv Ar outer s H vs Q E hr h => ⟨_, (pss_cons (ps_set (i := 2) sc__law_cheapest.nd rfl (Or.inr rfl) (pe_d d__law_marks (hr.mono (by decide)) (passes_call (takes_of rfl rfl rfl rfl) (fun _ _ _ _ h => h)) (pa_cons (pv 0) pa_nil)))
      (pss_cons (ps_set (i := 3) sc__law_cheapest.nd rfl (Or.inl rfl) pe_non)
      (pss_cons (ps_for (passes_of rfl) rfl (pi_list (pe_d d__law_all_pads (hr.mono (by decide)) (passes_call (takes_of rfl rfl rfl rfl) (fun _ _ _ _ h => h)) (pa_cons (pv 0) pa_nil))) (pg_name (i := 4) sc__law_cheapest.nd rfl (Or.inr rfl)) (pss_cons (ps_set (i := 5) sc__law_cheapest.nd rfl (Or.inl rfl) (pe_cmpR op_eq (pe_callB (r := Lay.rLen K) c_len rfl T.n_len PySem.boot_len (pa_cons (pe_lc (own := [("place", 8)]) (g := gName 8) rfl sc__law_cheapest.nd (pi_range1 rfl T.n_range (pa_cons (pe_callB (r := Lay.rLen K) c_len rfl T.n_len PySem.boot_len (pa_cons (pv 0) pa_nil)) pa_nil)) (blkOk_by (own := [("place", 8)]) (N := ["rows", "prices", "marks", "best", "pads", "calm", "even", "price", "place"]) (sc := defScope s__law_cheapest) (by decide +kernel)) (fun _ _ _ _ _ => (pg_name (i := 8) sc__law_cheapest.nd rfl (Or.inl rfl))) (fun _ _ _ _ _ => (pts_one (pt_not (pt_val (pe_ix (r := rIxT K) ix_tup (pe_ix (r := rIxL K) ix_list (pe_ix (r := rIxL K) ix_list (pv 2) (pv 8) (fun _ _ => rfl)) (pe_ix (r := rIxL K) ix_list (pv 4) (pv 8) (fun _ _ => rfl)) (fun _ _ => rfl)) pe_int (fun _ _ => rfl)))))) (fun _ _ _ _ _ => (pv 8))) pa_nil)) pe_int (nomark _)))
      (pss_cons (ps_set (i := 6) sc__law_cheapest.nd rfl (Or.inl rfl) (pe_cmpR op_eq (pe_callB (r := Lay.rLen K) c_len rfl T.n_len PySem.boot_len (pa_cons (pe_lc (own := [("place", 8)]) (g := gName 8) rfl sc__law_cheapest.nd (pi_range1 rfl T.n_range (pa_cons (pe_callB (r := Lay.rLen K) c_len rfl T.n_len PySem.boot_len (pa_cons (pv 0) pa_nil)) pa_nil)) (blkOk_by (own := [("place", 8)]) (N := ["rows", "prices", "marks", "best", "pads", "calm", "even", "price", "place"]) (sc := defScope s__law_cheapest) (by decide +kernel)) (fun _ _ _ _ _ => (pg_name (i := 8) sc__law_cheapest.nd rfl (Or.inl rfl))) (fun _ _ _ _ _ => (pts_one (pt_not (pt_val (pe_ix (r := rIxT K) ix_tup (pe_ix (r := rIxL K) ix_list (pe_ix (r := rIxL K) ix_list (pv 2) (pv 8) (fun _ _ => rfl)) (pe_ix (r := rIxL K) ix_list (pv 4) (pv 8) (fun _ _ => rfl)) (fun _ _ => rfl)) pe_int (fun _ _ => rfl)))))) (fun _ _ _ _ _ => (pv 8))) pa_nil)) pe_int (nomark _)))
      (pss_cons (ps_set (i := 7) sc__law_cheapest.nd rfl (Or.inl rfl) (pe_callB (r := rSum K) (cr_sum rfl) rfl T.n_sum (by decide +kernel) (pa_cons (pe_lc (own := [("place", 8)]) (g := gName 8) (tt := tYes) rfl sc__law_cheapest.nd (pi_range1 rfl T.n_range (pa_cons (pe_callB (r := Lay.rLen K) c_len rfl T.n_len PySem.boot_len (pa_cons (pv 0) pa_nil)) pa_nil)) (blkOk_by (own := [("place", 8)]) (N := ["rows", "prices", "marks", "best", "pads", "calm", "even", "price", "place"]) (sc := defScope s__law_cheapest) (by decide +kernel)) (fun _ _ _ _ _ => (pg_name (i := 8) sc__law_cheapest.nd rfl (Or.inl rfl))) (fun _ _ _ _ _ => pts_nil) (fun _ _ _ _ _ => (pe_op op_mul (pe_ix (r := rIxL K) ix_list (pv 1) (pv 8) (fun _ _ => rfl)) (pe_ix (r := rIxL K) ix_list (pv 4) (pv 8) (fun _ _ => rfl))))) pa_nil)))
      (pss_one (ps_if (PW.pt (pw_and (PW.pt (pw_or (pt_val (pv 5)) (pw_or1 (pt_val (pv 6))))) (pw_and1 (PW.pt (pw_or (pt_cmpR op_isN1 (pv 3) pe_non (nomark _)) (pw_or1 (pt_cmpR op_lt (pv 7) (pv 3) (nomark _)))))))) (pss_one (ps_set (i := 3) sc__law_cheapest.nd rfl (Or.inl rfl) (pv 7))) pss_nil))))))
      (pss_one (ps_ret (pv 3)))))), ?_⟩)
  · obtain ⟨a, b, rs, cs, rfl, _⟩ := h
    rfl
  · obtain ⟨a, b, rs, cs, rfl, hD, hc, h4, hl, hS, hcb, q⟩ := h
    obtain ⟨xs, hx, hA⟩ := WP.rows_at hD
    have xl := WP.rows_len hA
    walk_at "go0"
    refine ⟨a, rs, rfl, hD, h4, fun ns hm => (hS.t ns hm).2, fun m H1 e1 hM => ?_⟩
    walk_at "go"
    refine ⟨a, rs, rfl, Dp.ex e1 _ _ hD, h4, fun ww H2 e2 hW => ?_⟩
    have E2 := e1.trans e2
    have hM2 := Dp.ex e2 _ _ hM
    obtain ⟨ys, hy, yl, hyg⟩ := hW.get (K := K)
    refine forL hy (fun i s h => ∃ v4 v5 v6 v7 bo, s = [some (.ref a), some (.ref b), some (.ref m), some (bestV bo), v4, v5, v6, v7, none] ∧ Ex H2 h ∧ WP.Bst rs cs (fun u => u ∈ (WP.wayN rs rs.length).take i) bo) ?_ ?_ ?_ ?_
    · exact ⟨_, _, _, _, none, rfl, Ex.refl _, fun u z => (List.not_mem_nil z).elim⟩
    · rintro i s h _ ⟨_, _, _, _, _, _, e, _⟩
      exact ex_l e hy
    · rintro i y s h hyi ⟨v4, v5, v6, v7, bo, rfl, e, hb⟩
      obtain ⟨c, u, rfl, hu, hcu⟩ := hyg h e i y hyi
      obtain ⟨ul, ub⟩ := (WP.way_mem rs.length u).mp (List.mem_of_getElem? hu)
      have ub5 : ∀ k : Nat, k < rs.length → 0 ≤ gi u k ∧ gi u k < 5 := fun k hk => by
        have := ub k hk
        have := WP.lim5 (rs.getD k .opn)
        omega
      have hxh := ex_l (E2.trans e) hx
      refine r_gName ?_
      walk_at "go"
      refine r_len hxh ?_
      rw [xl]
      walk_at "go"
      refine lcR1G (by omega) (by omega) (fun p k h3 => ∃ zs : List V, h3 p = some (.lst zs) ∧ zs.length ≤ k ∧ (zs.length = 0 ↔ ∀ j : Nat, j < k → WP.m0 (rs.getD j .opn) (gi u j) = true) ∧ Ex h h3 ∧ h p = none) ?_ ?_ ?_ (fun _ => rfl)
      · exact fun p h3 n e3 hp => ⟨[], hp, Nat.le_refl _, ⟨fun _ j z => absurd z (Nat.not_lt_zero _), fun _ => rfl⟩, e3, n⟩
      · rintro p k h3 hk ⟨zs, hp, zl, zz, e3, n⟩
        have kk : k < rs.length := by omega
        obtain ⟨u0, u1⟩ := ub5 k kk
        walk_at "go"
        refine r_ixDp (Dp.ex (e.trans e3) _ _ hM2) (by omega) (mark_at hM (by omega) (by omega)) fun v hv => ?_
        rw [Int.toNat_natCast] at hv
        obtain ⟨mv, rfl⟩ := dp_l hv
        have hcu3 := e3 _ _ hcu
        walk_at "go"
        refine r_ixDp hv u0 (WP.mark_get u0 u1) fun v2 hv2 => ?_
        obtain ⟨tv, rfl⟩ := dp_t hv2
        walk_at "go"
        refine r_ixDt hv2 (by decide) rfl fun v3 hv3 => ?_
        rw [dp_b hv3]
        walk_at "go"
        cases hb0 : WP.m0 (rs.getD k .opn) (gi u k) with
        | true =>
          walk_at "go"
          exact ⟨zs, hp, by omega, zz.trans ⟨fun w j hj => by
            by_cases ej : j = k
            · rw [ej]; exact hb0
            · exact w j (by omega), fun w j hj => w j (by omega)⟩, e3, n⟩
        | false =>
          walk_at "go"
          refine Lay.appW hp (by omega) fun H5 e5 h5 => ⟨_, h5, by rw [List.length_append]; show zs.length + 1 ≤ _; omega, ⟨fun w => ?_, fun w => ?_⟩, ExB.ex e3 e5 n, n⟩
          · rw [List.length_append] at w
            change zs.length + 1 = 0 at w
            omega
          · have := w k (by omega)
            rw [hb0] at this
            cases this
      rintro p h3 ⟨zs, hp, zl, zz, e3, np⟩
      rw [show ((rs.length : Int)).toNat = rs.length by omega] at zz
      walk_at "go"
      refine r_len (L2.SqL.of hp) ?_
      have cz : decide ((zs.length : Int) = 0) = true ↔ WP.calm rs u := by
        rw [decide_eq_true_eq]
        refine ⟨fun z => zz.mp (by omega), fun z => ?_⟩
        have := zz.mpr z
        omega
      walk_at "go"
      generalize decide ((zs.length : Int) = 0) = cb at cz ⊢
      have hxh3 := ex_l e3 hxh
      refine r_len hxh3 ?_
      rw [xl]
      walk_at "go"
      refine lcR1G (by omega) (by omega) (fun p k h4 => ∃ zs : List V, h4 p = some (.lst zs) ∧ zs.length ≤ k ∧ (zs.length = 0 ↔ ∀ j : Nat, j < k → WP.m1 (rs.getD j .opn) (gi u j) = true) ∧ Ex h3 h4 ∧ h3 p = none) ?_ ?_ ?_ (fun _ => rfl)
      · exact fun p h3 n e3 hp => ⟨[], hp, Nat.le_refl _, ⟨fun _ j z => absurd z (Nat.not_lt_zero _), fun _ => rfl⟩, e3, n⟩
      · rintro p k h4 hk ⟨zs, hp, zl, zz, e4, n⟩
        have kk : k < rs.length := by omega
        obtain ⟨u0, u1⟩ := ub5 k kk
        walk_at "go"
        refine r_ixDp (Dp.ex (e.trans (e3.trans e4)) _ _ hM2) (by omega) (mark_at hM (by omega) (by omega)) fun v hv => ?_
        rw [Int.toNat_natCast] at hv
        obtain ⟨mv, rfl⟩ := dp_l hv
        have hcu3 := e4 _ _ (e3 _ _ hcu)
        walk_at "go"
        refine r_ixDp hv u0 (WP.mark_get u0 u1) fun v2 hv2 => ?_
        obtain ⟨tv, rfl⟩ := dp_t hv2
        walk_at "go"
        refine r_ixDt hv2 (by decide) rfl fun v3 hv3 => ?_
        rw [dp_b hv3]
        walk_at "go"
        cases hb0 : WP.m1 (rs.getD k .opn) (gi u k) with
        | true =>
          walk_at "go"
          exact ⟨zs, hp, by omega, zz.trans ⟨fun w j hj => by
            by_cases ej : j = k
            · rw [ej]; exact hb0
            · exact w j (by omega), fun w j hj => w j (by omega)⟩, e4, n⟩
        | false =>
          walk_at "go"
          refine Lay.appW hp (by omega) fun H5 e5 h5 => ⟨_, h5, by rw [List.length_append]; show zs.length + 1 ≤ _; omega, ⟨fun w => ?_, fun w => ?_⟩, ExB.ex e4 e5 n, n⟩
          · rw [List.length_append] at w
            change zs.length + 1 = 0 at w
            omega
          · have := w k (by omega)
            rw [hb0] at this
            cases this
      rintro p2 h4 ⟨zs2, hp2, zl2, zz2, e4, np2⟩
      rw [show ((rs.length : Int)).toNat = rs.length by omega] at zz2
      walk_at "go"
      refine r_len (L2.SqL.of hp2) ?_
      have cz2 : decide ((zs2.length : Int) = 0) = true ↔ WP.even rs u := by
        rw [decide_eq_true_eq]
        refine ⟨fun z => zz2.mp (by omega), fun z => ?_⟩
        have := zz2.mpr z
        omega
      walk_at "go"
      generalize decide ((zs2.length : Int) = 0) = eb at cz2 ⊢
      have hxh4 := ex_l e4 hxh3
      have E4 := e.trans (e3.trans e4)
      refine r_len hxh4 ?_
      rw [xl]
      walk_at "go"
      refine lcF1 (f := fun k : Nat => gi cs k * gi u k) (by omega) (by omega) ?_ ?_ (fun _ => rfl)
      · intro k h5 R hk e5 kk
        have hc5 := ex_l (E2.trans (E4.trans e5)) hc
        have hcu5 := e5 _ _ (e4 _ _ (e3 _ _ hcu))
        have cb := gi_cs hcb k
        obtain ⟨u0, u1⟩ := ub5 k (by omega)
        walk_at "go"
        exact kk h5 (Ex.refl _)
      intro p3 h5 np3 e5 hp3
      rw [show ((rs.length : Int)).toNat = rs.length by omega] at hp3
      walk_at "go"
      refine r_sum (L2.SqL.of hp3) ?_
      rw [WP.prN_sum]
      have nxt : ∀ w, w ∈ (WP.wayN rs rs.length).take (i + 1) ↔ w ∈ (WP.wayN rs rs.length).take i ∨ w = u := fun w => by
        rw [List.take_succ, hu, List.mem_append]
        simp
      have keep : ¬ (WP.calm rs u ∨ WP.even rs u) → WP.Bst rs cs (fun w => w ∈ (WP.wayN rs rs.length).take (i + 1)) bo := fun hn => by
        cases bo with
        | none => exact fun w hw => ((nxt w).mp hw).elim (hb w) fun z => by rw [z]; exact hn
        | some m0 =>
          obtain ⟨⟨w0, a1, a2, a3⟩, a4⟩ := hb
          exact ⟨⟨w0, (nxt _).mpr (.inl a1), a2, a3⟩, fun w hw hv => ((nxt w).mp hw).elim (fun z => a4 w z hv) fun z => by rw [z] at hv; exact absurd hv hn⟩
      have better : (WP.calm rs u ∨ WP.even rs u) → (∀ m0, bo = some m0 → WP.prN u cs rs.length < m0) → WP.Bst rs cs (fun w => w ∈ (WP.wayN rs rs.length).take (i + 1)) (some (WP.prN u cs rs.length)) := fun hv hm => by
        refine ⟨⟨u, (nxt _).mpr (.inr rfl), hv, rfl⟩, fun w hw hvw => ((nxt w).mp hw).elim (fun z => ?_) fun z => by rw [z]; exact Int.le_refl _⟩
        cases bo with
        | none => exact absurd hvw (hb w z)
        | some m0 =>
          have := hb.2 w z hvw
          have := hm m0 rfl
          omega
      have worse : ∀ m0, bo = some m0 → ¬ WP.prN u cs rs.length < m0 → WP.Bst rs cs (fun w => w ∈ (WP.wayN rs rs.length).take (i + 1)) bo := fun m0 hm hlt => by
        subst hm
        obtain ⟨⟨w0, a1, a2, a3⟩, a4⟩ := hb
        exact ⟨⟨w0, (nxt _).mpr (.inl a1), a2, a3⟩, fun w hw hv => ((nxt w).mp hw).elim (fun z => a4 w z hv) fun z => by rw [z]; omega⟩
      have E5 := E4.trans e5
      walk_at "go"
      cases cb with
      | true =>
        walk_at "go"
        cases bo with
        | none =>
          walk_at "go"
          refine r_yes rfl ?_
          walk_at "go"
          exact ⟨_, _, _, _, some _, rfl, E5, better (.inl (cz.mp rfl)) (fun m0 z => by cases z)⟩
        | some m0 =>
          dsimp only [bestV]
          walk_at "go"
          refine r_no (fun z => by cases z) ?_
          walk_at "go"
          refine r_ite (fun c => ?_) (fun c => ?_)
          · walk_at "go"
            exact ⟨_, _, _, _, some _, rfl, E5, better (.inl (cz.mp rfl)) (fun m1 z => by cases z; exact c)⟩
          · walk_at "go"
            exact ⟨_, _, _, _, some _, rfl, E5, worse m0 rfl c⟩
      | false =>
        walk_at "go"
        cases eb with
        | true =>
          walk_at "go"
          cases bo with
          | none =>
            walk_at "go"
            refine r_yes rfl ?_
            walk_at "go"
            exact ⟨_, _, _, _, some _, rfl, E5, better (.inr (cz2.mp rfl)) (fun m0 z => by cases z)⟩
          | some m0 =>
            dsimp only [bestV]
            walk_at "go"
            refine r_no (fun z => by cases z) ?_
            walk_at "go"
            refine r_ite (fun c => ?_) (fun c => ?_)
            · walk_at "go"
              exact ⟨_, _, _, _, some _, rfl, E5, better (.inr (cz2.mp rfl)) (fun m1 z => by cases z; exact c)⟩
            · walk_at "go"
              exact ⟨_, _, _, _, some _, rfl, E5, worse m0 rfl c⟩
        | false =>
          walk_at "go"
          exact ⟨_, _, _, _, bo, rfl, E5, keep fun z => z.elim (fun y => absurd (cz.mpr y) (by decide)) fun y => absurd (cz2.mpr y) (by decide)⟩
    · rintro s h ⟨v4, v5, v6, v7, bo, rfl, e, hb⟩
      rw [yl, List.take_length] at hb
      have eb := WP.best_is hS (fun z hz => (hcb z hz).1) hb
      subst eb
      walk_at "go"
      exact q h (E2.trans e)
/-- the least pad that a mark lets, below 5 -/
def thr (k : Int) (r : WP.PRow) : Int := if k = 0 then WP.padF r else WP.padL r
def mk (k : Int) (r : WP.PRow) (p : Int) : Bool := if k = 0 then WP.m0 r p else WP.m1 r p
def spLeastOf (K : PySem.W.Frag) : Sp := fun vs H Q _ => ∃ (a : Addr) (rs : List WP.PRow) (k : Int), vs = [.ref a, .int k] ∧ (k = 0 ∨ k = 1) ∧ Dp K H (.ref a) (WP.rowsD rs) ∧ rs.length ≤ 4 ∧ WP.Small rs ∧
  ∀ l H2, H l = none → Ex H H2 → H2 l = some (.lst ((rs.map (thr k)).map V.int)) → Q (.ref l) H2
theorem mk_iff {k : Int} {r : WP.PRow} {p : Int} (h : ¬ (k ≠ 0 ∧ r = .opn)) : mk k r p = true ↔ thr k r ≤ p := by
  unfold mk thr
  split
  · exact ⟨fun z => of_decide_eq_true z, fun z => decide_eq_true z⟩
  · rename_i k0
    cases r with
    | opn => exact absurd ⟨k0, rfl⟩ h
    | tab ns => exact ⟨fun z => of_decide_eq_true z, fun z => decide_eq_true z⟩
    | blk n => exact ⟨fun z => of_decide_eq_true z, fun z => decide_eq_true z⟩
abbrev s__law_least_of : Stmt := top 43
theorem sc__law_least_of : FnScope ["rows", "which", "marks", "found", "place", "good", "pad"] ["rows", "which"] (defScope s__law_least_of) := ⟨rfl, rfl, rfl, by decide +kernel, rfl, by decide +kernel, by decide +kernel⟩
theorem ok_leastof (T : Txt K mg CB tkC tkK tkL  CBadRuler CBadWords CBadBook CBadTold CBadPlan CBadText CBadCommand) (F : At K mg "_law_least_of" s__law_least_of ["rows", "which"]) (d__law_marks : Def P w K mg base "_law_marks" 3 ["rows"] (spMarks K)) : Def P w K mg base "_law_least_of" 4 ["rows", "which"] (spLeastOf K) := by
  refine Def.mk' F sc__law_least_of (fun vs H Q E h => ?_) (fun f cdv Ar outer s H vs Q E hr h => ⟨_, (pss_cons (ps_set (i := 2) sc__law_least_of.nd rfl (Or.inr rfl) (pe_d d__law_marks (hr.mono (by decide)) (passes_call (takes_of rfl rfl rfl rfl) (fun _ _ _ _ h => h)) (pa_cons (pv 0) pa_nil)))
      (pss_cons (ps_set (i := 3) sc__law_least_of.nd rfl (Or.inl rfl) (pe_lst pa_nil))
      (pss_cons (ps_for (passes_of rfl) rfl (pi_range1 rfl T.n_range (pa_cons (pe_callB (r := Lay.rLen K) c_len rfl T.n_len PySem.boot_len (pa_cons (pv 0) pa_nil)) pa_nil)) (pg_name (i := 4) sc__law_least_of.nd rfl (Or.inr rfl)) (pss_cons (ps_setLc (i := 5) (own := [("pad", 6)]) (g := gName 6) rfl sc__law_least_of.nd rfl rfl (sw_true rfl rfl rfl (by decide +kernel)) (pi_range1 rfl T.n_range (pa_cons pe_int pa_nil)) (blkOk_by (own := [("pad", 6)]) (N := ["rows", "which", "marks", "found", "place", "good", "pad"]) (sc := defScope s__law_least_of) (by decide +kernel)) (fun _ _ _ _ _ => (pg_name (i := 6) sc__law_least_of.nd rfl (Or.inl rfl))) (fun _ _ _ _ _ => (pts_one (pt_val (pe_ix (r := rIxT K) ix_tup (pe_ix (r := rIxL K) ix_list (pe_ix (r := rIxL K) ix_list (pv 2) (pv 4) (fun _ _ => rfl)) (pv 6) (fun _ _ => rfl)) (pv 1) (fun _ _ => rfl))))) (fun _ _ _ _ _ => (pv 6)))
      (pss_one (ps_expr (pe_bm PySem.F.plainAttrs_list PySem.F.slot_list_append PySem.F.type_list_append mt_append (pv 3) (pa_cons (pe_ifExp (pt_cmpR (r := rNeD K) (op_neD hr.units) (pv 5) (pe_lst pa_nil) (nomark _)) (pe_ix (r := rIxL K) ix_list (pv 5) pe_int (fun _ _ => rfl)) pe_int) pa_nil))))))
      (pss_one (ps_ret (pv 3)))))), ?_⟩)
  · obtain ⟨a, rs, k, rfl, _⟩ := h
    rfl
  · obtain ⟨a, rs, k, rfl, hk, hD, h4, hS, q⟩ := h
    obtain ⟨xs, hx, hA⟩ := WP.rows_at hD
    have xl := WP.rows_len hA
    walk_at "go0"
    refine ⟨a, rs, rfl, hD, h4, fun ns hm => (hS.t ns hm).2, fun m H1 e1 hM => ?_⟩
    walk_at "go"
    refine r_newI0 fun l H2 n2 e2 hl => ?_
    have E2 := e1.trans e2
    walk_at "go"
    refine r_len (ex_l E2 hx) ?_
    rw [xl]
    walk_at "go"
    refine forR1 (by omega) (by omega) (fun i s h => ∃ v4 v5, s = [some (.ref a), some (.int k), some (.ref m), some (.ref l), v4, v5, none] ∧ Ex H1 h ∧ h l = some (.lst (((rs.take i).map (thr k)).map V.int))) ?_ ?_ ?_
    · exact ⟨_, _, rfl, e2, hl⟩
    · rintro i s h hi ⟨v4, v5, rfl, e, hl⟩
      have ii : i < rs.length := by omega
      have hMh := Dp.ex e _ _ hM
      have er : rs.getD i .opn = rs[i] := by rw [List.getD_eq_getElem?_getD, List.getElem?_eq_getElem ii]; rfl
      have rm : rs[i] ∈ rs := List.getElem_mem ii
      walk_at "go"
      refine lcR1G (by decide) (by decide) (fun p j h2 => ∃ gs : List Int, h2 p = some (.lst (gs.map V.int)) ∧ gs.length ≤ j ∧ (k ≠ 0 ∧ rs[i] = .opn → gs = []) ∧ (¬ (k ≠ 0 ∧ rs[i] = .opn) → ((j : Int) ≤ thr k rs[i] → gs = []) ∧ (thr k rs[i] < j → ∃ rest, gs = thr k rs[i] :: rest)) ∧ Ex h h2 ∧ h p = none) ?_ ?_ ?_ (fun _ => rfl)
      · refine fun p h2 n e3 hp => ⟨[], hp, Nat.le_refl _, fun _ => rfl, fun _ => ⟨fun _ => rfl, fun z => ?_⟩, e3, n⟩
        have : 0 ≤ thr k rs[i] := by
          unfold thr
          split
          · exact (hS.f _ rm).1
          · exact (hS.l _ rm).1
        omega
      · rintro p j h2 hj ⟨gs, hp, gl, g1, g2, e3, n⟩
        walk_at "go"
        refine r_ixDp (Dp.ex e3 _ _ hMh) (by omega) (mark_at hM (by omega) (by omega)) fun v hv => ?_
        rw [Int.toNat_natCast, er] at hv
        obtain ⟨mv, rfl⟩ := dp_l hv
        walk_at "go"
        refine r_ixDp hv (by omega) (WP.mark_get (by omega) (by omega)) fun v2 hv2 => ?_
        obtain ⟨tv, rfl⟩ := dp_t hv2
        walk_at "go"
        refine r_ixDt (d := .bool (mk k rs[i] j)) hv2 (by omega) ?_ fun v3 hv3 => ?_
        · rcases hk with rfl | rfl <;> rfl
        rw [dp_b hv3]
        walk_at "go"
        cases hb0 : mk k rs[i] j with
        | true =>
          have nn : ¬ (k ≠ 0 ∧ rs[i] = .opn) := fun ⟨k0, z⟩ => by
            unfold mk at hb0
            rw [if_neg k0, z] at hb0
            cases hb0
          have le := (mk_iff nn).mp hb0
          obtain ⟨g3, g4⟩ := g2 nn
          walk_at "go"
          refine Lay.appW hp (by rw [List.length_map]; omega) fun H5 e5 h5 => ⟨gs ++ [(j : Int)], by rw [List.map_append]; exact h5, by rw [List.length_append]; show gs.length + 1 ≤ _; omega, fun z => absurd z nn, fun _ => ⟨fun z => ?_, fun z => ?_⟩, ExB.ex e3 e5 n, n⟩
          · omega
          · by_cases c : thr k rs[i] < j
            · obtain ⟨rest, hg⟩ := g4 c
              exact ⟨rest ++ [(j : Int)], by rw [hg]; rfl⟩
            · have ej : thr k rs[i] = j := by omega
              rw [g3 (by omega), ej]
              exact ⟨[], rfl⟩
        | false =>
          walk_at "go"
          refine ⟨gs, hp, by omega, g1, fun nn => ?_, e3, n⟩
          have le : ¬ thr k rs[i] ≤ j := fun z => by
            rw [(mk_iff nn).mpr z] at hb0
            cases hb0
          obtain ⟨g3, g4⟩ := g2 nn
          exact ⟨fun z => g3 (by omega), fun z => by omega⟩
      rintro p h2 ⟨gs, hp, gl, g1, g2, e3, np⟩
      have key : (gs = [] ∧ thr k rs[i] = 0) ∨ ∃ rest, gs = thr k rs[i] :: rest := by
        by_cases nn : k ≠ 0 ∧ rs[i] = .opn
        · left
          refine ⟨g1 nn, ?_⟩
          unfold thr
          rw [if_neg nn.1, nn.2]
          rfl
        · right
          refine (g2 nn).2 ?_
          have : thr k rs[i] ≤ 4 := by
            unfold thr
            split
            · exact (hS.f _ rm).2
            · exact (hS.l _ rm).2
          show thr k rs[i] < ((5 : Int).toNat : Nat)
          omega
      have hl2 := e3 _ _ hl
      walk_at "go"
      refine r_tIf ?_
      walk_at "go"
      refine r_newI0 fun o H6 n6 e6 ho => ?_
      refine r_neL (ms := []) (L2.SqL.of (e6 _ _ hp)) (L2.SqL.of ho) ?_
      walk_at "go"
      have hl6 := e6 _ _ hl2
      have hp6 := e6 _ _ hp
      have nl1 : H1 l = none := n2
      rcases key with ⟨rfl, kz⟩ | ⟨rest, rfl⟩
      · refine r_noN rfl ?_
        walk_at "go"
        refine r_appI hl6 (by rw [List.length_map, List.length_take]; omega) fun H7 e7 h7 _ => ?_
        refine r_next ⟨_, _, rfl, ExB.ex (e.trans (e3.trans e6)) e7 nl1, ?_⟩
        rw [List.take_succ_eq_append_getElem ii, List.map_append, List.map_append]
        rw [List.map_append] at h7
        rw [h7]
        simp [kz]
      · refine r_yesN (fun z => by cases z) ?_
        walk_at "go"
        refine r_appI hl6 (by rw [List.length_map, List.length_take]; omega) fun H7 e7 h7 _ => ?_
        refine r_next ⟨_, _, rfl, ExB.ex (e.trans (e3.trans e6)) e7 nl1, ?_⟩
        rw [List.take_succ_eq_append_getElem ii, List.map_append, List.map_append]
        rw [List.map_append] at h7
        exact h7
    · rintro s h ⟨v4, v5, rfl, e, hl⟩
      rw [show ((rs.length : Int)).toNat = rs.length by omega, List.take_length] at hl
      walk_at "go"
      exact q l h (fresh_back e1 n2) (e1.trans e) hl
def spDue3 (K : PySem.W.Frag) : Sp := fun vs H Q _ => ∃ (a b : Addr) (rs : List WP.PRow) (cs : List Int), vs = [.ref a, .ref b] ∧ Dp K H (.ref a) (WP.rowsD rs) ∧ SqL K H b (cs.map V.int) ∧ rs.length ≤ 4 ∧ rs.length ≤ cs.length ∧ WP.Small rs ∧ (∀ z ∈ cs, 0 ≤ z ∧ z ≤ 1000000) ∧ LeastK H Q rs cs
abbrev s__law_due : Stmt := top 44
theorem sc__law_due : FnScope ["rows", "prices", "falls", "leaps", "best", "place"] ["rows", "prices"] (defScope s__law_due) := ⟨rfl, rfl, rfl, by decide +kernel, rfl, by decide +kernel, by decide +kernel⟩
theorem ok_due3 (T : Txt K mg CB tkC tkK tkL  CBadRuler CBadWords CBadBook CBadTold CBadPlan CBadText CBadCommand) (F : At K mg "_law_due" s__law_due ["rows", "prices"]) (d__law_least_of : Def P w K mg base "_law_least_of" 4 ["rows", "which"] (spLeastOf K)) (d__law_cheapest : Def P w K mg base "_law_cheapest" 4 ["rows", "prices"] (spCheap K)) :
    Def P w K mg base "_law_due" 5 ["rows", "prices"] (spDue3 K) := by
  refine Def.mk' F sc__law_due (fun vs H Q E h => ?_) (fun f cdv Ar outer s H vs Q E hr h => ⟨_, (pss_cons (ps_set (i := 2) sc__law_due.nd rfl (Or.inr rfl) (pe_d d__law_least_of (hr.mono (by decide)) (passes_call (takes_of rfl rfl rfl rfl) (fun _ _ _ _ h => h)) (pa_cons (pv 0) (pa_cons pe_int pa_nil))))
      (pss_cons (ps_set (i := 3) sc__law_due.nd rfl (Or.inl rfl) (pe_d d__law_least_of (hr.mono (by decide)) (passes_call (takes_of rfl rfl rfl rfl) (fun _ _ _ _ h => h)) (pa_cons (pv 0) (pa_cons pe_int pa_nil))))
      (pss_cons (ps_set (i := 4) sc__law_due.nd rfl (Or.inl rfl) (pe_d d__law_cheapest (hr.mono (by decide)) (passes_call (takes_of rfl rfl rfl rfl) (fun _ _ _ _ h => h)) (pa_cons (pv 0) (pa_cons (pv 1) pa_nil))))
      (pss_cons (ps_if (pt_cmpR op_eq (pe_callB (r := rSum K) (cr_sum rfl) rfl T.n_sum (by decide +kernel) (pa_cons (pe_lc (own := [("place", 5)]) (g := gName 5) (tt := tYes) rfl sc__law_due.nd (pi_range1 rfl T.n_range (pa_cons (pe_callB (r := Lay.rLen K) c_len rfl T.n_len PySem.boot_len (pa_cons (pv 0) pa_nil)) pa_nil)) (blkOk_by (own := [("place", 5)]) (N := ["rows", "prices", "falls", "leaps", "best", "place"]) (sc := defScope s__law_due) (by decide +kernel)) (fun _ _ _ _ _ => (pg_name (i := 5) sc__law_due.nd rfl (Or.inl rfl))) (fun _ _ _ _ _ => pts_nil) (fun _ _ _ _ _ => (pe_op op_mul (pe_ix (r := rIxL K) ix_list (pv 1) (pv 5) (fun _ _ => rfl)) (pe_ix (r := rIxL K) ix_list (pv 2) (pv 5) (fun _ _ => rfl))))) pa_nil)) (pv 4) (nomark _)) (pss_one (ps_ret (pe_tup (pa_cons (pv 4) (pa_cons pe_str (pa_cons (pv 2) pa_nil)))))) pss_nil)
      (pss_one (ps_ret (pe_tup (pa_cons (pv 4) (pa_cons pe_str (pa_cons (pv 3) pa_nil)))))))))), ?_⟩)
  · obtain ⟨a, b, rs, cs, rfl, _⟩ := h
    rfl
  · obtain ⟨a, b, rs, cs, rfl, hD, hc, h4, hl, hS, hcb, q⟩ := h
    obtain ⟨xs, hx, hA⟩ := WP.rows_at hD
    have xl := WP.rows_len hA
    have t0 : rs.map (thr 0) = WP.falls rs := rfl
    have t1 : rs.map (thr 1) = WP.leaps rs := rfl
    have lf : (WP.falls rs).length = rs.length := by unfold WP.falls; rw [List.length_map]
    walk_at "go0"
    refine ⟨a, rs, 0, rfl, .inl rfl, hD, h4, hS, fun fl H1 n1 e1 hf => ?_⟩
    rw [t0] at hf
    walk_at "go"
    refine ⟨a, rs, 1, rfl, .inr rfl, Dp.ex e1 _ _ hD, h4, hS, fun ll H2 n2 e2 hl2 => ?_⟩
    rw [t1] at hl2
    have E2 := e1.trans e2
    walk_at "go"
    refine ⟨a, b, rs, cs, rfl, Dp.ex E2 _ _ hD, ex_l E2 hc, h4, hl, hS, hcb, fun H3 e3 => ?_⟩
    have E3 := E2.trans e3
    have hf3 := e3 _ _ (e2 _ _ hf)
    walk_at "go"
    refine r_len (ex_l E3 hx) ?_
    rw [xl]
    walk_at "go"
    refine lcF1 (f := fun k : Nat => gi cs k * gi (WP.falls rs) k) (by omega) (by omega) ?_ ?_ (fun _ => rfl)
    · intro k h5 R hk e5 kk
      have hc5 := ex_l (E3.trans e5) hc
      have hf5 := e5 _ _ hf3
      have cb := gi_cs hcb k
      walk_at "go"
      exact kk h5 (Ex.refl _)
    intro p H4 np e4 hp
    rw [show ((rs.length : Int)).toNat = rs.length by omega] at hp
    walk_at "go"
    refine r_sum (L2.SqL.of hp) ?_
    rw [WP.prN_sum]
    have pf : WP.prN (WP.falls rs) cs rs.length = WP.price (WP.falls rs) cs := by unfold WP.price; rw [lf]
    rw [pf]
    have E4 := E3.trans e4
    walk_at "go"
    refine r_ite (fun c => ?_) (fun c => ?_)
    · walk_at "go"
      refine r_newT (len3 rfl) fun t H5 _ e5 ht => ?_
      have lq : (WP.least rs cs).2 = (("falls" : Str), WP.falls rs) := by
        unfold WP.least at c ⊢
        split
        · rfl
        · rename_i h0
          rw [if_neg h0] at c
          split
          · rename_i h1
            rw [if_pos h1] at c
            change WP.price (WP.falls rs) cs = WP.price (WP.leaps rs) cs at c
            omega
          · rfl
      exact q t fl H5 n1 (E4.trans e5) (by rw [lq]; exact ht) (by rw [lq]; exact e5 _ _ (e4 _ _ hf3))
    · walk_at "go"
      refine r_newT (len3 rfl) fun t H5 _ e5 ht => ?_
      have lq : (WP.least rs cs).2 = (("leaps" : Str), WP.leaps rs) := by
        unfold WP.least at c ⊢
        split
        · rename_i h0
          rw [if_pos h0] at c
          exact absurd rfl c
        · rename_i h0
          rw [if_neg h0] at c
          split
          · rfl
          · rename_i h1
            rw [if_neg h1] at c
            exact absurd rfl c
      exact q t ll H5 (fresh_back e1 n2) (E4.trans e5) (by rw [lq]; exact ht) (by rw [lq]; exact e5 _ _ (e4 _ _ (e3 _ _ hl2)))
end
end K03
namespace K03
open PySem PySem.Spec PyProof.Rows L2 Evl Lay
section
variable {P : Program} {w : World} {K : PySem.W.Frag} {mg : Str → Option Value} {base : Heap} {CB CT CW CTable CBlock CBadRuler CBadWords CBadBook CBadTold CBadPlan CBadText CBadCommand cL__law_refusals PL__law_refusals : Addr} {tkC tkK tkL : Tok}
/-! ### rows drawn -/
/-- at t stands a row; its list is neither p nor q -/
def RowH (p q : Addr) (h : Hp) (t : Addr) (r : WP.PRow) : Prop := match r with
  | .tab ns => ∃ l, h t = some (.tup [.str "table", .ref l]) ∧ h l = some (.lst (ns.map V.int)) ∧ l ≠ p ∧ l ≠ q
  | .blk n => h t = some (.tup [.str "block", .int n])
  | .opn => h t = some (.tup [.str "opening"])
theorem RowH.ex {p q : Addr} {h h2 : Hp} {t : Addr} {r : WP.PRow} (b : RowH p q h t r) (e : Ex h h2) : RowH p q h2 t r := by
  cases r with
  | tab ns => obtain ⟨l, a, b, c⟩ := b; exact ⟨l, e _ _ a, e _ _ b, c⟩
  | blk n => exact e _ _ b
  | opn => exact e _ _ b
theorem RowH.tup {p q : Addr} {h : Hp} {t : Addr} {r : WP.PRow} (b : RowH p q h t r) : ∃ xs, h t = some (.tup xs) := by
  cases r with
  | tab ns => obtain ⟨l, a, _⟩ := b; exact ⟨_, a⟩
  | blk n => exact ⟨_, b⟩
  | opn => exact ⟨_, b⟩
theorem RowH.exb {p q x : Addr} {h h2 : Hp} {t : Addr} {r : WP.PRow} (b : RowH p q h t r) (e : ExB x h h2) (hx : x = p ∨ x = q) (nt : ∀ xs, h x ≠ some (.tup xs)) : RowH p q h2 t r := by
  obtain ⟨xs, ht⟩ := b.tup
  have n : t ≠ x := fun z => nt xs (by rw [← z]; exact ht)
  cases r with
  | tab ns =>
    obtain ⟨l, a, b, c, d⟩ := b
    refine ⟨l, e _ _ n a, e _ _ (fun z => ?_) b, c, d⟩
    rcases hx with rfl | rfl
    · exact c z
    · exact d z
  | blk m => exact e _ _ n b
  | opn => exact e _ _ n b
theorem RowH.dp {K : PySem.W.Frag} {p q : Addr} {h : Hp} {t : Addr} {r : WP.PRow} (b : RowH p q h t r) : Dp K h (.ref t) (WP.rowD r) := by
  cases r with
  | tab ns => obtain ⟨l, a, b, _⟩ := b; exact .tup (L2.SqT.of a) (.cons (.str _) (.cons (.lst (L2.SqL.of b) (dpa_ints ns)) .nil))
  | blk n => exact .tup (L2.SqT.of b) (.cons (.str _) (.cons (.int n) .nil))
  | opn => exact .tup (L2.SqT.of b) (.cons (.str _) .nil)
/-- small: lengths and blocks that all pads reach -/
def SmR (r : WP.PRow) : Prop := match r with
  | .tab ns => 2 ≤ ns.length ∧ ns.length ≤ 10 ∧ WP.InB ns 4
  | .blk n => 1 ≤ n ∧ n ≤ 5
  | .opn => True
theorem small_of {rs : List WP.PRow} (h : ∀ r ∈ rs, SmR r) : WP.Small rs := by
  refine ⟨fun r m => ?_, fun r m => ?_, fun ns m => ?_, fun n m => ?_⟩
  · cases r with
    | tab ns => exact ⟨WP.moN_nn ns _, WP.moN_B (h _ m).2.2 (by decide) _⟩
    | blk n => exact ⟨Int.le_refl _, by show (0 : Int) ≤ 4; decide⟩
    | opn => exact ⟨Int.le_refl _, by show (0 : Int) ≤ 4; decide⟩
  · cases r with
    | tab ns => exact ⟨WP.leN_nn ns _, WP.leN_B (h _ m).2.2 (by decide) _⟩
    | blk n =>
      have z : 1 ≤ n ∧ n ≤ 5 := h _ m
      show 0 ≤ n - 1 ∧ n - 1 ≤ 4
      omega
    | opn => exact ⟨Int.le_refl _, by show (0 : Int) ≤ 4; decide⟩
  · have z : 2 ≤ ns.length ∧ ns.length ≤ 10 ∧ WP.InB ns 4 := h _ m
    omega
  · have z : 1 ≤ n ∧ n ≤ 5 := h _ m
    omega
theorem any_no {ns : List Int} {p : Int → Bool} (h : ∀ z ∈ ns, p z = false) : ¬ ns.any p = true := fun c => by
  obtain ⟨z, m, e⟩ := List.any_eq_true.mp c
  rw [h z m] at e
  cases e
theorem k_small {r : WP.PRow} (h : SmR r) : k1 r = none ∧ k3 r = none ∧ k5 r = none := by
  cases r with
  | tab ns =>
    obtain ⟨a, b, c⟩ := h
    have g1 : ¬ ns.any (fun n => decide (1000000 < n)) = true := any_no fun z m => decide_eq_false (by have := c z m; omega)
    have g2 : ¬ ns.any (fun n => decide (n < 0)) = true := any_no fun z m => decide_eq_false (by have := c z m; omega)
    refine ⟨?_, ?_, ?_⟩
    · show ckMost _ _ _ = none
      unfold ckMost; rw [if_neg (by omega)]
    · show ckNums _ _ _ = none
      unfold ckNums; rw [if_neg g1]
    · show ckPlain ns = none
      unfold ckPlain; rw [if_neg (by omega), if_neg g1, if_neg (by omega), if_neg g2]
  | blk n =>
    obtain ⟨a, b⟩ := h
    refine ⟨rfl, ?_, ?_⟩
    · show ckMost _ _ _ = none
      unfold ckMost; rw [if_neg (by omega)]
    · show ckBlock n = none
      unfold ckBlock; rw [if_neg (by omega), if_neg (by omega)]
  | opn => exact ⟨rfl, rfl, rfl⟩
theorem ck_small {rs : List WP.PRow} {cs : List Int} (h : ∀ r ∈ rs, SmR r) (hl : rs.length ≤ 12) (hc : ∀ z ∈ cs, 0 ≤ z ∧ z ≤ 1000000) : ckRows rs cs = none := by
  have a1 : rs.findSome? k1 = none := List.findSome?_eq_none_iff.mpr fun r m => (k_small (h r m)).1
  have a3 : rs.findSome? k3 = none := List.findSome?_eq_none_iff.mpr fun r m => (k_small (h r m)).2.1
  have a5 : rs.findSome? k5 = none := List.findSome?_eq_none_iff.mpr fun r m => (k_small (h r m)).2.2
  have a2 : ckMost "kinds" rs.length 12 = none := by unfold ckMost; rw [if_neg (by omega)]
  have a4 : ckNums "lines" cs 1000000 = none := by unfold ckNums; rw [if_neg (any_no fun z m => decide_eq_false (by have := hc z m; omega))]
  unfold ckRows
  rw [a1, a2, a3, a4, a5]
  rfl
def spPriceRow : Sp := fun vs H Q _ => ∃ (p q : Addr), vs = [.ref p] ∧ Pur H p ∧ (∃ o, H q = some o) ∧ ∀ t H2 r, ExB p H H2 → Pur H2 p → RowH p q H2 t r → SmR r → Q (.ref t) H2
abbrev s__law_price_row : Stmt := top 38
theorem sc__law_price_row : FnScope ["purse", "sort", "turn"] ["purse"] (defScope s__law_price_row) := ⟨rfl, rfl, rfl, by decide +kernel, rfl, by decide +kernel, by decide +kernel⟩
theorem ok_pricerow (T : Txt K mg CB tkC tkK tkL  CBadRuler CBadWords CBadBook CBadTold CBadPlan CBadText CBadCommand) (F : At K mg "_law_price_row" s__law_price_row ["purse"]) (d__law_draw : Def P w K mg base "_law_draw" 1 ["purse", "many"] spDraw) : Def P w K mg base "_law_price_row" 2 ["purse"] spPriceRow := by
  refine Def.mk' F sc__law_price_row (fun vs H Q E h => ?_) (fun f cdv Ar outer s H vs Q E hr h => ⟨_, (pss_cons (ps_set (i := 1) sc__law_price_row.nd rfl (Or.inl rfl) (pe_d d__law_draw (hr.mono (by decide)) (passes_call (takes_of rfl rfl rfl rfl) (fun _ _ _ _ h => h)) (pa_cons (pv 0) (pa_cons pe_int pa_nil))))
      (pss_cons (ps_if (pt_cmpR op_eq (pv 1) pe_int (nomark _)) (pss_one (ps_ret (pe_tup (pa_cons pe_str (pa_cons (pe_op op_add pe_int (pe_d d__law_draw (hr.mono (by decide)) (passes_call (takes_of rfl rfl rfl rfl) (fun _ _ _ _ h => h)) (pa_cons (pv 0) (pa_cons pe_int pa_nil)))) pa_nil))))) pss_nil)
      (pss_one (ps_ret (pe_tup (pa_cons pe_str (pa_cons (pe_lc (own := [("turn", 2)]) (g := gName 2) (tt := tYes) rfl sc__law_price_row.nd (pi_range1 rfl T.n_range (pa_cons (pe_op op_add pe_int (pe_d d__law_draw (hr.mono (by decide)) (passes_call (takes_of rfl rfl rfl rfl) (fun _ _ _ _ h => h)) (pa_cons (pv 0) (pa_cons pe_int pa_nil)))) pa_nil)) (blkOk_by (own := [("turn", 2)]) (N := ["purse", "sort", "turn"]) (sc := defScope s__law_price_row) (by decide +kernel)) (fun _ _ _ _ _ => (pg_name (i := 2) sc__law_price_row.nd rfl (Or.inl rfl))) (fun _ _ _ _ _ => pts_nil) (fun _ _ _ _ _ => (pe_d d__law_draw (hr.mono (by decide)) passL (pa_cons (pv 0) (pa_cons pe_int pa_nil))))) pa_nil))))))), ?_⟩)
  · obtain ⟨p, q, rfl, _⟩ := h
    rfl
  · obtain ⟨p, q, rfl, hp, ⟨o, hq⟩, k⟩ := h
    walk_at "go0"
    refine ⟨p, _, rfl, by decide, by decide, hp, fun x H1 x0 x1 e1 hp1 => ?_⟩
    walk_at "go"
    refine r_ite (fun c => ?_) (fun c => ?_)
    · walk_at "go"
      refine ⟨p, _, rfl, by decide, by decide, hp1, fun y H2 y0 y1 e2 hp2 => ?_⟩
      walk_at "go"
      exact r_newT (len3 rfl) fun t H3 _ e3 ht => k t H3 (.blk (1 + y)) ((e1.trans e2).trans (Ex.b e3)) (hp2.ex e3) ht ⟨by omega, by omega⟩
    · walk_at "go"
      refine ⟨p, _, rfl, by decide, by decide, hp1, fun y H2 y0 y1 e2 hp2 => ?_⟩
      walk_at "go"
      refine lcR1 (by omega) (by omega) (fun l i h => ∃ zs : List Int, zs.length = i ∧ WP.InB zs 4 ∧ h l = some (.lst (zs.map V.int)) ∧ ExB p H2 h ∧ Pur h p ∧ H2 l = none) ?_ ?_ ?_ (fun _ => rfl)
      · exact fun l h hl e hn => ⟨[], rfl, fun z hz => (List.not_mem_nil hz).elim, hn, Lay.Ex.b e, hp2.ex e, hl⟩
      · intro l i h hi ⟨zs, hz, hall, hl, e, hp3, ln⟩
        have nlp : l ≠ p := by walk_at "ne"
        walk_at "go"
        refine ⟨p, _, rfl, by decide, by decide, hp3, fun r H4 r0 r1 e4 hp4 => ?_⟩
        refine appW (e4 _ _ nlp hl) (by rw [List.length_map]; omega) fun H5 e5 h5 => ⟨zs ++ [r], by rw [List.length_append, hz]; rfl, fun z hz' => ?_, by rw [List.map_append]; exact h5, ExB.exB (e.trans e4) e5 ln, hp4.upd e5 nlp.symm, ln⟩
        rcases List.mem_append.mp hz' with q | q
        · exact hall z q
        · rw [List.mem_singleton.mp q]
          omega
      · intro l h ⟨zs, hz, hall, hl, e, hp3, ln⟩
        have nlp : l ≠ p := by walk_at "ne"
        have lH : H l = none := freshB (e1.trans e2) nlp ln
        walk_at "go"
        refine r_newT (len3 rfl) fun t H3 _ e3 ht => ?_
        exact k t H3 (.tab zs) (((e1.trans e2).trans e).trans (Ex.b e3)) (hp3.ex e3) ⟨l, ht, e3 _ _ hl, nlp, (ne_of_none hq lH).symm⟩ ⟨by omega, by omega, hall⟩
theorem erase_perm {α : Type} : ∀ (ls : List α) (j : Nat) (h : j < ls.length), (ls[j] :: ls.eraseIdx j).Perm ls
  | a :: ls, 0, _ => List.Perm.refl _
  | a :: ls, j + 1, h => by
    have h' : j < ls.length := by
      rw [List.length_cons] at h
      omega
    have ih := erase_perm ls j h'
    show (ls[j] :: a :: ls.eraseIdx j).Perm (a :: ls)
    exact (List.Perm.swap a ls[j] (ls.eraseIdx j)).trans (ih.cons a)
def spMix (K : PySem.W.Frag) : Sp := fun vs H Q _ => ∃ (p a : Addr) (xs : List V), vs = [.ref p, .ref a] ∧ Pur H p ∧ SqL K H a xs ∧ xs.length ≤ 100 ∧ ∀ l H2 zs, H l = none → ExB p H H2 → Pur H2 p → H2 l = some (.lst zs) → zs.Perm xs → Q (.ref l) H2
abbrev s__law_mix : Stmt := top 33
theorem sc__law_mix : FnScope ["purse", "things", "left", "mixed", "turn"] ["purse", "things"] (defScope s__law_mix) := ⟨rfl, rfl, rfl, by decide +kernel, rfl, by decide +kernel, by decide +kernel⟩
theorem ok_mix (T : Txt K mg CB tkC tkK tkL  CBadRuler CBadWords CBadBook CBadTold CBadPlan CBadText CBadCommand) (F : At K mg "_law_mix" s__law_mix ["purse", "things"]) (d__law_draw : Def P w K mg base "_law_draw" 1 ["purse", "many"] spDraw) : Def P w K mg base "_law_mix" 2 ["purse", "things"] (spMix K) := by
  refine Def.mk' F sc__law_mix (fun vs H Q E h => ?_) (fun f cdv Ar outer s H vs Q E hr h => ⟨_, (pss_cons (ps_set (i := 2) sc__law_mix.nd rfl (Or.inl rfl) (pe_callTy (r := Lay.rList K) c_list rfl T.n_list (by decide +kernel) (pa_cons (pv 1) pa_nil)))
      (pss_cons (ps_set (i := 3) sc__law_mix.nd rfl (Or.inl rfl) (pe_lst pa_nil))
      (pss_cons (ps_for (passes_of rfl) rfl (pi_range1 rfl T.n_range (pa_cons (pe_callB (r := Lay.rLen K) c_len rfl T.n_len PySem.boot_len (pa_cons (pv 1) pa_nil)) pa_nil)) (pg_name (i := 4) sc__law_mix.nd rfl (Or.inl rfl)) (pss_one (ps_expr (pe_bm PySem.F.plainAttrs_list PySem.F.slot_list_append PySem.F.type_list_append mt_append (pv 3) (pa_cons (pe_bm PySem.F.plainAttrs_list PySem.F.slot_list_pop PySem.F.type_list_pop mt_popAt (pv 2) (pa_cons (pe_d d__law_draw (hr.mono (by decide)) (passes_call (takes_of rfl rfl rfl rfl) (fun _ _ _ _ h => h)) (pa_cons (pv 0) (pa_cons (pe_callB (r := Lay.rLen K) c_len rfl T.n_len PySem.boot_len (pa_cons (pv 2) pa_nil)) pa_nil))) pa_nil)) pa_nil)))))
      (pss_one (ps_ret (pv 3)))))), ?_⟩)
  · obtain ⟨p, a, xs, rfl, _⟩ := h
    rfl
  · obtain ⟨p, a, xs, rfl, hp, ha, h100, q⟩ := h
    walk_at "go0"
    refine r_list ha fun f0 H1 n1 e1 hf => ?_
    walk_at "go"
    refine r_newI0 fun m H2 n2 e2 hm => ?_
    have hf2 := e2 _ _ hf
    have hp2 := (hp.ex e1).ex e2
    have nfp : f0 ≠ p := by walk_at "ne"
    have nmp : m ≠ p := by walk_at "ne"
    have nfm : f0 ≠ m := ne_of_none hf n2
    have nmH : H m = none := fresh_back e1 n2
    walk_at "go"
    refine r_len (ex_l e2 (ex_l e1 ha)) ?_
    walk_at "go"
    refine forR1 (by omega) (by omega) (fun i s h => ∃ v4 ls ms, s = [some (.ref p), some (.ref a), some (.ref f0), some (.ref m), v4] ∧ ExB p H h ∧ Pur h p ∧ h f0 = some (.lst ls) ∧ h m = some (.lst ms) ∧ ls.length + i = xs.length ∧ ms.length = i ∧ (ms ++ ls).Perm xs) ?_ ?_ ?_
    · exact ⟨_, xs, [], rfl, Ex.b (e1.trans e2), hp2, hf2, hm, rfl, rfl, List.Perm.refl _⟩
    · rintro i s h hi ⟨v4, ls, ms, rfl, e, hp, hf, hm, hl, hml, hP⟩
      have hmS : SqL K h m ms := L2.SqL.of hm
      have hfS : SqL K h f0 ls := L2.SqL.of hf
      walk_at "go"
      refine r_len hfS ?_
      walk_at "go"
      refine ⟨p, _, rfl, by omega, by omega, hp, fun x H3 x0 x1 e3 hp3 => ?_⟩
      have hf3 := e3 _ _ nfp hf
      have hm3 := e3 _ _ nmp hm
      obtain ⟨j, rfl⟩ : ∃ j : Nat, x = j := ⟨x.toNat, by omega⟩
      have hj : j < ls.length := by omega
      walk_at "go"
      refine ⟨f0, ls, j, j, ls[j], rfl, rfl, hf3, by omega, by omega, ?_, List.getElem?_eq_getElem hj, ?_⟩
      · exact seqIndex_of (by omega) (by omega)
      have e4 : ExB f0 H3 (upd H3 f0 (.lst (ls.eraseIdx j))) := fun b o n z => by rw [upd_ne n]; exact z
      have hm4 : upd H3 f0 (.lst (ls.eraseIdx j)) m = some (.lst ms) := by rw [upd_ne nfm.symm]; exact hm3
      have hf4 : upd H3 f0 (.lst (ls.eraseIdx j)) f0 = some (.lst (ls.eraseIdx j)) := upd_same
      have hp4 : Pur (upd H3 f0 (.lst (ls.eraseIdx j))) p := hp3.upd e4 nfp.symm
      generalize upd H3 f0 (.lst (ls.eraseIdx j)) = H4 at e4 hm4 hf4 hp4 ⊢
      walk_at "go"
      refine r_app hm4 (by omega) fun H5 e5 h5 _ => ?_
      refine r_next ⟨_, ls.eraseIdx j, ms ++ [ls[j]], rfl, ExB.exB (ExB.exB (e.trans e3) e4 n1) e5 nmH, hp4.upd e5 nmp.symm, e5 _ _ nfm hf4, h5, ?_, ?_, ?_⟩
      · rw [List.length_eraseIdx, if_pos hj]; omega
      · rw [List.length_append, hml]; rfl
      · refine List.Perm.trans ?_ hP
        rw [List.append_assoc]
        exact List.Perm.append_left ms (erase_perm ls j hj)
    · rintro s h ⟨v4, ls, ms, rfl, e, hp, hf, hm, hl, hml, hP⟩
      have l0 : ls = [] := List.length_eq_zero_iff.mp (by omega)
      rw [l0, List.append_nil] at hP
      walk_at "go"
      exact q m h ms nmH e hp hm hP
def spPricedR (K : PySem.W.Frag) : Sp := fun vs H Q _ => ∃ (a b : Addr) (rs : List WP.PRow) (cs : List Int), vs = [.ref a, .ref b] ∧ Dp K H (.ref a) (WP.rowsD rs) ∧ SqL K H b (cs.map V.int) ∧ rs.length ≤ 4 ∧ rs.length ≤ cs.length ∧ cs.length ≤ 100 ∧ (∀ r ∈ rs, SmR r) ∧ (∀ z ∈ cs, 0 ≤ z ∧ z ≤ 1000000) ∧ ∀ H2, Ex H H2 → Q (.bl true) H2
theorem dp_told {K : PySem.W.Frag} {h : Hp} {t l : Addr} {n : Int} {s : Str} {ns : List Int} (ht : h t = some (.tup [.int n, .str s, .ref l])) (hl : h l = some (.lst (ns.map V.int))) : Dp K h (.ref t) (.tuple [.int n, .str s, .list (ns.map PyData.int)]) :=
  .tup (L2.SqT.of ht) (.cons (.int n) (.cons (.str s) (.cons (.lst (L2.SqL.of hl) (dpa_ints ns)) .nil)))
theorem sh_told {n : Int} {s : Str} {ns : List Int} (hs : PyData.strOk s = true) : SeqAt.shaped (.tuple [.int n, .str s, .list (ns.map PyData.int)]) = true := by
  have a := ints_lay ns
  have b := ints_depth ns
  refine shape_of ?_ ?_
  · simp [PyData.canLay0, PyData.canLayAll0, a, hs]
  · simp only [PyData.depth, PyData.depthAll]
    omega
theorem least_str {rs : List WP.PRow} {cs : List Int} : PyData.strOk (WP.least rs cs).2.1 = true := by
  unfold WP.least
  split
  · show PyData.strOk ("falls" : Str) = true
    decide +kernel
  split
  · show PyData.strOk ("leaps" : Str) = true
    decide +kernel
  · show PyData.strOk ("falls" : Str) = true
    decide +kernel
theorem least_len {rs : List WP.PRow} {cs : List Int} : (WP.least rs cs).2.2.length = rs.length := by
  unfold WP.least WP.falls WP.leaps
  split
  · show (rs.map _).length = _
    rw [List.length_map]
  split
  · show (rs.map _).length = _
    rw [List.length_map]
  · show (rs.map _).length = _
    rw [List.length_map]
abbrev s__law_priced_right : Stmt := top 45
theorem sc__law_priced_right : FnScope ["rows", "prices", "handed", "worth", "turn", "told", "row", "one"] ["rows", "prices"] (defScope s__law_priced_right) := ⟨rfl, rfl, rfl, by decide +kernel, rfl, by decide +kernel, by decide +kernel⟩
theorem ok_pricedr (T : Txt K mg CB tkC tkK tkL  CBadRuler CBadWords CBadBook CBadTold CBadPlan CBadText CBadCommand) (F : At K mg "_law_priced_right" s__law_priced_right ["rows", "prices"]) (d_least_pads : Def P w K mg base "least_pads" 8 ["rows", "prices"] (spLeast K CT CW)) (d__law_due : Def P w K mg base "_law_due" 5 ["rows", "prices"] (spDue3 K)) :
    Def P w K mg base "_law_priced_right" 9 ["rows", "prices"] (spPricedR K) := by
  refine Def.mk' F sc__law_priced_right (fun vs H Q E h => ?_) (fun f cdv Ar outer s H vs Q E hr h => ⟨_, (pss_cons (ps_setLc (i := 2) (own := [("row", 6)]) (g := gName 6) (tt := tYes) rfl sc__law_priced_right.nd rfl rfl (sw_true rfl rfl rfl (by decide +kernel)) (pi_list (pv 0)) (blkOk_by (own := [("row", 6)]) (N := ["rows", "prices", "handed", "worth", "turn", "told", "row", "one"]) (sc := defScope s__law_priced_right) (by decide +kernel)) (fun _ _ _ _ _ => (pg_name (i := 6) sc__law_priced_right.nd rfl (Or.inl rfl))) (fun _ _ _ _ _ => pts_nil) (fun _ _ _ _ _ => (pe_ifExp (pt_cmpR op_eq (pe_ix (r := rIxT K) ix_tup (pv 6) pe_int (fun _ _ => rfl)) pe_str (nomark _)) (pe_tup (pa_cons (pe_ix (r := rIxT K) ix_tup (pv 6) pe_int (fun _ _ => rfl)) (pa_cons (pe_callTy (r := Lay.rList K) c_list rfl T.n_list (by decide +kernel) (pa_cons (pe_ix (r := rIxT K) ix_tup (pv 6) pe_int (fun _ _ => rfl)) pa_nil)) pa_nil))) (pv 6))))
      (pss_cons (ps_set (i := 3) sc__law_priced_right.nd rfl (Or.inl rfl) (pe_callTy (r := Lay.rList K) c_list rfl T.n_list (by decide +kernel) (pa_cons (pv 1) pa_nil)))
      (pss_cons (ps_for (passes_of rfl) rfl (pi_range1 rfl T.n_range (pa_cons pe_int pa_nil)) (pg_name (i := 4) sc__law_priced_right.nd rfl (Or.inl rfl)) (pss_cons (ps_set (i := 5) sc__law_priced_right.nd rfl (Or.inl rfl) (pe_d d_least_pads (hr.mono (by decide)) (passes_call (takes_of rfl rfl rfl rfl) (fun _ _ _ _ h => h)) (pa_cons (pv 2) (pa_cons (pv 3) pa_nil))))
      (pss_cons (ps_if (PW.pt (pw_or (pt_not (pt_val (pe_callB (r := rIsi K) call_isi rfl T.n_isinstance (by decide +kernel) (pa_cons (pv 5) (pa_cons (pe_bltn (v := .ty "tuple") (u := .type "tuple") rfl T.n_tuple (by decide +kernel) rfl) pa_nil))))) (pw_or (pt_cmpR (r := rNeD K) (op_neD hr.units) (pv 5) (pe_d d__law_due (hr.mono (by decide)) (passes_call (takes_of rfl rfl rfl rfl) (fun _ _ _ _ h => h)) (pa_cons (pv 0) (pa_cons (pv 1) pa_nil))) (nomark _)) (pw_or1 (pt_not (pt_val (pe_callB (r := rIsi K) call_isi rfl T.n_isinstance (by decide +kernel) (pa_cons (pe_ix (r := rIxT K) ix_tup (pv 5) pe_int (fun _ _ => rfl)) (pa_cons (pe_bltn (v := .ty "list") (u := .type "list") rfl T.n_list (by decide +kernel) rfl) pa_nil))))))))) (pss_one (ps_ret pe_bl)) pss_nil)
      (pss_cons (ps_if (pt_cmpR op_gt (pe_callB (r := Lay.rLen K) c_len rfl T.n_len PySem.boot_len (pa_cons (pe_lc (own := [("one", 7)]) (g := gName 7) rfl sc__law_priced_right.nd (pi_list (pe_op op_cat (pe_ix (r := rIxT K) ix_tup (pv 5) pe_int (fun _ _ => rfl)) (pe_lst (pa_cons (pe_ix (r := rIxT K) ix_tup (pv 5) pe_int (fun _ _ => rfl)) pa_nil)))) (blkOk_by (own := [("one", 7)]) (N := ["rows", "prices", "handed", "worth", "turn", "told", "row", "one"]) (sc := defScope s__law_priced_right) (by decide +kernel)) (fun _ _ _ _ _ => (pg_name (i := 7) sc__law_priced_right.nd rfl (Or.inl rfl))) (fun _ _ _ _ _ => (pts_one (pt_val (pe_callB (r := rIsi K) call_isi rfl T.n_isinstance (by decide +kernel) (pa_cons (pv 7) (pa_cons (pe_bltn (v := .ty "bool") (u := .type "bool") rfl T.n_bool (by decide +kernel) rfl) pa_nil)))))) (fun _ _ _ _ _ => (pv 7))) pa_nil)) pe_int (nomark _)) (pss_one (ps_ret pe_bl)) pss_nil)
      (pss_cons (ps_if (PW.pt (pw_or (pt_cmpR (r := rNeD K) (op_neD hr.units) (pv 2) (pv 0) (nomark _)) (pw_or1 (pt_cmpR (r := rNeD K) (op_neD hr.units) (pv 3) (pv 1) (nomark _))))) (pss_one (ps_ret pe_bl)) pss_nil)
      (pss_one (ps_expr (pe_bm PySem.F.plainAttrs_list PySem.F.slot_list_append PySem.F.type_list_append mt_append (pe_ix (r := rIxT K) ix_tup (pv 5) pe_int (fun _ _ => rfl)) (pa_cons pe_int pa_nil)))))))))
      (pss_one (ps_ret pe_bl))))), ?_⟩)
  · obtain ⟨a, b, rs, cs, rfl, _⟩ := h
    rfl
  · obtain ⟨a, b, rs, cs, rfl, hD, hc, h4, hl, h100, hS, hcb, q⟩ := h
    obtain ⟨xs, hx, hA⟩ := WP.rows_at hD
    have xl := WP.rows_len hA
    have hk : ckRows rs cs = none := ck_small hS (by omega) hcb
    walk_at "go0"
    refine lcLG hx (fun p i h => ∃ ys, LB K h p ys ((rs.take i).map WP.rowD) ∧ Ex H h ∧ H p = none) ?_ ?_ ?_ ?_
    · exact fun p h n e hp => ⟨[], LB.nil hp, e, n⟩
    · rintro p i h _ ⟨_, _, e, _⟩
      exact ex_l e hx
    · rintro p i x h hxi ⟨ys, hB, e, n⟩
      obtain ⟨r, hr, hd0⟩ := WP.rows_get hA hxi
      have hd := Dp.ex e _ _ hd0
      obtain ⟨hi, er⟩ := List.getElem?_eq_some_iff.mp hr
      have hp1 := hB.1
      have tk : rs.take (i + 1) = rs.take i ++ [r] := by rw [List.take_succ_eq_append_getElem hi, er]
      refine r_gName ?_
      refine r_yesC rfl ?_
      refine r_tIf ?_
      have keep : r ≠ r → False := fun z => z rfl
      cases r with
      | tab ns =>
        obtain ⟨t, l, rfl, ht, hns⟩ := WP.row_tab hd
        walk_at "go"
        refine r_yes rfl ?_
        walk_at "go"
        refine r_listI hns fun l2 H2 n2 e2 hl2 => ?_
        walk_at "go"
        refine r_newT (len3 rfl) fun t2 H3 n3 e3 ht2 => ?_
        have hp3 := e3 _ _ (e2 _ _ hp1)
        have n2p : l2 ≠ p := (ne_of_none hp1 n2).symm
        have n3p : t2 ≠ p := (ne_of_none (e2 _ _ hp1) n3).symm
        refine (hB.ex (e2.trans e3)).appW (by rw [hB.len, List.length_map, List.length_take]; omega) (d := WP.rowD (.tab ns)) (.tup (L2.SqT.of (by rw [del_ne n3p]; exact ht2)) (.cons (.str _) (.cons (.lst (L2.SqL.of (by rw [del_ne n2p]; exact e3 _ _ hl2)) (dpa_ints ns)) .nil))) fun H5 e5 b5 => ⟨ys ++ [.ref t2], ?_, ExB.ex (e.trans (e2.trans e3)) e5 n, n⟩
        rw [tk, List.map_append]
        exact b5
      | blk m =>
        obtain ⟨t, rfl, ht⟩ := WP.row_blk hd
        walk_at "go"
        refine r_no (by decide +kernel) ?_
        walk_at "go"
        refine hB.appW (by rw [hB.len, List.length_map, List.length_take]; omega) (d := WP.rowD (.blk m)) (Dp.ex (ex_to_del e n) _ _ hd0) fun H5 e5 b5 => ⟨ys ++ [.ref t], ?_, ExB.ex e e5 n, n⟩
        rw [tk, List.map_append]
        exact b5
      | opn =>
        obtain ⟨t, rfl, ht⟩ := WP.row_opn hd
        walk_at "go"
        refine r_no (by decide +kernel) ?_
        walk_at "go"
        refine hB.appW (by rw [hB.len, List.length_map, List.length_take]; omega) (d := WP.rowD .opn) (Dp.ex (ex_to_del e n) _ _ hd0) fun H5 e5 b5 => ⟨ys ++ [.ref t], ?_, ExB.ex e e5 n, n⟩
        rw [tk, List.map_append]
        exact b5
    rintro hd1 H1 ⟨ys, hB, e1, nh⟩
    rw [xl, List.take_length] at hB
    have hD1 : Dp K H1 (.ref hd1) (WP.rowsD rs) := hB.dp
    walk_at "go"
    refine r_listI (ex_l e1 hc) fun wo H2 nw e2 hw => ?_
    have E2 := e1.trans e2
    have hD2 := Dp.ex e2 _ _ hD1
    walk_at "go"
    refine forR1 (by decide) (by decide) (fun i s h => ∃ v4 v5, s = [some (.ref a), some (.ref b), some (.ref hd1), some (.ref wo), v4, v5, none, none] ∧ Ex H2 h) ⟨_, _, rfl, Ex.refl _⟩ ?_ ?_
    · rintro i s h hi ⟨v4, v5, rfl, e⟩
      walk_at "go"
      refine ⟨hd1, wo, rs, cs, rfl, Dp.ex e _ _ hD2, L2.SqL.of (e _ _ hw), fun _ => hl, ?_⟩
      rw [hk]
      intro t l H3 nl e3 ht hll
      have E3 := e.trans e3
      walk_at "go"
      refine ⟨a, b, rs, cs, rfl, Dp.ex (E2.trans E3) _ _ hD, ex_l (E2.trans E3) hc, h4, hl, small_of hS, hcb, fun t2 l2 H4 nl2 e4 ht2 hl2 => ?_⟩
      have ht4 := e4 _ _ ht
      have hl4 := e4 _ _ hll
      refine r_neSame (dp_told ht4 hl4) (dp_told ht2 hl2) (sh_told least_str) ?_
      walk_at "go"
      have E4 := E3.trans e4
      refine r_newI1 fun o H5 n5 e5 ho => ?_
      walk_at "go"
      refine r_catI (e5 _ _ hl4) ho (by rw [least_len]; show rs.length + 1 ≤ _; omega) fun g H6 n6 e6 hg => ?_
      refine lcLG (L2.SqL.of hg) (fun p i h => h p = some (.lst []) ∧ Ex H6 h) ?_ ?_ ?_ ?_
      · exact fun p h n e hp => ⟨hp, e⟩
      · rintro p i h _ ⟨_, e⟩
        exact L2.SqL.of (e _ _ hg)
      · rintro p i x h hxi ⟨hp, e⟩
        obtain ⟨hi', rfl⟩ := int_at hxi
        refine r_gName ?_
        refine ⟨rfl, ?_⟩
        walk_at "go"
        exact ⟨hp, e⟩
      rintro p H7 ⟨hp, e7⟩
      have E7 := E4.trans (e5.trans (e6.trans e7))
      have ht7 := e7 _ _ (e6 _ _ (e5 _ _ ht4))
      have hl7 := e7 _ _ (e6 _ _ (e5 _ _ hl4))
      walk_at "go"
      refine r_len (L2.SqL.of hp) ?_
      walk_at "go"
      refine r_no (by decide) ?_
      walk_at "go"
      refine r_neSame (Dp.ex E7 _ _ hD2) (Dp.ex (E2.trans E7) _ _ hD) (WP.sh_rows rs) ?_
      walk_at "go"
      refine r_neL (L2.SqL.of (E7 _ _ hw)) (ex_l (E2.trans E7) hc) ?_
      walk_at "go"
      refine r_noN rfl ?_
      walk_at "go"
      refine r_appI hl7 (by rw [least_len]; omega) fun H8 e8 h8 _ => ?_
      exact r_next ⟨_, _, rfl, ExB.ex E7 e8 (fresh_back e nl)⟩
    · rintro s h ⟨v4, v5, rfl, e⟩
      walk_at "go"
      exact q h (E2.trans e)
end
end K03
namespace K03
open PySem PySem.Spec PyProof.Rows L2 Evl Lay
section
variable {P : Program} {w : World} {K : PySem.W.Frag} {mg : Str → Option Value} {base : Heap} {CB CT CW CTable CBlock CBadRuler CBadWords CBadBook CBadTold CBadPlan CBadText CBadCommand cL__law_refusals PL__law_refusals : Addr} {tkC tkK tkL : Tok}
/-! ### refused -/
def dead3 : Addr → Value → Option Addr → TS := fun _ _ _ => fun _ _ _ => False
def L00 (CT CW CBadRuler CBadWords CBadBook CBadTold CBadPlan CBadText CBadCommand : Addr) : List ClA :=
  [(.ref CT, 1, retF "many" CT "what" 1), (.ref CBadRuler, 1, dead3), (.ref CW, 1, retF2 "style" CW "name" "what" 1), (.ref CBadWords, 1, dead3), (.ref CBadBook, 1, dead3), (.ref CBadTold, 1, dead3), (.ref CBadPlan, 1, dead3), (.ref CBadText, 1, dead3), (.ref CBadCommand, 1, dead3)]
abbrev s__law_refused : Stmt := top 37
theorem sc__law_refused : FnScope ["action", "e"] ["action"] (defScope s__law_refused) := ⟨rfl, rfl, rfl, by decide +kernel, rfl, by decide +kernel, by decide +kernel⟩
theorem ref_gives {X : Cx} (T : Txt X.K X.mg CB tkC tkK tkL CBadRuler CBadWords CBadBook CBadTold CBadPlan CBadText CBadCommand) (x_TooMany : Exn P w X.K X.mg base "TooMany" "what" CT) (x_BadStyle : Exn2 P w X.K X.mg base "BadStyle" "name" "what" CW) {q : Str} (g : Addr) (cdg : Value) :
    LamX.GivesTo X ["action", "e"] "_law_refused" (defScope s__law_refused) g cdg (defBody s__law_refused) "action" q (TTry X.K ["action", "e"] (L00 CT CW CBadRuler CBadWords CBadBook CBadTold CBadPlan CBadText CBadCommand) (tRet (tC .non))) := by
  refine try_gives ?ga ?gb ?gc ?gd g cdg
  case ga => decide +kernel
  case gb => exact fun f => rfl
  case gc => exact fun g cdg s H => (HdsA.cons ⟨rfl, by decide, Or.inl x_TooMany.g⟩ (i := 1) rfl rfl (fun a oe cls d pn hz hf => (pss_one (ps_ret (pe_tup (pa_cons pe_str (pa_cons (pe_xf x_TooMany.xf x_TooMany.no hz hf (pv 1)) pa_nil)))))) (HdsA.cons ⟨rfl, by decide, Or.inl T.g_BadRuler⟩ (i := 1) rfl rfl (fun a oe cls d pn hz hf => (pss_one ps_dead)) (HdsA.cons ⟨rfl, by decide, Or.inl x_BadStyle.g⟩ (i := 1) rfl rfl (fun a oe cls d pn hz hf => (pss_one (ps_ret (pe_tup (pa_cons pe_str (pa_cons (pe_xf x_BadStyle.xf x_BadStyle.no hz hf (pv 1)) (pa_cons (pe_xf x_BadStyle.xf x_BadStyle.no2 hz hf (pv 1)) pa_nil))))))) (HdsA.cons ⟨rfl, by decide, Or.inl T.g_BadWords⟩ (i := 1) rfl rfl (fun a oe cls d pn hz hf => (pss_one ps_dead)) (HdsA.cons ⟨rfl, by decide, Or.inl T.g_BadBook⟩ (i := 1) rfl rfl (fun a oe cls d pn hz hf => (pss_one ps_dead)) (HdsA.cons ⟨rfl, by decide, Or.inl T.g_BadTold⟩ (i := 1) rfl rfl (fun a oe cls d pn hz hf => (pss_one ps_dead)) (HdsA.cons ⟨rfl, by decide, Or.inl T.g_BadPlan⟩ (i := 1) rfl rfl (fun a oe cls d pn hz hf => (pss_one ps_dead)) (HdsA.cons ⟨rfl, by decide, Or.inl T.g_BadText⟩ (i := 1) rfl rfl (fun a oe cls d pn hz hf => (pss_one ps_dead)) (HdsA.cons ⟨rfl, by decide, Or.inl T.g_BadCommand⟩ (i := 1) rfl rfl (fun a oe cls d pn hz hf => (pss_one ps_dead)) HdsA.nil)))))))))
  case gd => exact fun g cdg s H => pss_one (ps_ret pe_non)
def erT : Er → List V
  | .many s => [.str "many", .str s]
  | .style s => [.str "style", .str "", .str s]
def RK (Q : VK) (e : Er) (H2 : Hp) : Prop := ∀ t H3, Ex H2 H3 → H3 t = some (.tup (erT e)) → Q (.ref t) H3
theorem r_refE {Ta : List (Addr × Str)} {t : XK → TE} {σ : L2.St} {H : Hp} {Q : VK} (x_TooMany : Exn P w K mg base "TooMany" "what" CT) (x_BadStyle : Exn2 P w K mg base "BadStyle" "name" "what" CW) (x_WT : PySem.W.exmOne K (.ref CW) (.ref CT) = some false)
    (x_WBadRuler : PySem.W.exmOne K (.ref CW) (.ref CBadRuler) = some false) (hT : LamX.Tabs Ta H)
    (h : ∀ H1 (E' : XK), LamX.ExtN H H1 → LamX.Tabs Ta H1 → (∀ e H2, RK Q e H2 → Raised CT CW e H2 E') → t E' σ H1 (fun _ H2 => Q .non H2)) :
    LamX.tLam Ta (TTry K ["action", "e"] (L00 CT CW CBadRuler CBadWords CBadBook CBadTold CBadPlan CBadText CBadCommand) (tRet (tC .non))) t σ H Q := by
  refine r_lam hT fun H1 eN hT1 => ?_
  intro f
  refine h H1 _ eN hT1 fun e H2 k => ?_
  cases e with
  | many s => exact fun d H3 e3 hd σ' hl => wm_yes x_TooMany.te hd (by rw [hl]; decide) fun t H4 e4 ht => k t H4 (e3.trans e4) ht
  | style s => exact fun d H3 e3 hd σ' hl => wm_no x_WT (wm_no x_WBadRuler (wm_yes2 x_BadStyle.te hd (by decide +kernel) (by rw [hl]; decide) fun t H4 e4 ht => k t H4 (e3.trans e4) ht))
/-! ### more of heaps -/
mutual
theorem Dp.exn {K : PySem.W.Frag} {H H' : Hp} (e : LamX.ExtN H H') : ∀ (d : PyData) (v : V), Dp K H v d → Dp K H' v d
  | .none, _, h => by cases h; exact .non
  | .bool b, _, h => by cases h; exact .bl b
  | .int i, _, h => by cases h; exact .int i
  | .str x, _, h => by cases h; exact .str x
  | .list ds, _, h => by
    cases h with
    | lst hs ha => exact .lst (exn_l e hs) (Dp.exnAll e ds _ ha)
  | .tuple ds, _, h => by
    cases h with
    | tup hs ha =>
      refine .tup ?_ (Dp.exnAll e ds _ ha)
      rcases hs with (h | ⟨o, h⟩) | h
      · exact .inl (.inl (e _ _ h fun _ z => by cases z))
      · exact .inl (.inr ⟨o, e _ _ h fun _ z => by cases z⟩)
      · exact .inr h
  | .dict _, _, h => by cases h
theorem Dp.exnAll {K : PySem.W.Frag} {H H' : Hp} (e : LamX.ExtN H H') : ∀ (ds : List PyData) (vs : List V), DpAll K H vs ds → DpAll K H' vs ds
  | [], _, h => by cases h; exact .nil
  | d :: ds, _, h => by
    cases h with
    | cons h1 h2 => exact .cons (Dp.exn e d _ h1) (Dp.exnAll e ds _ h2)
end
theorem dpa_take {K : PySem.W.Frag} {H : Hp} : ∀ {xs : List V} {ds : List PyData}, DpAll K H xs ds → ∀ n, DpAll K H (xs.take n) (ds.take n)
  | _, _, .nil, n => by simp; exact .nil
  | _, _, .cons a r, 0 => .nil
  | _, _, .cons a r, n + 1 => .cons a (dpa_take r n)
theorem dpa_drop {K : PySem.W.Frag} {H : Hp} : ∀ {xs : List V} {ds : List PyData}, DpAll K H xs ds → ∀ n, DpAll K H (xs.drop n) (ds.drop n)
  | _, _, .nil, n => by simp; exact .nil
  | _, _, .cons a r, 0 => .cons a r
  | _, _, .cons a r, n + 1 => dpa_drop r n
theorem dpa_rep {K : PySem.W.Frag} {H : Hp} {v : V} {d : PyData} (h : Dp K H v d) : ∀ n, DpAll K H (List.replicate n v) (List.replicate n d)
  | 0 => .nil
  | n + 1 => .cons h (dpa_rep h n)
theorem cutV_to {xs : List V} {n : Nat} (h : n ≤ xs.length) : cutV xs none (some (n : Int)) = xs.take n := by
  unfold cutV
  rw [HT.sIx_nat, Nat.min_eq_left h]
  show (xs.drop 0).take (n - 0) = _
  rw [List.drop_zero, Nat.sub_zero]
theorem cutV_from {xs : List V} {n : Nat} (h : n ≤ xs.length) : cutV xs (some (n : Int)) none = xs.drop n := by
  unfold cutV
  rw [HT.sIx_nat, Nat.min_eq_left h]
  show (xs.drop n).take (xs.length - n) = _
  rw [List.take_of_length_le (by rw [List.length_drop]; omega)]
/-! ### what is refused, told ahead -/
def okR (r : WP.PRow) : Prop := k1 r = none ∧ k3 r = none ∧ k5 r = none
theorem fs_app {k : WP.PRow → Option Er} {A B : List WP.PRow} (h : ∀ r ∈ A, k r = none) : (A ++ B).findSome? k = B.findSome? k := by
  rw [List.findSome?_append, List.findSome?_eq_none_iff.mpr h]
  rfl
theorem ck_mid {A B : List WP.PRow} {b : WP.PRow} {cs : List Int} {e : Er} (hA : ∀ r ∈ A, okR r) (hB : ∀ r ∈ B, okR r) (h1 : k1 b = none) (h3 : k3 b = none) (h5 : k5 b = some e) (hl : (A ++ [b] ++ B).length ≤ 12) (hc : ckNums "lines" cs 1000000 = none) : ckRows (A ++ [b] ++ B) cs = some e := by
  have n1 : (A ++ [b] ++ B).findSome? k1 = none := List.findSome?_eq_none_iff.mpr fun r m => by
    rcases List.mem_append.mp m with m | m
    · rcases List.mem_append.mp m with m | m
      · exact (hA r m).1
      · rw [List.mem_singleton.mp m]; exact h1
    · exact (hB r m).1
  have n3 : (A ++ [b] ++ B).findSome? k3 = none := List.findSome?_eq_none_iff.mpr fun r m => by
    rcases List.mem_append.mp m with m | m
    · rcases List.mem_append.mp m with m | m
      · exact (hA r m).2.1
      · rw [List.mem_singleton.mp m]; exact h3
    · exact (hB r m).2.1
  have n2 : ckMost "kinds" (A ++ [b] ++ B).length 12 = none := by unfold ckMost; rw [if_neg (by omega)]
  have n5 : (A ++ [b] ++ B).findSome? k5 = some e := by
    rw [List.append_assoc, fs_app fun r m => (hA r m).2.2]
    show (b :: B).findSome? k5 = some e
    rw [List.findSome?_cons, h5]
  unfold ckRows
  rw [n1, n2, n3, hc, n5]
  rfl
theorem ck_pr {rs : List WP.PRow} {cs : List Int} {e : Er} (h1 : ∀ r ∈ rs, k1 r = none) (h3 : ∀ r ∈ rs, k3 r = none) (hl : rs.length ≤ 12) (hc : ckNums "lines" cs 1000000 = some e) : ckRows rs cs = some e := by
  have n2 : ckMost "kinds" rs.length 12 = none := by unfold ckMost; rw [if_neg (by omega)]
  unfold ckRows
  rw [List.findSome?_eq_none_iff.mpr h1, n2, List.findSome?_eq_none_iff.mpr h3, hc]
  rfl
theorem ck_many {rs : List WP.PRow} {cs : List Int} (h1 : ∀ r ∈ rs, k1 r = none) (hl : 12 < rs.length) : ckRows rs cs = some (.many "kinds") := by
  have n2 : ckMost "kinds" rs.length 12 = some (.many "kinds") := by unfold ckMost; rw [if_pos (by omega)]
  unfold ckRows
  rw [List.findSome?_eq_none_iff.mpr h1, n2]
  rfl
theorem ck_cells {A B : List WP.PRow} {b : WP.PRow} {cs : List Int} {e : Er} (h1 : ∀ r ∈ A, k1 r = none) (hb : k1 b = some e) : ckRows (A ++ b :: B) cs = some e := by
  have n1 : (A ++ b :: B).findSome? k1 = some e := by rw [fs_app h1, List.findSome?_cons, hb]
  unfold ckRows
  rw [n1]
  rfl
/-- the wrong row stands among right ones -/
theorem mid_all {A B : List WP.PRow} {b : WP.PRow} {k : WP.PRow → Option Er} (hA : ∀ r ∈ A, k r = none) (hB : ∀ r ∈ B, k r = none) (hb : k b = none) : ∀ r ∈ A ++ [b] ++ B, k r = none := fun r m => by
  rcases List.mem_append.mp m with m | m
  · rcases List.mem_append.mp m with m | m
    · exact hA r m
    · rw [List.mem_singleton.mp m]; exact hb
  · exact hB r m
/-! ### the wide one -/
def wideR (n : Int) : List WP.PRow := .tab (List.replicate 63 1000000 ++ [n]) :: List.replicate 11 (.blk 1000000)
def wideC : List Int := 1000000 :: List.replicate 11 1
theorem wide_gi {n : Int} {i : Nat} (h : i < 64) : gi (List.replicate 63 1000000 ++ [n]) i = if i < 63 then 1000000 else n := by
  unfold gi
  rw [Int.toNat_natCast, List.getD_eq_getElem?_getD]
  split
  · rw [List.getElem?_append_left (by rw [List.length_replicate]; omega), List.getElem?_replicate]
    rw [if_pos (by omega)]
    rfl
  · rw [List.getElem?_append_right (by rw [List.length_replicate]; omega), List.length_replicate, show i - 63 = 0 by omega]
    rfl
theorem wide_f {n : Int} (h0 : 0 ≤ n) (h1 : n ≤ 4) : WP.padF (.tab (List.replicate 63 1000000 ++ [n])) = 1000000 - n := by
  have hl : (List.replicate 63 (1000000 : Int) ++ [n]).length = 64 := by rw [List.length_append, List.length_replicate]; rfl
  show WP.moN _ _ = _
  rw [hl]
  have a : WP.moN (List.replicate 63 1000000 ++ [n]) 64 ≤ 1000000 - n := (WP.moN_le (by omega) 64).mpr fun p q pq q64 => by
    rw [wide_gi (by omega), wide_gi q64]
    split <;> split <;> omega
  have b := (WP.moN_le (WP.moN_nn _ 64) 64).mp (Int.le_refl (WP.moN (List.replicate 63 1000000 ++ [n]) 64)) 0 63 (by decide) (by decide)
  rw [wide_gi (by decide), wide_gi (by decide)] at b
  rw [if_pos (by decide), if_neg (by decide)] at b
  omega
theorem wide_l {n : Int} (h0 : 0 ≤ n) (h1 : n ≤ 4) : WP.padL (.tab (List.replicate 63 1000000 ++ [n])) = 1000000 - n := by
  have hl : (List.replicate 63 (1000000 : Int) ++ [n]).length = 64 := by rw [List.length_append, List.length_replicate]; rfl
  show WP.leN _ _ = _
  rw [hl]
  show WP.leN _ 63 = _
  have a : WP.leN (List.replicate 63 1000000 ++ [n]) 63 ≤ 1000000 - n := (WP.leN_le (by omega) 63).mpr fun j hj => by
    rw [wide_gi (by omega), wide_gi (by omega)]
    split <;> (try split) <;> omega
  have b := (WP.leN_le (WP.leN_nn _ 63) 63).mp (Int.le_refl (WP.leN (List.replicate 63 1000000 ++ [n]) 63)) 62 (by decide)
  rw [wide_gi (by decide), wide_gi (by decide)] at b
  rw [if_neg (by decide), if_pos (by decide)] at b
  omega
theorem wide_least {n : Int} (h0 : 0 ≤ n) (h1 : n ≤ 4) : WP.least (wideR n) wideC = ((1000000 - n) * 1000000, ("falls" : Str), (1000000 - n) :: List.replicate 11 0) := by
  have f : WP.falls (wideR n) = (1000000 - n) :: List.replicate 11 0 := by
    show WP.padF _ :: List.map WP.padF (List.replicate 11 (.blk 1000000)) = _
    rw [wide_f h0 h1]
    rfl
  have l : WP.leaps (wideR n) = (1000000 - n) :: List.replicate 11 999999 := by
    show WP.padL _ :: List.map WP.padL (List.replicate 11 (.blk 1000000)) = _
    rw [wide_l h0 h1]
    rfl
  have pf : WP.price ((1000000 - n) :: List.replicate 11 0) wideC = (1000000 - n) * 1000000 := by
    show 0 + (1000000 - n) * 1000000 + 0 * 1 + 0 * 1 + 0 * 1 + 0 * 1 + 0 * 1 + 0 * 1 + 0 * 1 + 0 * 1 + 0 * 1 + 0 * 1 + 0 * 1 = _
    omega
  have pl : WP.price ((1000000 - n) :: List.replicate 11 999999) wideC = (1000000 - n) * 1000000 + 11 * 999999 := by
    show 0 + (1000000 - n) * 1000000 + 999999 * 1 + 999999 * 1 + 999999 * 1 + 999999 * 1 + 999999 * 1 + 999999 * 1 + 999999 * 1 + 999999 * 1 + 999999 * 1 + 999999 * 1 + 999999 * 1 = _
    omega
  have ho : WP.hasOpn (wideR n) = false := rfl
  unfold WP.least
  rw [if_neg (by rw [ho]; decide), f, l, pf, pl, if_neg (by omega)]
theorem wide_ck {n : Int} (h0 : 0 ≤ n) (h1 : n ≤ 4) : ckRows (wideR n) wideC = none := by
  have tb : ∀ z ∈ List.replicate 63 (1000000 : Int) ++ [n], 0 ≤ z ∧ z ≤ 1000000 := fun z m => by
    rcases List.mem_append.mp m with m | m
    · rw [(List.mem_replicate.mp m).2]; omega
    · rw [List.mem_singleton.mp m]; omega
  have hl : (List.replicate 63 (1000000 : Int) ++ [n]).length = 64 := by rw [List.length_append, List.length_replicate]; rfl
  have g1 : ¬ (List.replicate 63 (1000000 : Int) ++ [n]).any (fun n => decide (1000000 < n)) = true := any_no fun z m => decide_eq_false (by have := tb z m; omega)
  have g2 : ¬ (List.replicate 63 (1000000 : Int) ++ [n]).any (fun n => decide (n < 0)) = true := any_no fun z m => decide_eq_false (by have := tb z m; omega)
  have ok : ∀ r ∈ wideR n, okR r := fun r m => by
    rcases List.mem_cons.mp m with m | m
    · subst m
      refine ⟨?_, ?_, ?_⟩
      · show ckMost _ _ _ = none
        unfold ckMost; rw [hl, if_neg (by decide)]
      · show ckNums _ _ _ = none
        unfold ckNums; rw [if_neg g1]
      · show ckPlain _ = none
        unfold ckPlain; rw [hl, if_neg (by decide), if_neg g1, if_neg (by decide), if_neg g2]
    · rw [(List.mem_replicate.mp m).2]
      exact ⟨rfl, by decide +kernel, by decide +kernel⟩
  unfold ckRows
  rw [List.findSome?_eq_none_iff.mpr fun r m => (ok r m).1, List.findSome?_eq_none_iff.mpr fun r m => (ok r m).2.1, List.findSome?_eq_none_iff.mpr fun r m => (ok r m).2.2]
  have n2 : ckMost "kinds" (wideR n).length 12 = none := by
    unfold ckMost
    rw [if_neg (show ¬ ((12 : Int) < ((wideR n).length : Nat)) by show ¬ (12 : Int) < ((11 + 1 : Nat) : Int); decide)]
  have n4 : ckNums "lines" wideC 1000000 = none := by
    unfold ckNums
    rw [if_neg (by decide +kernel)]
  rw [n2, n4]
  rfl
end
end K03
namespace K03
open PySem PySem.Spec PyProof.Rows L2 Evl Lay
section
variable {P : Program} {w : World} {K : PySem.W.Frag} {mg : Str → Option Value} {base : Heap} {CB CT CW CTable CBlock CBadRuler CBadWords CBadBook CBadTold CBadPlan CBadText CBadCommand cL__law_refusals PL__law_refusals : Addr} {tkC tkK tkL : Tok}
abbrev TT0 (PL : Addr) : List (Addr × Str) := [(PL, lamQ "_law_refusals")]
def erD : Er → PyData
  | .many s => .tuple [.str "many", .str s]
  | .style s => .tuple [.str "style", .str "", .str s]
theorem dp_er {K : PySem.W.Frag} {h : Hp} {t : Addr} {e : Er} (ht : h t = some (.tup (erT e))) : Dp K h (.ref t) (erD e) := by
  cases e with
  | many s => exact .tup (L2.SqT.of ht) (.cons (.str _) (.cons (.str _) .nil))
  | style s => exact .tup (L2.SqT.of ht) (.cons (.str _) (.cons (.str _) (.cons (.str _) .nil)))
/-- the words that are told -/
def okE : Er → Prop
  | .many s => PyData.strOk s = true
  | .style s => PyData.strOk s = true
theorem sh_er {e : Er} (h : okE e) : SeqAt.shaped (erD e) = true := by
  cases e with
  | many s =>
    have h' : PyData.strOk s = true := h
    have m : PyData.strOk ("many" : Str) = true := by decide +kernel
    exact shape_of (by simp [erD, PyData.canLay0, PyData.canLayAll0, h', m]) (by simp [erD, PyData.depth, PyData.depthAll])
  | style s =>
    have h' : PyData.strOk s = true := h
    have m : PyData.strOk ("style" : Str) = true := by decide +kernel
    have m2 : PyData.strOk ("" : Str) = true := by decide +kernel
    exact shape_of (by simp [erD, PyData.canLay0, PyData.canLayAll0, h', m, m2]) (by simp [erD, PyData.depth, PyData.depthAll])
/-- a case: a wrong row and what it is refused by -/
def CaseAt (K : PySem.W.Frag) (h : Hp) (x : V) (r : WP.PRow) (e : Er) : Prop := ∃ c b d, x = .ref c ∧ h c = some (.tup [.ref b, .ref d]) ∧ Dp K h (.ref b) (WP.rowD r) ∧ h d = some (.tup (erT e))
theorem CaseAt.exn {K : PySem.W.Frag} {h h2 : Hp} {x : V} {r : WP.PRow} {e : Er} (b : CaseAt K h x r e) (n : LamX.ExtN h h2) : CaseAt K h2 x r e := by
  obtain ⟨c, b, d, e1, e2, e3, e4⟩ := b
  exact ⟨c, b, d, e1, n _ _ e2 (fun _ z => by cases z), Dp.exn n _ _ e3, n _ _ e4 (fun _ z => by cases z)⟩
def CaseOk (r : WP.PRow) (e : Er) : Prop := k1 r = none ∧ k3 r = none ∧ k5 r = some e ∧ okE e
theorem case_1 {len : Int} (h0 : 0 ≤ len) (h1 : len < 5) : CaseOk (.tab [len]) (.style "cells") := by
  have n : ¬ [len].any (fun n => decide (1000000 < n)) = true := any_no fun z m => decide_eq_false (by rw [List.mem_singleton.mp m]; omega)
  refine ⟨rfl, ?_, ?_, ?_⟩
  · show ckNums _ _ _ = none
    unfold ckNums; rw [if_neg n]
  · show ckPlain _ = _
    unfold ckPlain; rw [if_neg (show ¬ 64 < [len].length from (by decide : ¬ 64 < 1)), if_neg n, if_pos (show [len].length < 2 from (by decide : 1 < 2))]
  · show PyData.strOk _ = true
    decide +kernel
theorem case_2 : CaseOk (.tab []) (.style "cells") := ⟨rfl, rfl, rfl, by show PyData.strOk _ = true; decide +kernel⟩
theorem case_3 {len : Int} {a : Nat} (h0 : 0 ≤ len) (h1 : len < 5) : CaseOk (.tab [len, -1 - (a : Int)]) (.style "span") := by
  have n : ¬ [len, -1 - (a : Int)].any (fun n => decide (1000000 < n)) = true := any_no fun z m => decide_eq_false (by
    rcases List.mem_cons.mp m with m | m
    · omega
    · rw [List.mem_singleton.mp m]; omega)
  have n2 : [len, -1 - (a : Int)].any (fun n => decide (n < 0)) = true := List.any_eq_true.mpr ⟨_, List.mem_cons_of_mem _ List.mem_cons_self, decide_eq_true (by omega)⟩
  refine ⟨rfl, ?_, ?_, ?_⟩
  · show ckNums _ _ _ = none
    unfold ckNums; rw [if_neg n]
  · show ckPlain _ = _
    unfold ckPlain; rw [if_neg (show ¬ 64 < [len, -1 - (a : Int)].length from (by decide : ¬ 64 < 2)), if_neg n, if_neg (show ¬ [len, -1 - (a : Int)].length < 2 from (by decide : ¬ 2 < 2)), if_pos n2]
  · show PyData.strOk _ = true
    decide +kernel
theorem case_4 {a : Nat} : CaseOk (.blk (0 - (a : Int))) (.style "block") := by
  refine ⟨rfl, ?_, ?_, ?_⟩
  · show ckMost _ _ _ = none
    unfold ckMost; rw [if_neg (by omega)]
  · show ckBlock _ = _
    unfold ckBlock; rw [if_neg (by omega), if_pos (by omega)]
  · show PyData.strOk _ = true
    decide +kernel
theorem rows_okk {len : Int} (h0 : 0 ≤ len) (h1 : len < 5) : ∀ r ∈ [WP.PRow.tab [len, 1], .blk 2, .opn], okR r := fun r m => by
  rcases List.mem_cons.mp m with m | m
  · subst m
    have e1 : ¬ [len, 1].any (fun n => decide (1000000 < n)) = true := any_no fun z m => decide_eq_false (by
      rcases List.mem_cons.mp m with m | m
      · omega
      · rw [List.mem_singleton.mp m]; omega)
    have e2 : ¬ [len, 1].any (fun n => decide (n < 0)) = true := any_no fun z m => decide_eq_false (by
      rcases List.mem_cons.mp m with m | m
      · omega
      · rw [List.mem_singleton.mp m]; omega)
    refine ⟨rfl, ?_, ?_⟩
    · show ckNums _ _ _ = none
      unfold ckNums; rw [if_neg e1]
    · show ckPlain _ = none
      unfold ckPlain; rw [if_neg (show ¬ 64 < [len, 1].length from (by decide : ¬ 64 < 2)), if_neg e1, if_neg (show ¬ [len, 1].length < 2 from (by decide : ¬ 2 < 2)), if_neg e2]
  · rcases List.mem_cons.mp m with m | m
    · subst m
      exact ⟨rfl, rfl, rfl⟩
    · rw [List.mem_singleton.mp m]
      exact ⟨rfl, rfl, rfl⟩
theorem refuse {K : PySem.W.Frag} {rs : List WP.PRow} {cs : List Int} {e : Er} {H : Hp} {E' : XK} {Q : VK} {a b : Addr} (hck : ckRows rs cs = some e) (hd : Dp K H (.ref a) (WP.rowsD rs)) (hs : SqL K H b (cs.map V.int)) (hE : Raised CT CW e H E') : spLeast K CT CW [.ref a, .ref b] H Q E' :=
  by
  refine ⟨a, b, rs, cs, rfl, hd, hs, fun z => ?_, ?_⟩
  · rw [hck] at z
    cases z
  · rw [hck]
    exact hE
def spRefusals (PL : Addr) : Sp := fun vs H Q _ => ∃ (p : Addr), vs = [.ref p] ∧ Pur H p ∧ LamX.Tabs (TT0 PL) H ∧ ∀ H2, Q (.bl true) H2
abbrev s__law_refusals : Stmt := top 46
theorem sc__law_refusals : FnScope ["purse", "length", "rows", "worth", "at", "cases", "bad", "due", "wrong", "both", "wide", "top", "told"] ["purse"] (defScope s__law_refusals) := ⟨rfl, rfl, rfl, by decide +kernel, rfl, by decide +kernel, by decide +kernel⟩
theorem ok_refusals (T : Txt K mg CB tkC tkK tkL  CBadRuler CBadWords CBadBook CBadTold CBadPlan CBadText CBadCommand) (F : AtL K mg "_law_refusals" s__law_refusals ["purse"] cL__law_refusals) (TB__law_refusals : LamX.TabB base mg cL__law_refusals PL__law_refusals) (A__law_refused : At K mg "_law_refused" s__law_refused ["action"])
    (x_TooMany : Exn P w K mg base "TooMany" "what" CT) (x_BadStyle : Exn2 P w K mg base "BadStyle" "name" "what" CW) (x_WT : PySem.W.exmOne K (.ref CW) (.ref CT) = some false) (x_WBadRuler : PySem.W.exmOne K (.ref CW) (.ref CBadRuler) = some false)
    (d__law_draw : Def P w K mg base "_law_draw" 1 ["purse", "many"] spDraw) (d_least_pads : Def P w K mg base "least_pads" 8 ["rows", "prices"] (spLeast K CT CW)) : Def P w K mg base "_law_refusals" 13 ["purse"] (spRefusals PL__law_refusals) := by
  have LM__law_refusals : (PL__law_refusals, lamQ "_law_refusals") ∈ TT0 PL__law_refusals := List.mem_cons_self
  have LU__law_refusals : ∀ p ∈ TT0 PL__law_refusals, p.1 = PL__law_refusals → p.2 = lamQ "_law_refusals" := fun p hp _ => by rw [List.mem_singleton.mp hp]
  refine Def.mkL F sc__law_refusals (fun vs H Q E h => ?_) (fun f Ar outer s H vs Q E hr h => ⟨_, (pss_cons (ps_set (i := 1) sc__law_refusals.nd rfl (Or.inl rfl) (pe_d d__law_draw (hr.mono (by decide)) (passes_call (takes_of rfl rfl rfl rfl) (fun _ _ _ _ h => h)) (pa_cons (pv 0) (pa_cons pe_int pa_nil))))
      (pss_cons (ps_set (i := 2) sc__law_refusals.nd rfl (Or.inl rfl) (pe_lst (pa_cons (pe_tup (pa_cons pe_str (pa_cons (pe_lst (pa_cons (pv 1) (pa_cons pe_int pa_nil))) pa_nil))) (pa_cons (pe_tup (pa_cons pe_str (pa_cons pe_int pa_nil))) (pa_cons (pe_tup (pa_cons pe_str pa_nil)) pa_nil)))))
      (pss_cons (ps_set (i := 3) sc__law_refusals.nd rfl (Or.inr rfl) (pe_lst (pa_cons pe_int (pa_cons pe_int (pa_cons pe_int (pa_cons pe_int pa_nil))))))
      (pss_cons (ps_set (i := 4) sc__law_refusals.nd rfl (Or.inl rfl) (pe_d d__law_draw (hr.mono (by decide)) (passes_call (takes_of rfl rfl rfl rfl) (fun _ _ _ _ h => h)) (pa_cons (pv 0) (pa_cons pe_int pa_nil))))
      (pss_cons (ps_set (i := 5) sc__law_refusals.nd rfl (Or.inl rfl) (pe_lst (pa_cons (pe_tup (pa_cons (pe_tup (pa_cons pe_str (pa_cons (pe_lst (pa_cons (pv 1) pa_nil)) pa_nil))) (pa_cons (pe_tup (pa_cons pe_str (pa_cons pe_str (pa_cons pe_str pa_nil)))) pa_nil))) (pa_cons (pe_tup (pa_cons (pe_tup (pa_cons pe_str (pa_cons (pe_lst pa_nil) pa_nil))) (pa_cons (pe_tup (pa_cons pe_str (pa_cons pe_str (pa_cons pe_str pa_nil)))) pa_nil))) pa_nil))))
      (pss_cons (ps_set (i := 5) sc__law_refusals.nd rfl (Or.inl rfl) (pe_op op_cat (pv 5) (pe_lst (pa_cons (pe_tup (pa_cons (pe_tup (pa_cons pe_str (pa_cons (pe_lst (pa_cons (pv 1) (pa_cons (pe_op op_sub (pe_un un_neg pe_int) (pv 4)) pa_nil))) pa_nil))) (pa_cons (pe_tup (pa_cons pe_str (pa_cons pe_str (pa_cons pe_str pa_nil)))) pa_nil))) (pa_cons (pe_tup (pa_cons (pe_tup (pa_cons pe_str (pa_cons (pe_op op_sub pe_int (pv 4)) pa_nil))) (pa_cons (pe_tup (pa_cons pe_str (pa_cons pe_str (pa_cons pe_str pa_nil)))) pa_nil))) pa_nil)))))
      (pss_cons (ps_for (passes_of rfl) rfl (pi_list (pv 5)) (pg_tup (n := 2) rfl (pgs_cons (pg_name (i := 6) sc__law_refusals.nd rfl (Or.inl rfl)) (pgs_cons (pg_name (i := 7) sc__law_refusals.nd rfl (Or.inl rfl)) pgs_nil))) (pss_cons (ps_set (i := 8) sc__law_refusals.nd rfl (Or.inr rfl) (pe_op op_cat (pe_op op_cat (pe_slice (r := rSlL K) sl_list (pv 2) po_none (po_some (pv 4))) (pe_lst (pa_cons (pv 6) pa_nil))) (pe_slice (r := rSlL K) sl_list (pv 2) (po_some (pv 4)) po_none)))
      (pss_cons (ps_if (pt_cmpR (r := rNeD K) (op_neD hr.units) (pe_lam (k := 9) (t := fun E => _) A__law_refused sc__law_refused rfl (Or.inl (by decide +kernel)) (fun g cdg => ref_gives T x_TooMany x_BadStyle g cdg) TB__law_refusals LM__law_refusals LU__law_refusals (hr.mono (by decide)) (LamX.lamS_by (show LamX.lamSB (defScope s__law_refusals) _ = true by decide +kernel)) (fun _ _ _ _ _ => rfl) (fun A outer s H E f c' hr => (pe_d d_least_pads (hr.mono (by decide)) (passes_call (takes_of rfl rfl rfl rfl) (fun _ _ _ _ h => h)) (pa_cons (pv 8) (pa_cons (pv 3) pa_nil))))) (pv 7) (nomark _)) (pss_one (ps_ret pe_bl)) pss_nil)
      (pss_cons (ps_if (pt_cmpR (r := rNeD K) (op_neD hr.units) (pe_lam (k := 9) (t := fun E => _) A__law_refused sc__law_refused rfl (Or.inl (by decide +kernel)) (fun g cdg => ref_gives T x_TooMany x_BadStyle g cdg) TB__law_refusals LM__law_refusals LU__law_refusals (hr.mono (by decide)) (LamX.lamS_by (show LamX.lamSB (defScope s__law_refusals) _ = true by decide +kernel)) (fun _ _ _ _ _ => rfl) (fun A outer s H E f c' hr => (pe_d d_least_pads (hr.mono (by decide)) (passes_call (takes_of rfl rfl rfl rfl) (fun _ _ _ _ h => h)) (pa_cons (pv 8) (pa_cons (pe_lst (pa_cons pe_int (pa_cons (pe_op op_add (pe_op op_pow pe_int pe_int) pe_int) (pa_cons pe_int (pa_cons pe_int pa_nil))))) pa_nil))))) (pe_tup (pa_cons pe_str (pa_cons pe_str pa_nil))) (nomark _)) (pss_one (ps_ret pe_bl)) pss_nil)
      (pss_cons (ps_if (pt_cmpR (r := rNeD K) (op_neD hr.units) (pe_lam (k := 9) (t := fun E => _) A__law_refused sc__law_refused rfl (Or.inl (by decide +kernel)) (fun g cdg => ref_gives T x_TooMany x_BadStyle g cdg) TB__law_refusals LM__law_refusals LU__law_refusals (hr.mono (by decide)) (LamX.lamS_by (show LamX.lamSB (defScope s__law_refusals) _ = true by decide +kernel)) (fun _ _ _ _ _ => rfl) (fun A outer s H E f c' hr => (pe_d d_least_pads (hr.mono (by decide)) (passes_call (takes_of rfl rfl rfl rfl) (fun _ _ _ _ h => h)) (pa_cons (pe_op op_cat (pv 8) (pe_op op_rep (pe_lst (pa_cons (pe_tup (pa_cons pe_str pa_nil)) pa_nil)) pe_int)) (pa_cons (pe_op op_rep (pe_lst (pa_cons pe_int pa_nil)) pe_int) pa_nil))))) (pe_tup (pa_cons pe_str (pa_cons pe_str pa_nil))) (nomark _)) (pss_one (ps_ret pe_bl)) pss_nil)
      (pss_one (ps_if (pt_cmpR (r := rNeD K) (op_neD hr.units) (pe_lam (k := 9) (t := fun E => _) A__law_refused sc__law_refused rfl (Or.inl (by decide +kernel)) (fun g cdg => ref_gives T x_TooMany x_BadStyle g cdg) TB__law_refusals LM__law_refusals LU__law_refusals (hr.mono (by decide)) (LamX.lamS_by (show LamX.lamSB (defScope s__law_refusals) _ = true by decide +kernel)) (fun _ _ _ _ _ => rfl) (fun A outer s H E f c' hr => (pe_d d_least_pads (hr.mono (by decide)) (passes_call (takes_of rfl rfl rfl rfl) (fun _ _ _ _ h => h)) (pa_cons (pe_op op_cat (pv 8) (pe_op op_rep (pe_lst (pa_cons (pe_tup (pa_cons pe_str (pa_cons (pe_op op_rep (pe_lst (pa_cons (pe_un un_neg pe_int) pa_nil)) pe_int) pa_nil))) pa_nil)) pe_int)) (pa_cons (pe_op op_rep (pe_lst (pa_cons (pe_op op_pow pe_int pe_int) pa_nil)) pe_int) pa_nil))))) (pe_tup (pa_cons pe_str (pa_cons pe_str pa_nil))) (nomark _)) (pss_one (ps_ret pe_bl)) pss_nil)))))))
      (pss_cons (ps_set (i := 9) sc__law_refusals.nd rfl (Or.inr rfl) (pe_lst (pa_cons (pe_tup (pa_cons pe_str (pa_cons pe_int pa_nil))) (pa_cons (pe_tup (pa_cons pe_str (pa_cons (pe_lst (pa_cons pe_int pa_nil)) pa_nil))) pa_nil))))
      (pss_cons (ps_if (pt_cmpR (r := rNeD K) (op_neD hr.units) (pe_lam (k := 9) (t := fun E => _) A__law_refused sc__law_refused rfl (Or.inl (by decide +kernel)) (fun g cdg => ref_gives T x_TooMany x_BadStyle g cdg) TB__law_refusals LM__law_refusals LU__law_refusals (hr.mono (by decide)) (LamX.lamS_by (show LamX.lamSB (defScope s__law_refusals) _ = true by decide +kernel)) (fun _ _ _ _ _ => rfl) (fun A outer s H E f c' hr => (pe_d d_least_pads (hr.mono (by decide)) (passes_call (takes_of rfl rfl rfl rfl) (fun _ _ _ _ h => h)) (pa_cons (pv 9) (pa_cons (pe_lst (pa_cons pe_int (pa_cons pe_int pa_nil))) pa_nil))))) (pe_tup (pa_cons pe_str (pa_cons pe_str (pa_cons pe_str pa_nil)))) (nomark _)) (pss_one (ps_ret pe_bl)) pss_nil)
      (pss_cons (ps_if (pt_cmpR (r := rNeD K) (op_neD hr.units) (pe_lam (k := 9) (t := fun E => _) A__law_refused sc__law_refused rfl (Or.inl (by decide +kernel)) (fun g cdg => ref_gives T x_TooMany x_BadStyle g cdg) TB__law_refusals LM__law_refusals LU__law_refusals (hr.mono (by decide)) (LamX.lamS_by (show LamX.lamSB (defScope s__law_refusals) _ = true by decide +kernel)) (fun _ _ _ _ _ => rfl) (fun A outer s H E f c' hr => (pe_d d_least_pads (hr.mono (by decide)) (passes_call (takes_of rfl rfl rfl rfl) (fun _ _ _ _ h => h)) (pa_cons (pe_lst (pa_cons (pe_tup (pa_cons pe_str (pa_cons (pe_op op_add (pe_op op_pow pe_int pe_int) pe_int) pa_nil))) pa_nil)) (pa_cons (pe_lst (pa_cons pe_int pa_nil)) pa_nil))))) (pe_tup (pa_cons pe_str (pa_cons pe_str pa_nil))) (nomark _)) (pss_one (ps_ret pe_bl)) pss_nil)
      (pss_cons (ps_set (i := 10) sc__law_refusals.nd rfl (Or.inl rfl) (pe_op op_cat (pe_lst (pa_cons (pe_tup (pa_cons pe_str (pa_cons (pe_op op_cat (pe_op op_rep (pe_lst (pa_cons (pe_op op_pow pe_int pe_int) pa_nil)) pe_int) (pe_lst (pa_cons (pv 1) pa_nil))) pa_nil))) pa_nil)) (pe_op op_rep (pe_lst (pa_cons (pe_tup (pa_cons pe_str (pa_cons (pe_op op_pow pe_int pe_int) pa_nil))) pa_nil)) pe_int)))
      (pss_cons (ps_set (i := 11) sc__law_refusals.nd rfl (Or.inl rfl) (pe_op op_add (pe_op op_mul (pe_op op_pow pe_int pe_int) (pe_op op_sub (pe_op op_pow pe_int pe_int) (pv 1))) (pe_op op_mul pe_int (pe_op op_sub (pe_op op_pow pe_int pe_int) pe_int))))
      (pss_cons (ps_set (i := 12) sc__law_refusals.nd rfl (Or.inl rfl) (pe_d d_least_pads (hr.mono (by decide)) (passes_call (takes_of rfl rfl rfl rfl) (fun _ _ _ _ h => h)) (pa_cons (pv 10) (pa_cons (pe_op op_cat (pe_lst (pa_cons (pe_op op_pow pe_int pe_int) pa_nil)) (pe_op op_rep (pe_lst (pa_cons pe_int pa_nil)) pe_int)) pa_nil))))
      (pss_one (ps_ret (pe_cmpR (r := rEqD K) (op_eqD hr.units) (pv 12) (pe_tup (pa_cons (pe_op op_sub (pv 11) (pe_op op_mul pe_int (pe_op op_sub (pe_op op_pow pe_int pe_int) pe_int))) (pa_cons pe_str (pa_cons (pe_op op_cat (pe_lst (pa_cons (pe_op op_sub (pe_op op_pow pe_int pe_int) (pv 1)) pa_nil)) (pe_op op_rep (pe_lst (pa_cons pe_int pa_nil)) pe_int)) pa_nil)))) (nomark _))))))))))))))))), ?_⟩)
  · obtain ⟨p, rfl, _⟩ := h
    rfl
  · obtain ⟨p, rfl, hp, hT, q⟩ := h
    walk_at "go0"
    refine ⟨p, _, rfl, by decide, by decide, hp, fun len H1 len0 len1 e1 hp1 => ?_⟩
    have hT1 := Tabs.exb hT e1 (.inl hp.lst)
    walk_at "go"
    refine r_newI2 fun l0 H2 n2 e2 hl0 => ?_
    walk_at "go"
    refine r_newT (len3 rfl) fun t0 H3 n3 e3 ht0 => ?_
    walk_at "go"
    refine r_newT (len3 rfl) fun t1 H4 n4 e4 ht1 => ?_
    walk_at "go"
    refine r_newT (len3 rfl) fun t2 H5 n5 e5 ht2 => ?_
    walk_at "go"
    refine r_newL (len3 rfl) fun rl H6 n6 e6 hrl => ?_
    walk_at "go"
    refine r_newI4 fun wo H7 n7 e7 hwo => ?_
    have j0 : H7 l0 = some (.lst ([len, 1].map V.int)) := by walk_at "hp"
    have j1 : H7 t0 = some (.tup [.str "table", .ref l0]) := by walk_at "hp"
    have j2 : H7 t1 = some (.tup [.str "block", .int 2]) := by walk_at "hp"
    have j3 : H7 t2 = some (.tup [.str "opening"]) := by walk_at "hp"
    have j4 : H7 rl = some (.lst [.ref t0, .ref t1, .ref t2]) := by walk_at "hp"
    have E7 := e2.trans (e3.trans (e4.trans (e5.trans (e6.trans e7))))
    have hp7 := hp1.ex E7
    have hT7 := LamX.Tabs.ext hT1 E7
    walk_at "go"
    refine ⟨p, _, rfl, by decide, by decide, hp7, fun aa H8 a0 a1 e8 hp8 => ?_⟩
    have hT8 := Tabs.exb hT7 e8 (.inl hp7.lst)
    obtain ⟨a, rfl⟩ : ∃ a : Nat, aa = a := ⟨aa.toNat, by omega⟩
    have np : ∀ {b : Addr}, H1 b = none → b ≠ p := fun {b} h => (ne_pur hp1 h).symm
    have fb : ∀ {b : Addr} {A : Hp}, Ex H1 A → A b = none → b ≠ p := fun {b A} e h => np (fresh_back e h)
    -- what stands at H7, after the draw
    have k0 : H8 l0 = some (.lst ([len, 1].map V.int)) := e8 _ _ (np n2) j0
    have k1' : H8 t0 = some (.tup [.str "table", .ref l0]) := e8 _ _ (fb e2 n3) j1
    have k2 : H8 t1 = some (.tup [.str "block", .int 2]) := e8 _ _ (fb (e2.trans e3) n4) j2
    have k3' : H8 t2 = some (.tup [.str "opening"]) := e8 _ _ (fb (e2.trans (e3.trans e4)) n5) j3
    have k4 : H8 rl = some (.lst [.ref t0, .ref t1, .ref t2]) := e8 _ _ (fb (e2.trans (e3.trans (e4.trans e5))) n6) j4
    have k5' : H8 wo = some (.lst ([1, 2, 3, 4].map V.int)) := e8 _ _ (fb (e2.trans (e3.trans (e4.trans (e5.trans e6)))) n7) hwo
    clear hl0 ht0 ht1 ht2 hrl hwo j0 j1 j2 j3 j4 e2 e3 e4 e5 e6 e7 E7 e1
    have dR : DpAll K H8 [.ref t0, .ref t1, .ref t2] ([WP.PRow.tab [len, 1], .blk 2, .opn].map WP.rowD) :=
      .cons (.tup (L2.SqT.of k1') (.cons (.str _) (.cons (.lst (L2.SqL.of k0) (dpa_ints [len, 1])) .nil))) (.cons (.tup (L2.SqT.of k2) (.cons (.str _) (.cons (.int 2) .nil))) (.cons (.tup (L2.SqT.of k3') (.cons (.str _) .nil)) .nil))
    walk_at "go"
    -- the cases
    refine r_newI1 fun b0l H9 n9 e9 hb0l => ?_
    walk_at "go"
    refine r_newT (len3 rfl) fun b0 H10 n10 e10 hb0 => ?_
    walk_at "go"
    refine r_newT (len3 rfl) fun d0 H11 n11 e11 hd0 => ?_
    walk_at "go"
    refine r_newT (len3 rfl) fun c0 H12 n12 e12 hc0 => ?_
    walk_at "go"
    refine r_newI0 fun b1l H13 n13 e13 hb1l => ?_
    walk_at "go"
    refine r_newT (len3 rfl) fun b1 H14 n14 e14 hb1 => ?_
    walk_at "go"
    refine r_newT (len3 rfl) fun d1 H15 n15 e15 hd1 => ?_
    walk_at "go"
    refine r_newT (len3 rfl) fun c1 H16 n16 e16 hc1 => ?_
    walk_at "go"
    refine r_newL (len3 rfl) fun cl0 H17 n17 e17 hcl0 => ?_
    walk_at "go"
    refine r_newI2 fun b2l H18 n18 e18 hb2l => ?_
    walk_at "go"
    refine r_newT (len3 rfl) fun b2 H19 n19 e19 hb2 => ?_
    walk_at "go"
    refine r_newT (len3 rfl) fun d2 H20 n20 e20 hd2 => ?_
    walk_at "go"
    refine r_newT (len3 rfl) fun c2 H21 n21 e21 hc2 => ?_
    walk_at "go"
    refine r_newT (len3 rfl) fun b3 H22 n22 e22 hb3 => ?_
    walk_at "go"
    refine r_newT (len3 rfl) fun d3 H23 n23 e23 hd3 => ?_
    walk_at "go"
    refine r_newT (len3 rfl) fun c3 H24 n24 e24 hc3 => ?_
    walk_at "go"
    refine r_newL (len3 rfl) fun cl1 H25 n25 e25 hcl1 => ?_
    walk_at "go"
    have hcl0' : H25 cl0 = some (.lst [.ref c0, .ref c1]) := by walk_at "hpe"
    refine r_cat hcl0' hcl1 (by show 2 + 2 ≤ 100000; decide) fun cl H26 n26 e26 hcl => ?_
    have g1 : CaseAt K H26 (.ref c0) (.tab [len]) (.style "cells") := ⟨c0, b0, d0, rfl, by walk_at "hpe", .tup (L2.SqT.of (by walk_at "hpe")) (.cons (.str _) (.cons (.lst (L2.SqL.of (by walk_at "hpe")) (dpa_ints [len])) .nil)), by walk_at "hpe"⟩
    have g2 : CaseAt K H26 (.ref c1) (.tab []) (.style "cells") := ⟨c1, b1, d1, rfl, by walk_at "hpe", .tup (L2.SqT.of (by walk_at "hpe")) (.cons (.str _) (.cons (.lst (L2.SqL.of (by walk_at "hpe")) .nil) .nil)), by walk_at "hpe"⟩
    have g3 : CaseAt K H26 (.ref c2) (.tab [len, -1 - (a : Int)]) (.style "span") := ⟨c2, b2, d2, rfl, by walk_at "hpe", .tup (L2.SqT.of (by walk_at "hpe")) (.cons (.str _) (.cons (.lst (L2.SqL.of (by walk_at "hpe")) (dpa_ints [len, -1 - (a : Int)])) .nil)), by walk_at "hpe"⟩
    have g4 : CaseAt K H26 (.ref c3) (.blk (0 - (a : Int))) (.style "block") := ⟨c3, b3, d3, rfl, by walk_at "hpe", .tup (L2.SqT.of (by walk_at "hpe")) (.cons (.str _) (.cons (.int _) .nil)), by walk_at "hpe"⟩
    have E26 : Ex H8 H26 := by walk_at "ex"
    have hT26 := LamX.Tabs.ext hT8 E26
    have o1 := case_1 len0 len1
    have o2 := case_2
    have o3 := case_3 (a := a) len0 len1
    have o4 := case_4 (a := a)
    have K0 : H26 rl = some (.lst [.ref t0, .ref t1, .ref t2]) := E26 _ _ k4
    have KW : H26 wo = some (.lst ([1, 2, 3, 4].map V.int)) := E26 _ _ k5'
    have KR := Dp.exAll E26 _ _ dR
    have ca : ∀ (i : Nat) x, [V.ref c0, .ref c1, .ref c2, .ref c3][i]? = some x → ∃ r e, CaseAt K H26 x r e ∧ CaseOk r e := by
      intro i x hx
      match i, hx with
      | 0, hx => cases hx; exact ⟨_, _, g1, o1⟩
      | 1, hx => cases hx; exact ⟨_, _, g2, o2⟩
      | 2, hx => cases hx; exact ⟨_, _, g3, o3⟩
      | 3, hx => cases hx; exact ⟨_, _, g4, o4⟩
      | n + 4, hx => cases hx
    clear g1 g2 g3 g4 o1 o2 o3 o4 dR hb0l hb0 hd0 hc0 hb1l hb1 hd1 hc1 hb2l hb2 hd2 hc2 hb3 hd3 hc3 hcl0 hcl1 hcl0' k0 k1' k2 k3' k4 k5' e9 e10 e11 e12 e13 e14 e15 e16 e17 e18 e19 e20 e21 e22 e23 e24 e25 e26 n9 n10 n11 n12 n13 n14 n15 n16 n17 n18 n19 n20 n21 n22 n23 n24 n25 n26 E26
    walk_at "go"
    refine forL (L2.SqL.of hcl) (fun i s h => ∃ v6 v7 v8 v9 v10 v11 v12, s = [some (.ref p), some (.int len), some (.ref rl), some (.ref wo), some (.int (a : Int)), some (.ref cl), v6, v7, v8, v9, v10, v11, v12] ∧ LamX.ExtN H26 h ∧ LamX.Tabs (TT0 PL__law_refusals) h) ?_ ?_ ?_ ?_
    · exact ⟨_, _, _, _, _, _, _, rfl, Ex.n (Ex.refl _), hT26⟩
    · rintro i s h _ ⟨_, _, _, _, _, _, _, _, e, _⟩
      exact exn_l e (L2.SqL.of hcl)
    · rintro i x s h hx ⟨v6, v7, v8, v9, v10, v11, v12, rfl, e, hTh⟩
      obtain ⟨r, er, hca, hok⟩ := ca i x hx
      obtain ⟨c, b, d, rfl, hc, hb, hd⟩ := hca.exn e
      have hrl : h rl = some (.lst [.ref t0, .ref t1, .ref t2]) := exn_at e (fun _ z => by cases z) K0
      have hwo : h wo = some (.lst ([1, 2, 3, 4].map V.int)) := exn_at e (fun _ z => by cases z) KW
      have hR := Dp.exnAll e _ _ KR
      walk_at "go"
      refine r_slL (L2.SqL.of hrl) fun x1 h1 m1 f1 hx1 => ?_
      rw [cutV_to (by show a ≤ 3; omega)] at hx1
      walk_at "go"
      refine r_newL (len3 rfl) fun x2 h2 m2 f2 hx2 => ?_
      walk_at "go"
      refine r_cat (by walk_at "hpe") hx2 (by rw [List.length_take]; show min a 3 + 1 ≤ 100000; omega) fun x3 h3 m3 f3 hx3 => ?_
      walk_at "go"
      refine r_slL (L2.SqL.of (by walk_at "hpe")) fun x4 h4 m4 f4 hx4 => ?_
      rw [cutV_from (by show a ≤ 3; omega)] at hx4
      walk_at "go"
      refine r_cat (by walk_at "hpe") hx4 (by rw [List.length_append, List.length_take, List.length_drop]; show min a 3 + 1 + (3 - a) ≤ 100000; omega) fun x5 h5 m5 f5 hx5 => ?_
      -- the row of rows
      have G5 : Ex h h5 := by walk_at "ex"
      generalize hRS : [WP.PRow.tab [len, 1], .blk 2, .opn] = RS at hR
      have lRS : RS.length = 3 := by rw [← hRS]; rfl
      have okRS : ∀ r ∈ RS, okR r := by rw [← hRS]; exact rows_okk len0 len1
      have DW : DpAll K h5 ((([V.ref t0, V.ref t1, V.ref t2] : List V).take a ++ [V.ref b]) ++ ([V.ref t0, V.ref t1, V.ref t2] : List V).drop a) ((RS.take a ++ [r] ++ RS.drop a).map WP.rowD) := by
        rw [List.map_append, List.map_append, List.map_take, List.map_drop]
        exact DpAll.append (dpa_drop (Dp.exAll G5 _ _ hR) a) (DpAll.append (.cons (Dp.ex G5 _ _ hb) .nil) (dpa_take (Dp.exAll G5 _ _ hR) a))
      have okA : ∀ r ∈ RS.take a, okR r := fun r m => okRS r (List.mem_of_mem_take m)
      have okB : ∀ r ∈ RS.drop a, okR r := fun r m => okRS r (List.mem_of_mem_drop m)
      have lW : (RS.take a ++ [r] ++ RS.drop a).length = 4 := by
        rw [List.length_append, List.length_append, List.length_take, List.length_drop, lRS]
        show min a 3 + 1 + (3 - a) = 4
        omega
      have lX : ((([V.ref t0, V.ref t1, V.ref t2] : List V).take a ++ [V.ref b]) ++ ([V.ref t0, V.ref t1, V.ref t2] : List V).drop a).length = 4 := by
        rw [DpAll.len DW, List.length_map, lW]
      have c1 : ckRows (RS.take a ++ [r] ++ RS.drop a) [1, 2, 3, 4] = some er := ck_mid okA okB hok.1 hok.2.1 hok.2.2.1 (by omega) rfl
      have c2 : ckRows (RS.take a ++ [r] ++ RS.drop a) [1, 1000001, 1, 1] = some (.many "lines") := ck_pr (mid_all (fun r m => (okA r m).1) (fun r m => (okB r m).1) hok.1) (mid_all (fun r m => (okA r m).2.1) (fun r m => (okB r m).2.1) hok.2.1) (by omega) (ckNums_take (i := 1) rfl (by decide))
      have W1 := mid_all (fun r m => (okA r m).1) (fun r m => (okB r m).1) hok.1
      generalize (([V.ref t0, V.ref t1, V.ref t2] : List V).take a ++ [V.ref b]) ++ ([V.ref t0, V.ref t1, V.ref t2] : List V).drop a = XS at hx5 DW lX
      generalize RS.take a ++ [r] ++ RS.drop a = RW at DW lW c1 c2 W1
      have G : ∀ g, LamX.ExtN h5 g → g x5 = some (.lst XS) ∧ DpAll K g XS (RW.map WP.rowD) ∧ g wo = some (.lst ([1, 2, 3, 4].map V.int)) ∧ g d = some (.tup (erT er)) := fun g e => ⟨exn_at e (fun _ z => by cases z) hx5, Dp.exnAll e _ _ DW, exn_at e (fun _ z => by cases z) (G5 _ _ hwo), exn_at e (fun _ z => by cases z) (G5 _ _ hd)⟩
      have hTh5 := LamX.Tabs.ext hTh G5
      have EH5 : LamX.ExtN H26 h5 := e.trans (Ex.n G5)
      clear hx1 hx2 hx3 hx4 f1 f2 f3 f4 f5 m1 m2 m3 m4 m5 hR hrl hwo hx5 DW
      walk_at "go"
      refine r_refE x_TooMany x_BadStyle x_WT x_WBadRuler hTh5 fun gA E1 eA hTA hE => ?_
      obtain ⟨u1, u2, u3, u4⟩ := G gA eA
      walk_at "go"
      refine refuse c1 (.lst (L2.SqL.of u1) u2) (L2.SqL.of u3) (hE er gA fun t gB eB ht => ?_)
      have eB := eA.trans (Ex.n eB)
      have hTB := LamX.Tabs.ext hTA (by assumption)
      obtain ⟨v1, v2, v3, v4⟩ := G gB eB
      walk_at "go"
      refine r_neSame (dp_er ht) (dp_er v4) (sh_er hok.2.2.2) ?_
      -- prices too high
      walk_at "go"
      refine r_refE x_TooMany x_BadStyle x_WT x_WBadRuler hTB fun gA2 E2 eA2 hTA2 hE2 => ?_
      have eA2' := LamX.ExtN.trans eB eA2
      walk_at "go"
      refine r_newL (len3 rfl) fun y1 gC nC eC hy1 => ?_
      have eC' := LamX.ExtN.trans eA2' (Ex.n eC)
      obtain ⟨u1, u2, u3, u4⟩ := G gC eC'
      have hTC := LamX.Tabs.ext hTA2 eC
      walk_at "go"
      refine refuse c2 (.lst (L2.SqL.of u1) u2) (L2.SqL.of hy1) (hE2 _ gC fun t2 gD eD ht2 => ?_)
      have eD' := LamX.ExtN.trans eC' (Ex.n eD)
      have hTD := LamX.Tabs.ext hTC eD
      walk_at "go"
      refine r_newT (len3 rfl) fun y2 gE nE eE hy2 => ?_
      have eE' := LamX.ExtN.trans eD' (Ex.n eE)
      have hTE := LamX.Tabs.ext hTD eE
      walk_at "go"
      refine r_neSame (dp_er (e := .many "lines") (eE _ _ ht2)) (dp_er (e := .many "lines") hy2) (sh_er (by show PyData.strOk _ = true; decide +kernel)) ?_
      -- too many rows
      walk_at "go"
      refine r_refE x_TooMany x_BadStyle x_WT x_WBadRuler hTE fun gA3 E3 eA3 hTA3 hE3 => ?_
      have eA3' := LamX.ExtN.trans eE' eA3
      clear u1 u2 u3 u4
      obtain ⟨u1, u2, u3, u4⟩ := G gA3 eA3'
      walk_at "go"
      refine r_newT (len3 rfl) fun z1 gF nF eF hz1 => ?_
      walk_at "go"
      refine r_newL (len3 rfl) fun z2 gG nG eG hz2 => ?_
      walk_at "go"
      refine r_rep hz2 (by decide) (by decide) fun z3 gH nH eH hz3 => ?_
      walk_at "go"
      refine r_cat (eH _ _ (eG _ _ (eF _ _ u1))) hz3 (by rw [lX, List.length_replicate]; decide) fun z4 gI nI eI hz4 => ?_
      walk_at "go"
      refine r_newI1 fun z5 gJ nJ eJ hz5 => ?_
      walk_at "go"
      refine r_rep hz5 (by decide) (by decide) fun z6 gK nK eK hz6 => ?_
      have xF : Ex gA3 gK := by walk_at "ex"
      have hz4' : gK z4 = some (.lst (XS ++ List.replicate 9 (.ref z1))) := eK _ _ (eJ _ _ hz4)
      have hz1' : gK z1 = some (.tup [.str "opening"]) := eK _ _ (eJ _ _ (eI _ _ (eH _ _ (eG _ _ hz1))))
      have eK' := LamX.ExtN.trans eA3' (Ex.n xF)
      have hTK := LamX.Tabs.ext hTA3 xF
      have d13 : DpAll K gK (XS ++ List.replicate 9 (.ref z1)) ((RW ++ List.replicate 9 WP.PRow.opn).map WP.rowD) := by
        rw [List.map_append, List.map_replicate]
        exact DpAll.append (dpa_rep (.tup (L2.SqT.of hz1') (.cons (.str _) .nil)) 9) (Dp.exAll xF _ _ u2)
      walk_at "go"
      refine refuse (cs := List.replicate 13 1) (ck_many (rs := RW ++ List.replicate 9 WP.PRow.opn) (fun r m => ?_) (by rw [List.length_append, lW, List.length_replicate]; decide)) (.lst (L2.SqL.of hz4') d13) (by rw [List.map_replicate]; exact L2.SqL.of hz6) (hE3 _ gK fun t3 gL eL ht3 => ?_)
      · rcases List.mem_append.mp m with m | m
        · exact W1 r m
        · rw [(List.mem_replicate.mp m).2]
          rfl
      clear hz1 hz2 hz3 hz4 hz5 hz6 hz4' hz1' d13 xF
      have eL' := LamX.ExtN.trans eK' (Ex.n eL)
      have hTL := LamX.Tabs.ext hTK eL
      walk_at "go"
      refine r_newT (len3 rfl) fun y4 gM nM eM hy4 => ?_
      have eM' := LamX.ExtN.trans eL' (Ex.n eM)
      have hTM := LamX.Tabs.ext hTL eM
      walk_at "go"
      refine r_neSame (dp_er (e := .many "kinds") (eM _ _ ht3)) (dp_er (e := .many "kinds") hy4) (sh_er (by show PyData.strOk _ = true; decide +kernel)) ?_
      -- too many cells
      walk_at "go"
      refine r_refE x_TooMany x_BadStyle x_WT x_WBadRuler hTM fun gA4 E4 eA4 hTA4 hE4 => ?_
      have eA4' := LamX.ExtN.trans eM' eA4
      clear u1 u2 u3 u4
      obtain ⟨u1, u2, u3, u4⟩ := G gA4 eA4'
      walk_at "go"
      refine r_newI1 fun z0 gO nO eO hz0 => ?_
      walk_at "go"
      refine r_rep hz0 (by decide) (by decide) fun z1 gF nF eF hz1 => ?_
      walk_at "go"
      refine r_newT (len3 rfl) fun z2 gG nG eG hz2 => ?_
      walk_at "go"
      refine r_newL (len3 rfl) fun z3 gH nH eH hz3 => ?_
      walk_at "go"
      refine r_rep hz3 (by decide) (by decide) fun z4 gI nI eI hz4 => ?_
      walk_at "go"
      refine r_cat (eI _ _ (eH _ _ (eG _ _ (eF _ _ (eO _ _ u1))))) hz4 (by rw [lX, List.length_replicate]; decide) fun z5 gJ nJ eJ hz5 => ?_
      walk_at "go"
      refine r_newI1 fun z6 gK nK eK hz6 => ?_
      walk_at "go"
      refine r_rep hz6 (by decide) (by decide) fun z7 gP nP eP hz7 => ?_
      have xF : Ex gA4 gP := by walk_at "ex"
      have hz5' : gP z5 = some (.lst (XS ++ List.replicate 9 (.ref z2))) := eP _ _ (eK _ _ hz5)
      have hz2' : gP z2 = some (.tup [.str "table", .ref z1]) := eP _ _ (eK _ _ (eJ _ _ (eI _ _ (eH _ _ hz2))))
      have hz1' : gP z1 = some (.lst (List.replicate 65 (V.int (-1)))) := eP _ _ (eK _ _ (eJ _ _ (eI _ _ (eH _ _ (eG _ _ hz1)))))
      have eP' := LamX.ExtN.trans eA4' (Ex.n xF)
      have hTP := LamX.Tabs.ext hTA4 xF
      have d65 : Dp K gP (.ref z2) (WP.rowD (.tab (List.replicate 65 (-1)))) := .tup (L2.SqT.of hz2') (.cons (.str _) (.cons (.lst (L2.SqL.of hz1') (by have := dpa_ints (K := K) (H := gP) (List.replicate 65 (-1)); rw [List.map_replicate] at this; exact this)) .nil))
      have d13 : DpAll K gP (XS ++ List.replicate 9 (.ref z2)) ((RW ++ List.replicate 9 (WP.PRow.tab (List.replicate 65 (-1)))).map WP.rowD) := by
        rw [List.map_append, List.map_replicate]
        exact DpAll.append (dpa_rep d65 9) (Dp.exAll xF _ _ u2)
      walk_at "go"
      refine refuse (cs := List.replicate 13 10000000) (ck_cells (e := .many "cells") (A := RW) (b := .tab (List.replicate 65 (-1))) (B := List.replicate 8 (WP.PRow.tab (List.replicate 65 (-1)))) W1 ?_) (.lst (L2.SqL.of hz5') d13) (by rw [List.map_replicate]; exact L2.SqL.of hz7) (hE4 _ gP fun t4 gQ eQ ht4 => ?_)
      · show ckMost _ _ _ = _
        unfold ckMost
        rw [List.length_replicate, if_pos (by decide)]
      have eQ' := LamX.ExtN.trans eP' (Ex.n eQ)
      have hTQ := LamX.Tabs.ext hTP eQ
      walk_at "go"
      refine r_newT (len3 rfl) fun y5 gR nR eR hy5 => ?_
      have eR' := LamX.ExtN.trans eQ' (Ex.n eR)
      have hTR := LamX.Tabs.ext hTQ eR
      walk_at "go"
      refine r_neSame (dp_er (e := .many "cells") (eR _ _ ht4)) (dp_er (e := .many "cells") hy5) (sh_er (by show PyData.strOk _ = true; decide +kernel)) ?_
      walk_at "go"
      exact ⟨_, _, _, _, _, _, _, rfl, LamX.ExtN.trans EH5 eR', hTR⟩
    · rintro s h ⟨v6, v7, v8, v9, v10, v11, v12, rfl, e, hTh⟩
      walk_at "go"
      clear hT26 K0 KW KR ca hcl np fb
      refine r_newT (len3 rfl) fun y1 g1 m1 f1 hy1 => ?_
      walk_at "go"
      refine r_newI1 fun y2 g2 m2 f2 hy2 => ?_
      walk_at "go"
      refine r_newT (len3 rfl) fun y3 g3 m3 f3 hy3 => ?_
      walk_at "go"
      refine r_newL (len3 rfl) fun y4 g4 m4 f4 hy4 => ?_
      have x4 : Ex h g4 := by walk_at "ex"
      have hT4 := LamX.Tabs.ext hTh x4
      have d4 : Dp K g4 (.ref y4) (WP.rowsD [.blk 0, .tab [1]]) := .lst (L2.SqL.of hy4) (.cons (.tup (L2.SqT.of (f4 _ _ (f3 _ _ (f2 _ _ hy1)))) (.cons (.str _) (.cons (.int 0) .nil))) (.cons (.tup (L2.SqT.of (f4 _ _ hy3)) (.cons (.str _) (.cons (.lst (L2.SqL.of (f4 _ _ (f3 _ _ hy2))) (dpa_ints [1])) .nil))) .nil))
      walk_at "go"
      refine r_refE x_TooMany x_BadStyle x_WT x_WBadRuler hT4 fun gA E1 eA hTA hE => ?_
      have dA := Dp.exn eA _ _ d4
      walk_at "go"
      refine r_newI2 fun y5 g5 m5 f5 hy5 => ?_
      have hT5 := LamX.Tabs.ext hTA f5
      walk_at "go"
      refine refuse (e := .style "block") (rs := [.blk 0, .tab [1]]) rfl (Dp.ex f5 _ _ dA) (L2.SqL.of hy5) (hE _ g5 fun t g6 f6 ht => ?_)
      have hT6 := LamX.Tabs.ext hT5 f6
      walk_at "go"
      refine r_newT (len3 rfl) fun y6 g7 m7 f7 hy6 => ?_
      have hT7 := LamX.Tabs.ext hT6 f7
      walk_at "go"
      refine r_neSame (dp_er (e := .style "block") (f7 _ _ ht)) (dp_er (e := .style "block") hy6) (sh_er (by show PyData.strOk _ = true; decide +kernel)) ?_
      -- a block too high
      walk_at "go"
      refine r_refE x_TooMany x_BadStyle x_WT x_WBadRuler hT7 fun gB E2 eB hTB hE2 => ?_
      walk_at "go"
      refine r_newT (len3 rfl) fun z1 k1 n1 l1 hz1 => ?_
      walk_at "go"
      refine r_newL (len3 rfl) fun z2 k2 n2 l2 hz2 => ?_
      walk_at "go"
      refine r_newI1 fun z3 k3 n3 l3 hz3 => ?_
      have x5 : Ex gB k3 := by walk_at "ex"
      have hT8 := LamX.Tabs.ext hTB x5
      have dB : Dp K k3 (.ref z2) (WP.rowsD [.blk 1000001]) := .lst (L2.SqL.of (l3 _ _ hz2)) (.cons (.tup (L2.SqT.of (l3 _ _ (l2 _ _ hz1))) (.cons (.str _) (.cons (.int 1000001) .nil))) .nil)
      walk_at "go"
      refine refuse (e := .many "lines") (rs := [.blk 1000001]) rfl dB (L2.SqL.of hz3) (hE2 _ k3 fun t k4 l4 ht => ?_)
      walk_at "go"
      refine r_newT (len3 rfl) fun z4 k5 n5 l5 hz4 => ?_
      walk_at "go"
      refine r_neSame (dp_er (e := .many "lines") (l5 _ _ ht)) (dp_er (e := .many "lines") hz4) (sh_er (by show PyData.strOk _ = true; decide +kernel)) ?_
      -- the wide one
      clear hT4 hT5 hT6 hT7 hT8 hTB hTA dA dB d4 hy1 hy2 hy3 hy4 hy5 hy6 hz1 hz2 hz3 hz4 eA eB f1 f2 f3 f4 f5 f6 f7 l1 l2 l3 l4 l5 x4 x5 hE hE2 hTh e hT hT1
      walk_at "go"
      refine r_newI1 fun y1 g1 m1 f1 hy1 => ?_
      walk_at "go"
      refine r_rep hy1 (by decide) (by decide) fun y2 g2 m2 f2 hy2 => ?_
      walk_at "go"
      refine r_newI1 fun y3 g3 m3 f3 hy3 => ?_
      walk_at "go"
      refine r_cat (f3 _ _ hy2) hy3 (by rw [List.length_replicate]; show 63 + 1 ≤ 100000; decide) fun y4 g4 m4 f4 hy4 => ?_
      walk_at "go"
      refine r_newT (len3 rfl) fun y5 g5 m5 f5 hy5 => ?_
      walk_at "go"
      refine r_newL (len3 rfl) fun y6 g6 m6 f6 hy6 => ?_
      walk_at "go"
      refine r_newT (len3 rfl) fun y7 g7 m7 f7 hy7 => ?_
      walk_at "go"
      refine r_newL (len3 rfl) fun y8 g8 m8 f8 hy8 => ?_
      walk_at "go"
      refine r_rep hy8 (by decide) (by decide) fun y9 g9 m9 f9 hy9 => ?_
      walk_at "go"
      refine r_cat (f9 _ _ (f8 _ _ (f7 _ _ hy6))) hy9 (by rw [List.length_replicate]; show 1 + 11 ≤ 100000; decide) fun y10 g10 m10 f10 hy10 => ?_
      walk_at "go"
      refine r_I (.inl ⟨by decide, by decide⟩) ?_
      walk_at "go"
      try (refine r_I (.inl ⟨by decide, by decide⟩) ?_)
      walk_at "go"
      refine r_newI1 fun z1 g11 m11 f11 hz1 => ?_
      walk_at "go"
      refine r_newI1 fun z2 g12 m12 f12 hz2 => ?_
      walk_at "go"
      refine r_rep hz2 (by decide) (by decide) fun z3 g13 m13 f13 hz3 => ?_
      walk_at "go"
      refine r_cat (f13 _ _ (f12 _ _ hz1)) hz3 (by rw [List.length_replicate]; decide) fun z4 g14 m14 f14 hz4 => ?_
      walk_at "go"
      have D4 : g14 y4 = some (.lst (List.replicate 63 (V.int 1000000) ++ [V.int len])) := by walk_at "hpe"
      have D5 : g14 y5 = some (.tup [.str "table", .ref y4]) := by walk_at "hpe"
      have D7 : g14 y7 = some (.tup [.str "block", .int 1000000]) := by walk_at "hpe"
      have D10 : g14 y10 = some (.lst ([.ref y5] ++ List.replicate 11 (.ref y7))) := by walk_at "hpe"
      have DD : Dp K g14 (.ref y10) (WP.rowsD (wideR len)) := by
        refine .lst (L2.SqL.of D10) (.cons (.tup (L2.SqT.of D5) (.cons (.str _) (.cons (.lst (L2.SqL.of D4) ?_) .nil))) ?_)
        · have := dpa_ints (K := K) (H := g14) (List.replicate 63 1000000 ++ [len])
          rw [List.map_append, List.map_replicate] at this
          exact this
        · have := dpa_rep (K := K) (H := g14) (v := .ref y7) (d := WP.rowD (.blk 1000000)) (.tup (L2.SqT.of D7) (.cons (.str _) (.cons (.int 1000000) .nil))) 11
          rw [List.map_replicate]
          exact this
      refine ⟨y10, z4, wideR len, wideC, rfl, DD, L2.SqL.of hz4, fun _ => Nat.le_refl 12, ?_⟩
      rw [wide_ck len0 (by omega)]
      intro t l g15 nl f15 ht hl
      rw [wide_least len0 (by omega)] at ht hl
      clear DD D4 D5 D7 D10 hy1 hy2 hy3 hy4 hy5 hy6 hy7 hy8 hy9 hy10 hz1 hz2 hz3 hz4
      walk_at "go"
      refine r_newI1 fun u1 g16 m16 f16 hu1 => ?_
      walk_at "go"
      refine r_newI1 fun u2 g17 m17 f17 hu2 => ?_
      walk_at "go"
      refine r_rep hu2 (by decide) (by decide) fun u3 g18 m18 f18 hu3 => ?_
      walk_at "go"
      refine r_cat (f18 _ _ (f17 _ _ hu1)) hu3 (by rw [List.length_replicate]; show 1 + 11 ≤ 100000; decide) fun u4 g19 m19 f19 hu4 => ?_
      walk_at "go"
      refine r_newT (len3 rfl) fun u5 g20 m20 f20 hu5 => ?_
      have eq : (10 : Int) ^ (6 : Int).toNat * (10 ^ (6 : Int).toNat - len) + 11 * (10 ^ (6 : Int).toNat - 1) - 11 * (10 ^ (6 : Int).toNat - 1) = (1000000 - len) * 1000000 := by
        rw [show (10 : Int) ^ (6 : Int).toNat = 1000000 from rfl]
        omega
      rw [eq] at hu5
      have dt : Dp K g20 (.ref t) _ := dp_told (f20 _ _ (f19 _ _ (f18 _ _ (f17 _ _ (f16 _ _ ht))))) (f20 _ _ (f19 _ _ (f18 _ _ (f17 _ _ (f16 _ _ hl)))))
      have du : Dp K g20 (.ref u5) (.tuple [.int ((1000000 - len) * 1000000), .str "falls", .list (((1000000 - len) :: List.replicate 11 0).map PyData.int)]) := dp_told hu5 (f20 _ _ hu4)
      refine r_eqSame dt du (sh_told (by show PyData.strOk ("falls" : Str) = true; decide +kernel)) ?_
      exact q _
end
end K03
namespace K03
open PySem PySem.Spec PyProof.Rows L2 Evl Lay
section
variable {P : Program} {w : World} {K : PySem.W.Frag} {mg : Str → Option Value} {base : Heap} {CB CT CW CTable CBlock CBadRuler CBadWords CBadBook CBadTold CBadPlan CBadText CBadCommand cL__law_refusals PL__law_refusals : Addr} {tkC tkK tkL : Tok}
/-! ### rows in a list -/
def RowsH (p l : Addr) (h : Hp) (ts : List Addr) (rs : List WP.PRow) : Prop := h l = some (.lst (ts.map V.ref)) ∧ ts.length = rs.length ∧ ∀ (i : Nat) t r, ts[i]? = some t → rs[i]? = some r → RowH p l h t r
theorem RowsH.nil {p l : Addr} {h : Hp} (hl : h l = some (.lst [])) : RowsH p l h [] [] := ⟨hl, rfl, fun i t r a _ => by cases a⟩
theorem RowsH.ex {p l : Addr} {h h2 : Hp} {ts : List Addr} {rs : List WP.PRow} (b : RowsH p l h ts rs) (e : Ex h h2) : RowsH p l h2 ts rs := ⟨e _ _ b.1, b.2.1, fun i t r x y => (b.2.2 i t r x y).ex e⟩
theorem RowsH.exb {p l : Addr} {h h2 : Hp} {ts : List Addr} {rs : List WP.PRow} (b : RowsH p l h ts rs) (e : ExB p h h2) (n : l ≠ p) (nt : ∀ xs, h p ≠ some (.tup xs)) : RowsH p l h2 ts rs := ⟨e _ _ n b.1, b.2.1, fun i t r x y => (b.2.2 i t r x y).exb e (.inl rfl) nt⟩
theorem RowsH.put {p l t : Addr} {h h2 : Hp} {ts : List Addr} {rs : List WP.PRow} {r : WP.PRow} (b : RowsH p l h ts rs) (ht : RowH p l h t r) (e : ExB l h h2) (h5 : h2 l = some (.lst (ts.map V.ref ++ [.ref t]))) : RowsH p l h2 (ts ++ [t]) (rs ++ [r]) := by
  have nt : ∀ xs, h l ≠ some (.tup xs) := fun xs z => by rw [b.1] at z; cases z
  refine ⟨by rw [List.map_append]; exact h5, by rw [List.length_append, List.length_append, b.2.1]; rfl, fun i t' r' x y => ?_⟩
  by_cases k : i < ts.length
  · rw [List.getElem?_append_left k] at x
    rw [List.getElem?_append_left (by rw [← b.2.1]; exact k)] at y
    exact (b.2.2 i t' r' x y).exb e (.inr rfl) nt
  · have i0 : i = ts.length := by
      have z := (List.getElem?_eq_some_iff.mp x).1
      rw [List.length_append] at z
      change i < ts.length + 1 at z
      omega
    rw [i0, List.getElem?_append_right (Nat.le_refl _), Nat.sub_self] at x
    rw [i0, b.2.1, List.getElem?_append_right (Nat.le_refl _), Nat.sub_self] at y
    cases x
    cases y
    exact ht.exb e (.inr rfl) nt
theorem RowsH.set {p l t : Addr} {h h2 : Hp} {ts : List Addr} {rs : List WP.PRow} {r : WP.PRow} {j : Nat} (b : RowsH p l h ts rs) (ht : RowH p l h t r) (hj : j < ts.length) (e : ExB l h h2) (h5 : h2 l = some (.lst ((ts.map V.ref).set j (.ref t)))) : RowsH p l h2 (ts.set j t) (rs.set j r) := by
  have nt : ∀ xs, h l ≠ some (.tup xs) := fun xs z => by rw [b.1] at z; cases z
  refine ⟨by rw [List.map_set]; exact h5, by rw [List.length_set, List.length_set, b.2.1], fun i t' r' x y => ?_⟩
  by_cases k : j = i
  · subst k
    rw [List.getElem?_set_self hj] at x
    rw [List.getElem?_set_self (by rw [← b.2.1]; exact hj)] at y
    cases x
    cases y
    exact ht.exb e (.inr rfl) nt
  · rw [List.getElem?_set_ne k] at x y
    exact (b.2.2 i t' r' x y).exb e (.inr rfl) nt
theorem rows_dpa {K : PySem.W.Frag} {p l : Addr} {h : Hp} : ∀ {ts : List Addr} {rs : List WP.PRow}, ts.length = rs.length → (∀ (i : Nat) t r, ts[i]? = some t → rs[i]? = some r → RowH p l h t r) → DpAll K h (ts.map V.ref) (rs.map WP.rowD)
  | [], [], _, _ => .nil
  | t :: ts, r :: rs, hl, b => .cons (b 0 t r rfl rfl).dp (rows_dpa (Nat.succ.inj hl) fun i t' r' x y => b (i + 1) t' r' x y)
theorem RowsH.dp {K : PySem.W.Frag} {p l : Addr} {h : Hp} {ts : List Addr} {rs : List WP.PRow} (b : RowsH p l h ts rs) : Dp K h (.ref l) (WP.rowsD rs) := .lst (L2.SqL.of b.1) (rows_dpa b.2.1 b.2.2)
/-- whatever their order -/
theorem mix_rows {K : PySem.W.Frag} {h : Hp} : ∀ {zs : List V}, (∀ z ∈ zs, ∃ r, Dp K h z (WP.rowD r) ∧ SmR r) → ∃ rs : List WP.PRow, DpAll K h zs (rs.map WP.rowD) ∧ rs.length = zs.length ∧ ∀ r ∈ rs, SmR r
  | [], _ => ⟨[], .nil, rfl, fun _ m => (List.not_mem_nil m).elim⟩
  | z :: zs, H => by
    obtain ⟨r, h1, h2⟩ := H z List.mem_cons_self
    obtain ⟨rs, h3, h4, h5⟩ := mix_rows (zs := zs) fun x m => H x (List.mem_cons_of_mem _ m)
    refine ⟨r :: rs, .cons h1 h3, congrArg (· + 1) h4, fun x m => ?_⟩
    rcases List.mem_cons.mp m with m | m
    · rw [m]; exact h2
    · exact h5 x m
def spLaw (K : PySem.W.Frag) (cs : List (Addr × Addr)) : Sp := fun vs H Q _ => ∃ (a : Addr) (ns : List Int), vs = [.ref a] ∧ SqL K H a (ns.map V.int) ∧ ns.length ≤ 63 ∧ (∀ p ∈ cs, H p.2 = some (.tbl #[])) ∧ ∀ H2, Q (.bl true) H2
abbrev s_law : Stmt := top 47
theorem sc_law : FnScope ["script", "purse", "turn", "rows", "prices", "steps", "stair", "place", "row", "one"] ["script"] (defScope s_law) := ⟨rfl, rfl, rfl, by decide +kernel, rfl, by decide +kernel, by decide +kernel⟩
theorem ok_law (T : Txt K mg CB tkC tkK tkL  CBadRuler CBadWords CBadBook CBadTold CBadPlan CBadText CBadCommand) {f : Addr} {fd : FuncData} (F : Fun K "law" "law" s_law f fd) (d__law_purse : Def P w K mg base "_law_purse" 1 ["script", "at"] (spPurse K)) (d__law_draw : Def P w K mg base "_law_draw" 1 ["purse", "many"] spDraw)
    (d__law_price_row : Def P w K mg base "_law_price_row" 2 ["purse"] spPriceRow) (d__law_priced_right : Def P w K mg base "_law_priced_right" 9 ["rows", "prices"] (spPricedR K)) (d__law_mix : Def P w K mg base "_law_mix" 2 ["purse", "things"] (spMix K))
    (d_least_pads : Def P w K mg base "least_pads" 8 ["rows", "prices"] (spLeast K CT CW)) (d__law_refusals : Def P w K mg base "_law_refusals" 13 ["purse"] (spRefusals PL__law_refusals)) :
    FnOk P w K mg base (L2.CX P w) 14 f fd ["script"] (spLaw K [(cL__law_refusals, PL__law_refusals)]) := by
  refine fnK F sc_law (fun vs H Q E h => ?_) (fun f cdv Ar outer s H vs Q E hr h => ⟨_, (pss_cons (ps_set (i := 1) sc_law.nd rfl (Or.inr rfl) (pe_d d__law_purse (hr.mono (by decide)) (passes_call (takes_of rfl rfl rfl rfl) (fun _ _ _ _ h => h)) (pa_cons (pv 0) (pa_cons pe_int pa_nil))))
      (pss_cons (ps_for (passes_of rfl) rfl (pi_range1 rfl T.n_range (pa_cons pe_int pa_nil)) (pg_name (i := 2) sc_law.nd rfl (Or.inl rfl)) (pss_cons (ps_setLc (i := 3) (own := [("place", 7)]) (g := gName 7) (tt := tYes) rfl sc_law.nd rfl rfl (sw_true rfl rfl rfl (by decide +kernel)) (pi_range1 rfl T.n_range (pa_cons (pe_op op_add pe_int (pe_d d__law_draw (hr.mono (by decide)) (passes_call (takes_of rfl rfl rfl rfl) (fun _ _ _ _ h => h)) (pa_cons (pv 1) (pa_cons pe_int pa_nil)))) pa_nil)) (blkOk_by (own := [("place", 7)]) (N := ["script", "purse", "turn", "rows", "prices", "steps", "stair", "place", "row", "one"]) (sc := defScope s_law) (by decide +kernel)) (fun _ _ _ _ _ => (pg_name (i := 7) sc_law.nd rfl (Or.inl rfl))) (fun _ _ _ _ _ => pts_nil) (fun _ _ _ _ _ => (pe_d d__law_price_row (hr.mono (by decide)) passL (pa_cons (pv 1) pa_nil))))
      (pss_cons (ps_if (pt_cmpR op_eq (pe_d d__law_draw (hr.mono (by decide)) (passes_call (takes_of rfl rfl rfl rfl) (fun _ _ _ _ h => h)) (pa_cons (pv 1) (pa_cons pe_int pa_nil))) pe_int (nomark _)) (pss_one (ps_asg (pe_tup (pa_cons pe_str pa_nil)) (pg_sub (pv 3) (pe_d d__law_draw (hr.mono (by decide)) (passes_call (takes_of rfl rfl rfl rfl) (fun _ _ _ _ h => h)) (pa_cons (pv 1) (pa_cons (pe_callB (r := Lay.rLen K) c_len rfl T.n_len PySem.boot_len (pa_cons (pv 3) pa_nil)) pa_nil))) set_list))) pss_nil)
      (pss_cons (ps_setLc (i := 4) (own := [("row", 8)]) (g := gName 8) (tt := tYes) rfl sc_law.nd rfl rfl (sw_true rfl rfl rfl (by decide +kernel)) (pi_list (pv 3)) (blkOk_by (own := [("row", 8)]) (N := ["script", "purse", "turn", "rows", "prices", "steps", "stair", "place", "row", "one"]) (sc := defScope s_law) (by decide +kernel)) (fun _ _ _ _ _ => (pg_name (i := 8) sc_law.nd rfl (Or.inl rfl))) (fun _ _ _ _ _ => pts_nil) (fun _ _ _ _ _ => (pe_d d__law_draw (hr.mono (by decide)) passL (pa_cons (pv 1) (pa_cons pe_int pa_nil)))))
      (pss_one (ps_if (pt_not (pt_val (pe_d d__law_priced_right (hr.mono (by decide)) (passes_call (takes_of rfl rfl rfl rfl) (fun _ _ _ _ h => h)) (pa_cons (pv 3) (pa_cons (pv 4) pa_nil))))) (pss_one (ps_ret pe_bl)) pss_nil))))))
      (pss_cons (ps_set (i := 5) sc_law.nd rfl (Or.inl rfl) (pe_op op_add pe_int (pe_d d__law_draw (hr.mono (by decide)) (passes_call (takes_of rfl rfl rfl rfl) (fun _ _ _ _ h => h)) (pa_cons (pv 1) (pa_cons pe_int pa_nil)))))
      (pss_cons (ps_set (i := 6) sc_law.nd rfl (Or.inl rfl) (pe_lst (pa_cons (pe_tup (pa_cons pe_str (pa_cons (pe_lc (own := [("one", 9)]) (g := gName 9) (tt := tYes) rfl sc_law.nd (pi_range1 rfl T.n_range (pa_cons (pv 5) pa_nil)) (blkOk_by (own := [("one", 9)]) (N := ["script", "purse", "turn", "rows", "prices", "steps", "stair", "place", "row", "one"]) (sc := defScope s_law) (by decide +kernel)) (fun _ _ _ _ _ => (pg_name (i := 9) sc_law.nd rfl (Or.inl rfl))) (fun _ _ _ _ _ => pts_nil) (fun _ _ _ _ _ => (pe_op op_sub pe_int (pv 9)))) pa_nil))) (pa_cons (pe_tup (pa_cons pe_str (pa_cons (pe_lst (pa_cons pe_int (pa_cons pe_int (pa_cons (pe_op op_add pe_int (pe_d d__law_draw (hr.mono (by decide)) (passes_call (takes_of rfl rfl rfl rfl) (fun _ _ _ _ h => h)) (pa_cons (pv 1) (pa_cons pe_int pa_nil)))) pa_nil)))) pa_nil))) pa_nil))))
      (pss_cons (ps_if (pt_not (pt_val (pe_d d__law_priced_right (hr.mono (by decide)) (passes_call (takes_of rfl rfl rfl rfl) (fun _ _ _ _ h => h)) (pa_cons (pe_d d__law_mix (hr.mono (by decide)) (passes_call (takes_of rfl rfl rfl rfl) (fun _ _ _ _ h => h)) (pa_cons (pv 1) (pa_cons (pv 6) pa_nil))) (pa_cons (pe_op op_rep (pe_lst (pa_cons (pe_op op_add pe_int (pe_d d__law_draw (hr.mono (by decide)) (passes_call (takes_of rfl rfl rfl rfl) (fun _ _ _ _ h => h)) (pa_cons (pv 1) (pa_cons pe_int pa_nil)))) pa_nil)) pe_int) pa_nil))))) (pss_one (ps_ret pe_bl)) pss_nil)
      (pss_cons (ps_if (pt_cmpR (r := rNeD K) (op_neD hr.units) (pe_d d_least_pads (hr.mono (by decide)) (passes_call (takes_of rfl rfl rfl rfl) (fun _ _ _ _ h => h)) (pa_cons (pe_lst pa_nil) (pa_cons (pe_lst pa_nil) pa_nil))) (pe_tup (pa_cons pe_int (pa_cons pe_str (pa_cons (pe_lst pa_nil) pa_nil)))) (nomark _)) (pss_one (ps_ret pe_bl)) pss_nil)
      (pss_one (ps_ret (pe_d d__law_refusals (hr.mono (by decide)) (passes_call (takes_of rfl rfl rfl rfl) (fun _ _ _ _ h => h)) (pa_cons (pv 1) pa_nil)))))))))), ?_⟩)
  · obtain ⟨a, ns, rfl, _⟩ := h
    rfl
  · obtain ⟨a, ns, rfl, ha, hn, htb, q⟩ := h
    have hT0 : LamX.Tabs (TT0 PL__law_refusals) H := fun z hz => by
      rw [List.mem_singleton.mp hz]
      exact LamX.TabS.nil (htb _ List.mem_cons_self)
    walk_at "go0"
    refine ⟨a, ns, 0, rfl, ha, by decide, hn, fun p H1 np e1 hp1 => ?_⟩
    have hT1 := LamX.Tabs.ext hT0 e1
    walk_at "go"
    refine forR1 (by decide) (by decide) (fun i s h => ∃ v2 v3 v4 v5 v6 v7 v8 v9, s = [some (.ref a), some (.ref p), v2, v3, v4, v5, v6, v7, v8, v9] ∧ ExB p H1 h ∧ Pur h p) ?_ ?_ ?_
    · exact ⟨_, _, _, _, _, _, _, _, rfl, ExB.refl _ _, hp1⟩
    · rintro i s h hi ⟨v2, v3, v4, v5, v6, v7, v8, v9, rfl, e, hp⟩
      walk_at "go"
      refine ⟨p, 2, rfl, by decide, by decide, hp, fun x H2 x0 x1 e2 hp2 => ?_⟩
      walk_at "go"
      refine lcR1 (by omega) (by omega) (fun l i h => ∃ ts rs, RowsH p l h ts rs ∧ rs.length = i ∧ (∀ r ∈ rs, SmR r) ∧ ExB p H2 h ∧ Pur h p ∧ H2 l = none) ?_ ?_ ?_ (fun _ => rfl)
      · exact fun l h n e hl => ⟨[], [], RowsH.nil hl, rfl, fun _ m => (List.not_mem_nil m).elim, Ex.b e, hp2.ex e, n⟩
      · rintro l i h hi ⟨ts, rs, hR, hl, hS, e3, hp3, nl⟩
        have nlp : l ≠ p := (ne_pur hp2 nl).symm
        walk_at "go"
        refine ⟨p, l, rfl, hp3, ⟨_, hR.1⟩, fun t H4 r e4 hp4 ht hr' => ?_⟩
        have hR4 := hR.exb e4 nlp hp3.nt
        refine Lay.appW hR4.1 (by rw [List.length_map, hR.2.1]; omega) fun H5 e5 h5 => ⟨ts ++ [t], rs ++ [r], hR4.put ht e5 h5, by rw [List.length_append, hl]; rfl, fun r' m => ?_, ExB.exB (e3.trans e4) e5 nl, hp4.upd e5 nlp.symm, nl⟩
        rcases List.mem_append.mp m with m | m
        · exact hS r' m
        · rw [List.mem_singleton.mp m]; exact hr'
      · rintro l h3 ⟨ts, rs, hR, hl, hS, e3, hp3, nl⟩
        have nlp : l ≠ p := (ne_pur hp2 nl).symm
        have l3 : rs.length ≤ 3 := by omega
        have l2 : 2 ≤ rs.length := by omega
        have e3' : ExB p H1 h3 := (e.trans e2).trans e3
        clear hl
        try dsimp only []
        refine r_seq (t := tIfS _ _ _) ?_
        refine r_cut (t := tIfS _ _ _) (fun s h => ∃ v2 v7 ts rs, s = [some (.ref a), some (.ref p), v2, some (.ref l), v4, v5, v6, v7, v8, v9] ∧ RowsH p l h ts rs ∧ 2 ≤ rs.length ∧ rs.length ≤ 3 ∧ (∀ r ∈ rs, SmR r) ∧ ExB p H1 h ∧ Pur h p) (fun N hN => ?_) ?_
        · walk_at "go"
          refine ⟨p, 4, rfl, by decide, by decide, hp3, fun y H4 y0 y1 e4 hp4 => ?_⟩
          have hR4 := hR.exb e4 nlp hp3.nt
          walk_at "go"
          refine r_ite (fun c => ?_) (fun c => ?_)
          · walk_at "go"
            refine r_newT (len3 rfl) fun t H5 n5 e5 ht => ?_
            have hR5 := hR4.ex e5
            have hl5 : SqL K H5 l (ts.map V.ref) := L2.SqL.of hR5.1
            walk_at "go"
            refine r_len hl5 ?_
            rw [List.length_map]
            walk_at "go"
            refine ⟨p, _, rfl, by rw [hR5.2.1]; omega, by rw [hR5.2.1]; omega, hp4.ex e5, fun j H6 j0 j1 e6 hp6 => ?_⟩
            have hR6 := hR5.exb e6 nlp (hp4.ex e5).nt
            have ht6 : H6 t = some (.tup [.str "opening"]) := e6 _ _ ((ne_pur hp4 n5).symm) ht
            walk_at "go"
            refine r_setL hR6.1 j0 (by rw [List.length_map]; exact j1) fun H7 e7 h7 _ => ?_
            walk_at "go"
            refine hN _ _ ⟨_, _, ts.set j.toNat t, rs.set j.toNat .opn, rfl, hR6.set (r := .opn) ht6 (by omega) e7 h7, by rw [List.length_set]; exact l2, by rw [List.length_set]; exact l3, fun r m => ?_, ?_, hp6.upd e7 nlp.symm⟩
            · rcases List.mem_or_eq_of_mem_set m with m | m
              · exact hS r m
              · rw [m]; exact trivial
            · exact ExB.exB (((e3'.trans e4).trans (Ex.b e5)).trans e6) e7 (freshB (e.trans e2) nlp nl)
          · walk_at "go"
            exact hN _ _ ⟨_, _, ts, rs, rfl, hR4, l2, l3, hS, e3'.trans e4, hp4⟩
        · clear hR hS e3' hp3 l3 l2
          rintro s h4 ⟨v2', v7', ts, rs, rfl, hR, l2, l3, hS, e4, hp4⟩
          walk_at "go"
          refine lcL (L2.SqL.of hR.1) (fun l2 i h => ∃ cs : List Int, h l2 = some (.lst (cs.map V.int)) ∧ cs.length = i ∧ (∀ z ∈ cs, 0 ≤ z ∧ z ≤ 1000000) ∧ ExB p h4 h ∧ Pur h p ∧ h4 l2 = none) ?_ ?_ ?_ ?_ (fun _ => rfl)
          · exact fun l2 h n e hl => ⟨[], hl, rfl, fun _ m => (List.not_mem_nil m).elim, Ex.b e, hp4.ex e, n⟩
          · rintro l2 i h _ ⟨cs, _, _, _, e, _, _⟩
            exact exb_l e nlp (L2.SqL.of hR.1)
          · rintro m i x h hx ⟨cs, hc, hl, hb, e5, hp5, nm⟩
            have nmp : m ≠ p := (ne_pur hp4 nm).symm
            have hi := (List.getElem?_eq_some_iff.mp hx).1
            rw [List.length_map, hR.2.1] at hi
            walk_at "go"
            refine ⟨p, 6, rfl, by decide, by decide, hp5, fun y H6 y0 y1 e6 hp6 => ?_⟩
            refine Lay.appW (e6 _ _ nmp hc) (by rw [List.length_map]; omega) fun H7 e7 h7 => ⟨cs ++ [y], by rw [List.map_append]; exact h7, by rw [List.length_append, hl]; rfl, fun z m' => ?_, ExB.exB (e5.trans e6) e7 nm, hp6.upd e7 nmp.symm, nm⟩
            rcases List.mem_append.mp m' with m' | m'
            · exact hb z m'
            · rw [List.mem_singleton.mp m']; omega
          · rintro m h5 ⟨cs, hc, hl, hb, e5, hp5, nm⟩
            rw [List.length_map, hR.2.1] at hl
            have hR5 := hR.exb e5 nlp hp4.nt
            walk_at "go"
            refine ⟨l, m, rs, cs, rfl, hR5.dp, L2.SqL.of hc, by omega, by omega, by omega, hS, hb, fun H6 e6 => ?_⟩
            walk_at "go"
            exact ⟨_, _, _, _, _, _, _, _, rfl, (e4.trans e5).trans (Ex.b e6), hp5.ex e6⟩
    · rintro s h ⟨v2, v3, v4, v5, v6, v7, v8, v9, rfl, e, hp⟩
      have hT := Tabs.exb hT1 e (.inl hp1.lst)
      clear ha htb hT0 hT1 e1 e
      walk_at "go"
      refine ⟨p, 3, rfl, by decide, by decide, hp, fun x H2 x0 x1 e2 hp2 => ?_⟩
      have hT2 := Tabs.exb hT e2 (.inl hp.lst)
      walk_at "go"
      refine lcF1 (f := fun i => 4 - (i : Int)) (by show (-1000000000 : Int) ≤ 2 + x; omega) (by omega) ?_ ?_ (fun _ => rfl)
      · intro k h R hk e k2
        walk_at "go"
        exact k2 h (Ex.refl _)
      intro y1 H3 n3 e3 hy1
      walk_at "go"
      refine r_newT (len3 rfl) fun y2 H4 n4 e4 hy2 => ?_
      have hp4 := (hp2.ex e3).ex e4
      have hT4 := LamX.Tabs.ext (LamX.Tabs.ext hT2 e3) e4
      have d0 := e4 _ _ hy1
      have nyp : y1 ≠ p := (ne_pur hp2 n3).symm
      have nyp2 : y2 ≠ p := (ne_pur hp2 (fresh_back e3 n4)).symm
      walk_at "go"
      refine ⟨p, 2, rfl, by decide, by decide, hp4, fun z H5 z0 z1 e5 hp5 => ?_⟩
      have hT5 := Tabs.exb hT4 e5 (.inl hp4.lst)
      have d1 := e5 _ _ nyp d0
      have d2 := e5 _ _ nyp2 hy2
      clear d0 hy1 hy2 hT hT2 hT4
      walk_at "go"
      refine r_newI3 fun y3 H6 n6 e6 hy3 => ?_
      walk_at "go"
      refine r_newT (len3 rfl) fun y4 H7 n7 e7 hy4 => ?_
      walk_at "go"
      refine r_newL (len3 rfl) fun y5 H8 n8 e8 hy5 => ?_
      have x8 := e6.trans (e7.trans e8)
      have hp8 := hp5.ex x8
      have hT8 := LamX.Tabs.ext hT5 x8
      walk_at "go"
      refine ⟨p, y5, [.ref y2, .ref y4], rfl, hp8, L2.SqL.of hy5, by show 2 ≤ 100; decide, fun m H9 zs nm e9 hp9 hm hP => ?_⟩
      have hT9 := Tabs.exb hT8 e9 (.inl hp8.lst)
      have n1 : y3 ≠ p := (ne_pur hp5 n6).symm
      have n2 : y4 ≠ p := (ne_pur hp5 (fresh_back e6 n7)).symm
      walk_at "go"
      refine ⟨p, 3, rfl, by decide, by decide, hp9, fun c H10 c0 c1 e10 hp10 => ?_⟩
      have nmp : m ≠ p := (ne_pur hp8 nm).symm
      have hT10 := Tabs.exb hT9 e10 (.inl hp9.lst)
      have hm10 := e10 _ _ nmp hm
      have a1 := e10 _ _ nyp <| e9 _ _ nyp (x8 _ _ d1)
      have a2 := e10 _ _ nyp2 <| e9 _ _ nyp2 (x8 _ _ d2)
      have a3 := e10 _ _ n1 <| e9 _ _ n1 (e8 _ _ (e7 _ _ hy3))
      have a4 := e10 _ _ n2 <| e9 _ _ n2 (e8 _ _ hy4)
      obtain ⟨rs, hA, rl, hS⟩ := mix_rows (K := K) (h := H10) (zs := zs) fun v hv => by
        rcases List.mem_cons.mp (hP.mem_iff.mp hv) with r | r
        · subst r
          refine ⟨.tab ((List.range (2 + x).toNat).map fun i : Nat => 4 - (i : Int)), .tup (L2.SqT.of a2) (.cons (.str _) (.cons (.lst (L2.SqL.of a1) (dpa_ints _)) .nil)), ?_, ?_, ?_⟩
          · rw [List.length_map, List.length_range]; omega
          · rw [List.length_map, List.length_range]; omega
          · intro u hu
            obtain ⟨k, hk, rfl⟩ := List.mem_map.mp hu
            rw [List.mem_range] at hk
            omega
        · rw [List.mem_singleton.mp r]
          refine ⟨.tab [0, 1, 1 + z], .tup (L2.SqT.of a4) (.cons (.str _) (.cons (.lst (L2.SqL.of a3) (dpa_ints _)) .nil)), by show 2 ≤ 3; decide, by show 3 ≤ 10; decide, ?_⟩
          intro u hu
          rcases List.mem_cons.mp hu with hu | hu
          · omega
          · rcases List.mem_cons.mp hu with hu | hu
            · omega
            · rw [List.mem_singleton.mp hu]; omega
      have zl := hP.length_eq
      clear d1 d2 hy3 hy4 hy5 e6 e7 e8 x8 a1 a2 a3 a4 hP hT5 hT8 hT9 hm
      walk_at "go"
      refine r_newI1 fun u1 H11 n11 e11 hu1 => ?_
      walk_at "go"
      refine r_rep hu1 (by decide) (by decide) fun u2 H12 n12 e12 hu2 => ?_
      have x12 := e11.trans e12
      have hT12 := LamX.Tabs.ext hT10 x12
      have hp12 := hp10.ex x12
      have zl2 : zs.length = 2 := zl
      walk_at "go"
      refine ⟨m, u2, rs, [1 + c, 1 + c], rfl, .lst (L2.SqL.of (x12 _ _ hm10)) (Dp.exAll x12 _ _ hA), L2.SqL.of hu2, by omega, by show rs.length ≤ 2; omega, by show 2 ≤ 100; decide, hS, fun v hv => ?_, fun H13 e13 => ?_⟩
      · rcases List.mem_cons.mp hv with hv | hv
        · omega
        · rw [List.mem_singleton.mp hv]; omega
      have hT13 := LamX.Tabs.ext hT12 e13
      have hp13 := hp12.ex e13
      clear hA hm10 hu1 hu2 e11 e12 hT10 hT12
      walk_at "go"
      refine r_newI0 fun u3 H14 n14 e14 hu3 => ?_
      walk_at "go"
      refine r_newI0 fun u4 H15 n15 e15 hu4 => ?_
      have x15 := e14.trans e15
      have hT15 := LamX.Tabs.ext hT13 x15
      have hp15 := hp13.ex x15
      walk_at "go"
      refine ⟨u3, u4, [], [], rfl, .lst (L2.SqL.of (e15 _ _ hu3)) .nil, L2.SqL.of hu4, fun _ => Nat.le_refl 0, ?_⟩
      show LeastK _ _ [] []
      intro t l H16 nl e16 ht hl
      have hT16 := LamX.Tabs.ext hT15 e16
      have hp16 := hp15.ex e16
      walk_at "go"
      refine r_newI0 fun u5 H17 n17 e17 hu5 => ?_
      walk_at "go"
      refine r_newT (len3 rfl) fun u6 H18 n18 e18 hu6 => ?_
      have x18 := e17.trans e18
      refine r_neSame (dp_told (K := K) (x18 _ _ ht) (x18 _ _ hl)) (dp_told (K := K) (n := 0) (s := "falls") (ns := []) hu6 (e18 _ _ hu5)) (sh_told (by show PyData.strOk ("falls" : Str) = true; decide +kernel)) ?_
      walk_at "go"
      exact ⟨p, rfl, hp16.ex x18, LamX.Tabs.ext hT16 x18, fun H19 => q H19⟩
end
end K03
namespace K03
open PySem PySem.Spec PyProof.Rows L2 Evl Lay
theorem all_mk {q0 : Program} {l : PySem.W.OpenLaw} {w : World} {K : PySem.W.Frag} {h : Heap} {mg : Str → Option Value} {fa : Addr} (X : K.In h) (G : h.Ns mainGlobals mg) (hfa : mg "law" = some (.ref fa))
    {tkC : Tok}
    {tkK : Tok}
    {tkL : Tok}
    {CB : Addr}
    {CT fT NT : Addr} {nmT qT : Str} {bsT : List Value} {snT : List Str} {subT : List Value} {abT : Bool} {colT : Option Bool} {ddT odT anT : Option Addr} {maT mbT mcT mdT meT : Option Value} {ocT dcT pmT cdT ctT kvT : Value} {slT : Array (Option Value)}
    {CW fW NW : Addr} {nmW qW : Str} {bsW : List Value} {snW : List Str} {subW : List Value} {abW : Bool} {colW : Option Bool} {ddW odW anW : Option Addr} {maW mbW mcW mdW meW : Option Value} {ocW dcW pmW cdW ctW kvW : Value} {slW : Array (Option Value)}
    {CBadRuler : Addr}
    {CBadWords : Addr}
    {CBadBook : Addr}
    {CBadTold : Addr}
    {CBadPlan : Addr}
    {CBadText : Addr}
    {CBadCommand : Addr}
    {p1 : Addr} {e1 n1 : Option Addr} {v1 : Array (Option Value)} {o1 k1 d1 m1 c1 t1 : Value}
    {p2 : Addr} {e2 n2 : Option Addr} {v2 : Array (Option Value)} {o2 k2 d2 m2 c2 t2 : Value}
    {p3 : Addr} {e3 n3 : Option Addr} {v3 : Array (Option Value)} {o3 k3 d3 m3 c3 t3 : Value}
    {p4 : Addr} {e4 n4 : Option Addr} {v4 : Array (Option Value)} {o4 k4 d4 m4 c4 t4 : Value}
    {p5 : Addr} {e5 n5 : Option Addr} {v5 : Array (Option Value)} {o5 k5 d5 m5 c5 t5 : Value}
    {p6 : Addr} {e6 n6 : Option Addr} {v6 : Array (Option Value)} {o6 k6 d6 m6 c6 t6 : Value}
    {p7 : Addr} {e7 n7 : Option Addr} {v7 : Array (Option Value)} {o7 k7 d7 m7 c7 t7 : Value}
    {p8 : Addr} {e8 n8 : Option Addr} {v8 : Array (Option Value)} {o8 k8 d8 m8 c8 t8 : Value}
    {p9 : Addr} {e9 n9 : Option Addr} {v9 : Array (Option Value)} {o9 k9 d9 m9 c9 t9 : Value}
    {p10 : Addr} {e10 n10 : Option Addr} {v10 : Array (Option Value)} {o10 k10 d10 m10 c10 t10 : Value}
    {p11 : Addr} {e11 n11 : Option Addr} {v11 : Array (Option Value)} {o11 k11 d11 m11 c11 t11 : Value}
    {p12 : Addr} {e12 n12 : Option Addr} {v12 : Array (Option Value)} {o12 k12 d12 m12 c12 t12 : Value}
    {p13 : Addr} {e13 n13 : Option Addr} {v13 : Array (Option Value)} {o13 k13 d13 m13 c13 t13 : Value}
    {p14 : Addr} {e14 n14 : Option Addr} {v14 : Array (Option Value)} {o14 k14 d14 m14 c14 t14 : Value}
    {p15 : Addr} {e15 n15 : Option Addr} {v15 : Array (Option Value)} {o15 k15 d15 m15 c15 t15 : Value}
    {p16 : Addr} {e16 n16 : Option Addr} {v16 : Array (Option Value)} {o16 k16 d16 m16 c16 t16 : Value}
    {p17 : Addr} {e17 n17 : Option Addr} {v17 : Array (Option Value)} {o17 k17 d17 m17 c17 t17 : Value}
    {p18 : Addr} {e18 n18 : Option Addr} {v18 : Array (Option Value)} {o18 k18 d18 m18 c18 t18 : Value}
    {p19 : Addr} {e19 n19 : Option Addr} {v19 : Array (Option Value)} {o19 k19 d19 m19 c19 t19 : Value}
    {p20 : Addr} {e20 n20 : Option Addr} {v20 : Array (Option Value)} {o20 k20 d20 m20 c20 t20 : Value}
    {p21 : Addr} {e21 n21 : Option Addr} {v21 : Array (Option Value)} {o21 k21 d21 m21 c21 t21 : Value}
    {p22 : Addr} {e22 n22 : Option Addr} {v22 : Array (Option Value)} {o22 k22 d22 m22 c22 t22 : Value}
    {p23 : Addr} {e23 n23 : Option Addr} {v23 : Array (Option Value)} {o23 k23 d23 m23 c23 t23 : Value}
    {p24 : Addr} {e24 n24 : Option Addr} {v24 : Array (Option Value)} {o24 k24 d24 m24 c24 t24 : Value}
    {p25 : Addr} {e25 n25 : Option Addr} {v25 : Array (Option Value)} {o25 k25 d25 m25 t25 : Value}
    {cL__law_refusals PL__law_refusals : Addr}
    {wA25 : Value} {wB25 : Option Addr} {wC25 : Array Value} {wD25 : Array (Option Value)}
    {CTable : Addr}
    {CBlock : Addr}
    {dM0 : Addr} {tD0_0 : Tok} {eD0 : Option Addr} {nD0 : Nat} {vD0 : Array (Option Value)}
    {pM0 : Addr} {eM0 nM0 : Option Addr} {vM0 : Array (Option Value)} {oM0 kM0 dcM0 mM0 cM0 tM0 : Value}
    {pM1 : Addr} {eM1 nM1 : Option Addr} {vM1 : Array (Option Value)} {oM1 kM1 dcM1 mM1 cM1 tM1 : Value}
    {pL : Addr} {eL nL : Option Addr} {vL : Array (Option Value)} {oL kL dL mL cL tL : Value}
    (z_abs : PySem.W.nsIn K mainGlobals "abs" = some none)
    (z_bool : PySem.W.nsIn K mainGlobals "bool" = some none)
    (z_enumerate : PySem.W.nsIn K mainGlobals "enumerate" = some none)
    (z_int : PySem.W.nsIn K mainGlobals "int" = some none)
    (z_isinstance : PySem.W.nsIn K mainGlobals "isinstance" = some none)
    (z_len : PySem.W.nsIn K mainGlobals "len" = some none)
    (z_list : PySem.W.nsIn K mainGlobals "list" = some none)
    (z_max : PySem.W.nsIn K mainGlobals "max" = some none)
    (z_range : PySem.W.nsIn K mainGlobals "range" = some none)
    (z_sum : PySem.W.nsIn K mainGlobals "sum" = some none)
    (z_tuple : PySem.W.nsIn K mainGlobals "tuple" = some none)
    (g_CELLS : PySem.W.nsIn K mainGlobals "CELLS" = some (some (.int 64 tkC)))
    (g_KINDS : PySem.W.nsIn K mainGlobals "KINDS" = some (some (.int 12 tkK)))
    (g_LINES : PySem.W.nsIn K mainGlobals "LINES" = some (some (.int 1000000 tkL)))
    (aB : PySem.W.nsIn K mainGlobals "ComesError" = some (some (.ref CB)))
    (rB : PySem.W.readsIn K CB (.type "type") = true)
    (sB : PySem.W.specialIn K (.ref CB) "__getattribute__" = some (some (.builtin "type.__getattribute__")))
    (vB : PySem.W.findCls K (.ref CB) (.type "type") "__init__" = some (.val (.builtin "ValueError.__init__")))
    (aT : PySem.W.nsIn K mainGlobals "TooMany" = some (some (.ref CT)))
    (xT : K.lookup CT = some (excClassObj nmT qT CT NT bsT [.ref CB, .type "ValueError", .type "Exception", .type "BaseException", .type "object"] true snT subT abT colT ddT maT mbT mcT mdT meT "ValueError.__new__"))
    (saT : PySem.W.findIn K (.ref CT) "__setattr__" = some (some (.builtin "object.__setattr__")))
    (gaT : PySem.W.findIn K (.ref CT) "__getattribute__" = some (some (.builtin "BaseException.__getattribute__")))
    (ggT : PySem.W.findIn K (.ref CT) "__getattr__" = some none)
    (noT : PySem.W.findIn K (.ref CT) "what" = some none)
    (iT : PySem.W.findIn K (.ref CT) "__init__" = some (some (.ref fT)))
    (tyT : PySem.W.typeIn K (.ref fT) = some (.type "function"))
    (lT : K.lookup fT = some ⟨ocT, odT, .func (PySem.W.fnOf "__init__" "TooMany.__init__" (defArgs s_TooMany___init__) (defBody s_TooMany___init__) (defScope s_TooMany___init__) .none kvT dcT pmT anT cdT ctT), slT⟩)
    (cT : PySem.W.codeIn K cdT "TooMany.__init__" = true)
    (kfT : PySem.W.keepIn K (.ref fT) = true)
    (kCT : PySem.W.keepIn K (.ref CT) = true)
    (eCT : PySem.W.subIn K (.ref CT) (.type "BaseException") = some true)
    (tCT : PySem.W.typeIn K (.ref CT) = some (.type "type"))
    (hCT : PySem.W.hasDictIn K CT = true)
    (iCT : PySem.W.isClsIn K CT = true)
    (sCT : PySem.W.subIn K (.ref CT) (.ref CT) = some true)
    (aW : PySem.W.nsIn K mainGlobals "BadStyle" = some (some (.ref CW)))
    (xW : K.lookup CW = some (excClassObj nmW qW CW NW bsW [.ref CB, .type "ValueError", .type "Exception", .type "BaseException", .type "object"] true snW subW abW colW ddW maW mbW mcW mdW meW "ValueError.__new__"))
    (saW : PySem.W.findIn K (.ref CW) "__setattr__" = some (some (.builtin "object.__setattr__")))
    (gaW : PySem.W.findIn K (.ref CW) "__getattribute__" = some (some (.builtin "BaseException.__getattribute__")))
    (ggW : PySem.W.findIn K (.ref CW) "__getattr__" = some none)
    (noW : PySem.W.findIn K (.ref CW) "name" = some none)
    (noW1 : PySem.W.findIn K (.ref CW) "what" = some none)
    (iW : PySem.W.findIn K (.ref CW) "__init__" = some (some (.ref fW)))
    (tyW : PySem.W.typeIn K (.ref fW) = some (.type "function"))
    (lW : K.lookup fW = some ⟨ocW, odW, .func (PySem.W.fnOf "__init__" "BadStyle.__init__" (defArgs s_BadStyle___init__) (defBody s_BadStyle___init__) (defScope s_BadStyle___init__) .none kvW dcW pmW anW cdW ctW), slW⟩)
    (cW : PySem.W.codeIn K cdW "BadStyle.__init__" = true)
    (kfW : PySem.W.keepIn K (.ref fW) = true)
    (kCW : PySem.W.keepIn K (.ref CW) = true)
    (eCW : PySem.W.subIn K (.ref CW) (.type "BaseException") = some true)
    (tCW : PySem.W.typeIn K (.ref CW) = some (.type "type"))
    (hCW : PySem.W.hasDictIn K CW = true)
    (iCW : PySem.W.isClsIn K CW = true)
    (sCW : PySem.W.subIn K (.ref CW) (.ref CW) = some true)
    (nWT : PySem.W.subIn K (.ref CW) (.ref CT) = some false)
    (gK_BadRuler : PySem.W.nsIn K mainGlobals "BadRuler" = some (some (.ref CBadRuler)))
    (gK_BadWords : PySem.W.nsIn K mainGlobals "BadWords" = some (some (.ref CBadWords)))
    (gK_BadBook : PySem.W.nsIn K mainGlobals "BadBook" = some (some (.ref CBadBook)))
    (gK_BadTold : PySem.W.nsIn K mainGlobals "BadTold" = some (some (.ref CBadTold)))
    (gK_BadPlan : PySem.W.nsIn K mainGlobals "BadPlan" = some (some (.ref CBadPlan)))
    (gK_BadText : PySem.W.nsIn K mainGlobals "BadText" = some (some (.ref CBadText)))
    (gK_BadCommand : PySem.W.nsIn K mainGlobals "BadCommand" = some (some (.ref CBadCommand)))
    (eN_BadRuler : PySem.W.subIn K (.ref CBadRuler) (.type "BaseException") = some true)
    (iN_BadRuler : PySem.W.isClsIn K CBadRuler = true)
    (tN_BadRuler : PySem.W.typeIn K (.ref CBadRuler) = some (.type "type"))
    (nN_W_BadRuler : PySem.W.subIn K (.ref CW) (.ref CBadRuler) = some false)
    (a1 : PySem.W.nsIn K mainGlobals "is_whole" = some (some (.ref p1)))
    (l1 : K.lookup p1 = some ⟨o1, e1, .func (PySem.W.fnOf "is_whole" "is_whole" (defArgs s_is_whole) (defBody s_is_whole) (defScope s_is_whole) .none k1 d1 m1 n1 c1 t1), v1⟩)
    (c1x : PySem.W.codeIn K c1 "is_whole" = true)
    (k1x : PySem.W.keepIn K (.ref p1) = true)
    (a2 : PySem.W.nsIn K mainGlobals "check_most" = some (some (.ref p2)))
    (l2 : K.lookup p2 = some ⟨o2, e2, .func (PySem.W.fnOf "check_most" "check_most" (defArgs s_check_most) (defBody s_check_most) (defScope s_check_most) .none k2 d2 m2 n2 c2 t2), v2⟩)
    (c2x : PySem.W.codeIn K c2 "check_most" = true)
    (k2x : PySem.W.keepIn K (.ref p2) = true)
    (a3 : PySem.W.nsIn K mainGlobals "check_numbers" = some (some (.ref p3)))
    (l3 : K.lookup p3 = some ⟨o3, e3, .func (PySem.W.fnOf "check_numbers" "check_numbers" (defArgs s_check_numbers) (defBody s_check_numbers) (defScope s_check_numbers) .none k3 d3 m3 n3 c3 t3), v3⟩)
    (c3x : PySem.W.codeIn K c3 "check_numbers" = true)
    (k3x : PySem.W.keepIn K (.ref p3) = true)
    (a4 : PySem.W.nsIn K mainGlobals "plain_table" = some (some (.ref p4)))
    (l4 : K.lookup p4 = some ⟨o4, e4, .func (PySem.W.fnOf "plain_table" "plain_table" (defArgs s_plain_table) (defBody s_plain_table) (defScope s_plain_table) .none k4 d4 m4 n4 c4 t4), v4⟩)
    (c4x : PySem.W.codeIn K c4 "plain_table" = true)
    (k4x : PySem.W.keepIn K (.ref p4) = true)
    (a5 : PySem.W.nsIn K mainGlobals "check_price_rows" = some (some (.ref p5)))
    (l5 : K.lookup p5 = some ⟨o5, e5, .func (PySem.W.fnOf "check_price_rows" "check_price_rows" (defArgs s_check_price_rows) (defBody s_check_price_rows) (defScope s_check_price_rows) .none k5 d5 m5 n5 c5 t5), v5⟩)
    (c5x : PySem.W.codeIn K c5 "check_price_rows" = true)
    (k5x : PySem.W.keepIn K (.ref p5) = true)
    (a6 : PySem.W.nsIn K mainGlobals "pad_for_falls" = some (some (.ref p6)))
    (l6 : K.lookup p6 = some ⟨o6, e6, .func (PySem.W.fnOf "pad_for_falls" "pad_for_falls" (defArgs s_pad_for_falls) (defBody s_pad_for_falls) (defScope s_pad_for_falls) .none k6 d6 m6 n6 c6 t6), v6⟩)
    (c6x : PySem.W.codeIn K c6 "pad_for_falls" = true)
    (k6x : PySem.W.keepIn K (.ref p6) = true)
    (a7 : PySem.W.nsIn K mainGlobals "pad_for_leaps" = some (some (.ref p7)))
    (l7 : K.lookup p7 = some ⟨o7, e7, .func (PySem.W.fnOf "pad_for_leaps" "pad_for_leaps" (defArgs s_pad_for_leaps) (defBody s_pad_for_leaps) (defScope s_pad_for_leaps) .none k7 d7 m7 n7 c7 t7), v7⟩)
    (c7x : PySem.W.codeIn K c7 "pad_for_leaps" = true)
    (k7x : PySem.W.keepIn K (.ref p7) = true)
    (a8 : PySem.W.nsIn K mainGlobals "priced" = some (some (.ref p8)))
    (l8 : K.lookup p8 = some ⟨o8, e8, .func (PySem.W.fnOf "priced" "priced" (defArgs s_priced) (defBody s_priced) (defScope s_priced) .none k8 d8 m8 n8 c8 t8), v8⟩)
    (c8x : PySem.W.codeIn K c8 "priced" = true)
    (k8x : PySem.W.keepIn K (.ref p8) = true)
    (a9 : PySem.W.nsIn K mainGlobals "least_pads" = some (some (.ref p9)))
    (l9 : K.lookup p9 = some ⟨o9, e9, .func (PySem.W.fnOf "least_pads" "least_pads" (defArgs s_least_pads) (defBody s_least_pads) (defScope s_least_pads) .none k9 d9 m9 n9 c9 t9), v9⟩)
    (c9x : PySem.W.codeIn K c9 "least_pads" = true)
    (k9x : PySem.W.keepIn K (.ref p9) = true)
    (a10 : PySem.W.nsIn K mainGlobals "_law_purse" = some (some (.ref p10)))
    (l10 : K.lookup p10 = some ⟨o10, e10, .func (PySem.W.fnOf "_law_purse" "_law_purse" (defArgs s__law_purse) (defBody s__law_purse) (defScope s__law_purse) .none k10 d10 m10 n10 c10 t10), v10⟩)
    (c10x : PySem.W.codeIn K c10 "_law_purse" = true)
    (k10x : PySem.W.keepIn K (.ref p10) = true)
    (a11 : PySem.W.nsIn K mainGlobals "_law_draw" = some (some (.ref p11)))
    (l11 : K.lookup p11 = some ⟨o11, e11, .func (PySem.W.fnOf "_law_draw" "_law_draw" (defArgs s__law_draw) (defBody s__law_draw) (defScope s__law_draw) .none k11 d11 m11 n11 c11 t11), v11⟩)
    (c11x : PySem.W.codeIn K c11 "_law_draw" = true)
    (k11x : PySem.W.keepIn K (.ref p11) = true)
    (a12 : PySem.W.nsIn K mainGlobals "_law_couples" = some (some (.ref p12)))
    (l12 : K.lookup p12 = some ⟨o12, e12, .func (PySem.W.fnOf "_law_couples" "_law_couples" (defArgs s__law_couples) (defBody s__law_couples) (defScope s__law_couples) .none k12 d12 m12 n12 c12 t12), v12⟩)
    (c12x : PySem.W.codeIn K c12 "_law_couples" = true)
    (k12x : PySem.W.keepIn K (.ref p12) = true)
    (a13 : PySem.W.nsIn K mainGlobals "_law_padded" = some (some (.ref p13)))
    (l13 : K.lookup p13 = some ⟨o13, e13, .func (PySem.W.fnOf "_law_padded" "_law_padded" (defArgs s__law_padded) (defBody s__law_padded) (defScope s__law_padded) .none k13 d13 m13 n13 c13 t13), v13⟩)
    (c13x : PySem.W.codeIn K c13 "_law_padded" = true)
    (k13x : PySem.W.keepIn K (.ref p13) = true)
    (a14 : PySem.W.nsIn K mainGlobals "_law_falls" = some (some (.ref p14)))
    (l14 : K.lookup p14 = some ⟨o14, e14, .func (PySem.W.fnOf "_law_falls" "_law_falls" (defArgs s__law_falls) (defBody s__law_falls) (defScope s__law_falls) .none k14 d14 m14 n14 c14 t14), v14⟩)
    (c14x : PySem.W.codeIn K c14 "_law_falls" = true)
    (k14x : PySem.W.keepIn K (.ref p14) = true)
    (a15 : PySem.W.nsIn K mainGlobals "_law_leaps" = some (some (.ref p15)))
    (l15 : K.lookup p15 = some ⟨o15, e15, .func (PySem.W.fnOf "_law_leaps" "_law_leaps" (defArgs s__law_leaps) (defBody s__law_leaps) (defScope s__law_leaps) .none k15 d15 m15 n15 c15 t15), v15⟩)
    (c15x : PySem.W.codeIn K c15 "_law_leaps" = true)
    (k15x : PySem.W.keepIn K (.ref p15) = true)
    (a16 : PySem.W.nsIn K mainGlobals "_law_all_pads" = some (some (.ref p16)))
    (l16 : K.lookup p16 = some ⟨o16, e16, .func (PySem.W.fnOf "_law_all_pads" "_law_all_pads" (defArgs s__law_all_pads) (defBody s__law_all_pads) (defScope s__law_all_pads) .none k16 d16 m16 n16 c16 t16), v16⟩)
    (c16x : PySem.W.codeIn K c16 "_law_all_pads" = true)
    (k16x : PySem.W.keepIn K (.ref p16) = true)
    (a17 : PySem.W.nsIn K mainGlobals "_law_marks" = some (some (.ref p17)))
    (l17 : K.lookup p17 = some ⟨o17, e17, .func (PySem.W.fnOf "_law_marks" "_law_marks" (defArgs s__law_marks) (defBody s__law_marks) (defScope s__law_marks) .none k17 d17 m17 n17 c17 t17), v17⟩)
    (c17x : PySem.W.codeIn K c17 "_law_marks" = true)
    (k17x : PySem.W.keepIn K (.ref p17) = true)
    (a18 : PySem.W.nsIn K mainGlobals "_law_cheapest" = some (some (.ref p18)))
    (l18 : K.lookup p18 = some ⟨o18, e18, .func (PySem.W.fnOf "_law_cheapest" "_law_cheapest" (defArgs s__law_cheapest) (defBody s__law_cheapest) (defScope s__law_cheapest) .none k18 d18 m18 n18 c18 t18), v18⟩)
    (c18x : PySem.W.codeIn K c18 "_law_cheapest" = true)
    (k18x : PySem.W.keepIn K (.ref p18) = true)
    (a19 : PySem.W.nsIn K mainGlobals "_law_least_of" = some (some (.ref p19)))
    (l19 : K.lookup p19 = some ⟨o19, e19, .func (PySem.W.fnOf "_law_least_of" "_law_least_of" (defArgs s__law_least_of) (defBody s__law_least_of) (defScope s__law_least_of) .none k19 d19 m19 n19 c19 t19), v19⟩)
    (c19x : PySem.W.codeIn K c19 "_law_least_of" = true)
    (k19x : PySem.W.keepIn K (.ref p19) = true)
    (a20 : PySem.W.nsIn K mainGlobals "_law_due" = some (some (.ref p20)))
    (l20 : K.lookup p20 = some ⟨o20, e20, .func (PySem.W.fnOf "_law_due" "_law_due" (defArgs s__law_due) (defBody s__law_due) (defScope s__law_due) .none k20 d20 m20 n20 c20 t20), v20⟩)
    (c20x : PySem.W.codeIn K c20 "_law_due" = true)
    (k20x : PySem.W.keepIn K (.ref p20) = true)
    (a21 : PySem.W.nsIn K mainGlobals "_law_price_row" = some (some (.ref p21)))
    (l21 : K.lookup p21 = some ⟨o21, e21, .func (PySem.W.fnOf "_law_price_row" "_law_price_row" (defArgs s__law_price_row) (defBody s__law_price_row) (defScope s__law_price_row) .none k21 d21 m21 n21 c21 t21), v21⟩)
    (c21x : PySem.W.codeIn K c21 "_law_price_row" = true)
    (k21x : PySem.W.keepIn K (.ref p21) = true)
    (a22 : PySem.W.nsIn K mainGlobals "_law_mix" = some (some (.ref p22)))
    (l22 : K.lookup p22 = some ⟨o22, e22, .func (PySem.W.fnOf "_law_mix" "_law_mix" (defArgs s__law_mix) (defBody s__law_mix) (defScope s__law_mix) .none k22 d22 m22 n22 c22 t22), v22⟩)
    (c22x : PySem.W.codeIn K c22 "_law_mix" = true)
    (k22x : PySem.W.keepIn K (.ref p22) = true)
    (a23 : PySem.W.nsIn K mainGlobals "_law_priced_right" = some (some (.ref p23)))
    (l23 : K.lookup p23 = some ⟨o23, e23, .func (PySem.W.fnOf "_law_priced_right" "_law_priced_right" (defArgs s__law_priced_right) (defBody s__law_priced_right) (defScope s__law_priced_right) .none k23 d23 m23 n23 c23 t23), v23⟩)
    (c23x : PySem.W.codeIn K c23 "_law_priced_right" = true)
    (k23x : PySem.W.keepIn K (.ref p23) = true)
    (a24 : PySem.W.nsIn K mainGlobals "_law_refused" = some (some (.ref p24)))
    (l24 : K.lookup p24 = some ⟨o24, e24, .func (PySem.W.fnOf "_law_refused" "_law_refused" (defArgs s__law_refused) (defBody s__law_refused) (defScope s__law_refused) .none k24 d24 m24 n24 c24 t24), v24⟩)
    (c24x : PySem.W.codeIn K c24 "_law_refused" = true)
    (k24x : PySem.W.keepIn K (.ref p24) = true)
    (a25 : PySem.W.nsIn K mainGlobals "_law_refusals" = some (some (.ref p25)))
    (l25 : K.lookup p25 = some ⟨o25, e25, .func (PySem.W.fnOf "_law_refusals" "_law_refusals" (defArgs s__law_refusals) (defBody s__law_refusals) (defScope s__law_refusals) .none k25 d25 m25 n25 (.ref cL__law_refusals) t25), v25⟩)
    (c25x : PySem.W.codeIn K (.ref cL__law_refusals) "_law_refusals" = true)
    (lt25 : K.lookup cL__law_refusals = some ⟨wA25, wB25, .fields wC25, wD25⟩)
    (hv25 : wC25[11]? = some (.ref PL__law_refusals))
    (nl25 : K.lookup PL__law_refusals = none)
    (k25x : PySem.W.keepIn K (.ref p25) = true)
    (aK_Table : PySem.W.nsIn K mainGlobals "Table" = some (some (.ref CTable)))
    (pg_Table : PySem.W.plainGet K CTable Str.empty = true)
    (hd_Table : PySem.W.hasDictIn K CTable = true)
    (po_Table : PySem.W.plainOver K CTable = true)
    (sa_Table : PySem.W.findIn K (.ref CTable) "__setattr__" = some (some (.builtin "object.__setattr__")))
    (kc_Table : PySem.W.keepIn K (.ref CTable) = true)
    (mk_Table : PySem.W.makesIn K CTable = true)
    (nf_Table_span_rows : PySem.W.findIn K (.ref CTable) "span_rows" = some none)
    (nf_Table_free_lines : PySem.W.findIn K (.ref CTable) "free_lines" = some none)
    (aK_Block : PySem.W.nsIn K mainGlobals "Block" = some (some (.ref CBlock)))
    (pg_Block : PySem.W.plainGet K CBlock Str.empty = true)
    (hd_Block : PySem.W.hasDictIn K CBlock = true)
    (po_Block : PySem.W.plainOver K CBlock = true)
    (sa_Block : PySem.W.findIn K (.ref CBlock) "__setattr__" = some (some (.builtin "object.__setattr__")))
    (kc_Block : PySem.W.keepIn K (.ref CBlock) = true)
    (mk_Block : PySem.W.makesIn K CBlock = true)
    (nf_Block_line_many : PySem.W.findIn K (.ref CBlock) "line_many" = some none)
    (nf_Block_pad_lines : PySem.W.findIn K (.ref CBlock) "pad_lines" = some none)
    (aM0 : PySem.W.findIn K (.ref CTable) "__init__" = some (some (.ref pM0)))
    (iM0 : PySem.W.isFn K (.ref pM0) = true)
    (lM0 : K.lookup pM0 = some ⟨oM0, eM0, .func (PySem.W.fnOf "__init__" "Table.__init__" (defArgs s_Table___init__) (defBody s_Table___init__) (defScope s_Table___init__) (.ref dM0) kM0 dcM0 mM0 nM0 cM0 tM0), vM0⟩)
    (lD0 : K.lookup dM0 = some ⟨.type "tuple", eD0, .seq #[.int 0 tD0_0] nD0, vD0⟩)
    (cM0x : PySem.W.codeIn K cM0 "Table.__init__" = true)
    (kM0x : PySem.W.keepIn K (.ref pM0) = true)
    (aM1 : PySem.W.findIn K (.ref CBlock) "__init__" = some (some (.ref pM1)))
    (iM1 : PySem.W.isFn K (.ref pM1) = true)
    (lM1 : K.lookup pM1 = some ⟨oM1, eM1, .func (PySem.W.fnOf "__init__" "Block.__init__" (defArgs s_Block___init__) (defBody s_Block___init__) (defScope s_Block___init__) .none kM1 dcM1 mM1 nM1 cM1 tM1), vM1⟩)
    (cM1x : PySem.W.codeIn K cM1 "Block.__init__" = true)
    (kM1x : PySem.W.keepIn K (.ref pM1) = true)
    (rc__law_refusals : ((recsOf q0).find? fun e => e.name == ("_law_refusals" : Str)).isSome = true)
    (aL : PySem.W.nsIn K mainGlobals "law" = some (some (.ref pL)))
    (lL : K.lookup pL = some ⟨oL, eL, .func (PySem.W.fnOf "law" "law" (defArgs s_law) (defBody s_law) (defScope s_law) .none kL dL mL nL cL tL), vL⟩)
    (cLx : PySem.W.codeIn K cL "law" = true)
    (kLx : PySem.W.keepIn K (.ref pL) = true)
    : ∃ (fd : FuncData) (cs : List (Addr × Addr)), (∀ p ∈ cs, (∃ x, ((recsOf q0).find? fun e => e.name == x).isSome = true ∧ PySem.W.tabIn K x = some p) ∧ K.lookup p.2 = none) ∧ (∀ (s : Shared) (v : Value), BindsTo s fd ⟨[v], []⟩ [("script", v)]) ∧ ∀ base : Heap, K.In base → base.Ns mainGlobals mg → (∀ p ∈ cs, LamX.TabB base mg p.1 p.2) → FnOk l.prog w K mg base (L2.CX l.prog w) 14 fa fd ["script"] (spLaw K cs) := by
  have ef := hfa.symm.trans (PySem.W.mg_of X G aL)
  cases ef
  have T : Txt K mg CB tkC tkK tkL  CBadRuler CBadWords CBadBook CBadTold CBadPlan CBadText CBadCommand := { n_abs := PySem.W.mg_none_of X G z_abs, n_bool := PySem.W.mg_none_of X G z_bool, n_enumerate := PySem.W.mg_none_of X G z_enumerate, n_int := PySem.W.mg_none_of X G z_int, n_isinstance := PySem.W.mg_none_of X G z_isinstance, n_len := PySem.W.mg_none_of X G z_len, n_list := PySem.W.mg_none_of X G z_list, n_max := PySem.W.mg_none_of X G z_max, n_range := PySem.W.mg_none_of X G z_range, n_sum := PySem.W.mg_none_of X G z_sum, n_tuple := PySem.W.mg_none_of X G z_tuple, g_CELLS := PySem.W.mg_of X G g_CELLS, g_KINDS := PySem.W.mg_of X G g_KINDS, g_LINES := PySem.W.mg_of X G g_LINES, g_ComesError := PySem.W.mg_of X G aB, rd_ComesError := ⟨rB, sB⟩, vi_ComesError := vB, g_BadRuler := PySem.W.mg_of X G gK_BadRuler, g_BadWords := PySem.W.mg_of X G gK_BadWords, g_BadBook := PySem.W.mg_of X G gK_BadBook, g_BadTold := PySem.W.mg_of X G gK_BadTold, g_BadPlan := PySem.W.mg_of X G gK_BadPlan, g_BadText := PySem.W.mg_of X G gK_BadText, g_BadCommand := PySem.W.mg_of X G gK_BadCommand }
  have A_is_whole : At K mg "is_whole" s_is_whole ["value"] := at_mk X G a1 l1 c1x k1x (fun _ _ _ _ _ _ us hl => match us, hl with | [_], _ => rfl)
  have A_check_most : At K mg "check_most" s_check_most ["what", "many", "most"] := at_mk X G a2 l2 c2x k2x (fun _ _ _ _ _ _ us hl => match us, hl with | [_, _, _], _ => rfl)
  have A_check_numbers : At K mg "check_numbers" s_check_numbers ["what", "numbers", "most"] := at_mk X G a3 l3 c3x k3x (fun _ _ _ _ _ _ us hl => match us, hl with | [_, _, _], _ => rfl)
  have A_plain_table : At K mg "plain_table" s_plain_table ["lengths", "pad"] := at_mk X G a4 l4 c4x k4x (fun _ _ _ _ _ _ us hl => match us, hl with | [_, _], _ => rfl)
  have A_check_price_rows : At K mg "check_price_rows" s_check_price_rows ["rows", "prices"] := at_mk X G a5 l5 c5x k5x (fun _ _ _ _ _ _ us hl => match us, hl with | [_, _], _ => rfl)
  have A_pad_for_falls : At K mg "pad_for_falls" s_pad_for_falls ["row"] := at_mk X G a6 l6 c6x k6x (fun _ _ _ _ _ _ us hl => match us, hl with | [_], _ => rfl)
  have A_pad_for_leaps : At K mg "pad_for_leaps" s_pad_for_leaps ["row"] := at_mk X G a7 l7 c7x k7x (fun _ _ _ _ _ _ us hl => match us, hl with | [_], _ => rfl)
  have A_priced : At K mg "priced" s_priced ["pads", "prices"] := at_mk X G a8 l8 c8x k8x (fun _ _ _ _ _ _ us hl => match us, hl with | [_, _], _ => rfl)
  have A_least_pads : At K mg "least_pads" s_least_pads ["rows", "prices"] := at_mk X G a9 l9 c9x k9x (fun _ _ _ _ _ _ us hl => match us, hl with | [_, _], _ => rfl)
  have A__law_purse : At K mg "_law_purse" s__law_purse ["script", "at"] := at_mk X G a10 l10 c10x k10x (fun _ _ _ _ _ _ us hl => match us, hl with | [_, _], _ => rfl)
  have A__law_draw : At K mg "_law_draw" s__law_draw ["purse", "many"] := at_mk X G a11 l11 c11x k11x (fun _ _ _ _ _ _ us hl => match us, hl with | [_, _], _ => rfl)
  have A__law_couples : At K mg "_law_couples" s__law_couples ["many"] := at_mk X G a12 l12 c12x k12x (fun _ _ _ _ _ _ us hl => match us, hl with | [_], _ => rfl)
  have A__law_padded : At K mg "_law_padded" s__law_padded ["row", "pad"] := at_mk X G a13 l13 c13x k13x (fun _ _ _ _ _ _ us hl => match us, hl with | [_, _], _ => rfl)
  have A__law_falls : At K mg "_law_falls" s__law_falls ["row"] := at_mk X G a14 l14 c14x k14x (fun _ _ _ _ _ _ us hl => match us, hl with | [_], _ => rfl)
  have A__law_leaps : At K mg "_law_leaps" s__law_leaps ["row"] := at_mk X G a15 l15 c15x k15x (fun _ _ _ _ _ _ us hl => match us, hl with | [_], _ => rfl)
  have A__law_all_pads : At K mg "_law_all_pads" s__law_all_pads ["rows"] := at_mk X G a16 l16 c16x k16x (fun _ _ _ _ _ _ us hl => match us, hl with | [_], _ => rfl)
  have A__law_marks : At K mg "_law_marks" s__law_marks ["rows"] := at_mk X G a17 l17 c17x k17x (fun _ _ _ _ _ _ us hl => match us, hl with | [_], _ => rfl)
  have A__law_cheapest : At K mg "_law_cheapest" s__law_cheapest ["rows", "prices"] := at_mk X G a18 l18 c18x k18x (fun _ _ _ _ _ _ us hl => match us, hl with | [_, _], _ => rfl)
  have A__law_least_of : At K mg "_law_least_of" s__law_least_of ["rows", "which"] := at_mk X G a19 l19 c19x k19x (fun _ _ _ _ _ _ us hl => match us, hl with | [_, _], _ => rfl)
  have A__law_due : At K mg "_law_due" s__law_due ["rows", "prices"] := at_mk X G a20 l20 c20x k20x (fun _ _ _ _ _ _ us hl => match us, hl with | [_, _], _ => rfl)
  have A__law_price_row : At K mg "_law_price_row" s__law_price_row ["purse"] := at_mk X G a21 l21 c21x k21x (fun _ _ _ _ _ _ us hl => match us, hl with | [_], _ => rfl)
  have A__law_mix : At K mg "_law_mix" s__law_mix ["purse", "things"] := at_mk X G a22 l22 c22x k22x (fun _ _ _ _ _ _ us hl => match us, hl with | [_, _], _ => rfl)
  have A__law_priced_right : At K mg "_law_priced_right" s__law_priced_right ["rows", "prices"] := at_mk X G a23 l23 c23x k23x (fun _ _ _ _ _ _ us hl => match us, hl with | [_, _], _ => rfl)
  have A__law_refused : At K mg "_law_refused" s__law_refused ["action"] := at_mk X G a24 l24 c24x k24x (fun _ _ _ _ _ _ us hl => match us, hl with | [_], _ => rfl)
  have A__law_refusals : AtL K mg "_law_refusals" s__law_refusals ["purse"] cL__law_refusals := atL_mk X G a25 l25 c25x k25x (fun _ _ _ _ _ _ us hl => match us, hl with | [_], _ => rfl)
  have o_Table : OC K mg "Table" CTable ["span_rows", "free_lines"] := ⟨⟨pg_Table, hd_Table, po_Table, sa_Table⟩, PySem.W.mg_of X G aK_Table, kc_Table, (List.forall_mem_cons.mpr ⟨nf_Table_span_rows, (List.forall_mem_cons.mpr ⟨nf_Table_free_lines, List.forall_mem_nil _⟩)⟩)⟩
  have o_Block : OC K mg "Block" CBlock ["line_many", "pad_lines"] := ⟨⟨pg_Block, hd_Block, po_Block, sa_Block⟩, PySem.W.mg_of X G aK_Block, kc_Block, (List.forall_mem_cons.mpr ⟨nf_Block_line_many, (List.forall_mem_cons.mpr ⟨nf_Block_pad_lines, List.forall_mem_nil _⟩)⟩)⟩
  have FM0 := funD_mk (st := s_Table___init__) lM0 cM0x
  have bM0 : Binds K (PySem.W.fnOf "__init__" "Table.__init__" (defArgs s_Table___init__) (defBody s_Table___init__) (defScope s_Table___init__) (.ref dM0) kM0 dcM0 mM0 nM0 cM0 tM0) ["self", "spans", "free"] [.int 0 tD0_0] := binds_dd (its := [.int 0 tD0_0]) (m := 2) lD0 rfl rfl (fun us hl => match us, hl with | [_, _], _ => ⟨_, rfl, rfl⟩)
  have A_Table : AtID K mg "Table" CTable "Table.__init__" s_Table___init__ ["self", "spans", "free"] [.int 0] := ⟨_, _, [.int 0 tD0_0], FM0, ⟨mk_Table, aM0, iM0, kc_Table⟩, PySem.W.mg_of X G aK_Table, (.cons ⟨_, rfl⟩ .nil), bM0⟩
  have FM1 := funD_mk (st := s_Block___init__) lM1 cM1x
  have bM1 : Binds K (PySem.W.fnOf "__init__" "Block.__init__" (defArgs s_Block___init__) (defBody s_Block___init__) (defScope s_Block___init__) .none kM1 dcM1 mM1 nM1 cM1 tM1) ["self", "lines", "pad"] [] := .all (fun us hl => match us, hl with | [_, _, _], _ => rfl)
  have A_Block : AtI K mg "Block" CBlock "Block.__init__" s_Block___init__ ["self", "lines", "pad"] := ⟨_, _, FM1, ⟨mk_Block, aM1, iM1, kc_Block⟩, PySem.W.mg_of X G aK_Block, bM1⟩
  have FL := fun_mk (st := s_law) lL cLx kLx
  refine ⟨PySem.W.fnOf "law" "law" (defArgs s_law) (defBody s_law) (defScope s_law) .none kL dL mL nL cL tL, [(cL__law_refusals, PL__law_refusals)], ?_, fun s v => .of_eq rfl, fun base _ _ hTB => ?_⟩
  · exact List.forall_mem_cons.mpr ⟨⟨⟨_, rc__law_refusals, tab_mk a25 l25 lt25 hv25⟩, nl25⟩, fun _ z => (List.not_mem_nil z).elim⟩
  have TB__law_refusals := hTB _ ( List.mem_cons_self)
  have oT : OexC K CT := ⟨⟨nmT, qT, NT, bsT, _, snT, subT, abT, colT, ddT, maT, mbT, mcT, mdT, meT, xT, rfl⟩, saT, eCT, tCT, kCT⟩
  have FT := fun_mk (st := s_TooMany___init__) lT cT kfT
  have bT := FT.binds (ps := ["self", "what"]) (fun _ _ _ _ _ _ us hl => match us, hl with | [_, _], _ => rfl)
  have x_TooMany : Exn l.prog w K mg base "TooMany" "what" CT := ⟨oT, PySem.W.mg_of X G aT, ⟨fT, _, iT, tyT, ok_initT T FT oT noT, bT⟩, ⟨gaT, ggT, eCT, hCT⟩, noT, exm_self eCT iCT tCT sCT⟩
  have oW : OexC K CW := ⟨⟨nmW, qW, NW, bsW, _, snW, subW, abW, colW, ddW, maW, mbW, mcW, mdW, meW, xW, rfl⟩, saW, eCW, tCW, kCW⟩
  have FW := fun_mk (st := s_BadStyle___init__) lW cW kfW
  have bW := FW.binds (ps := ["self", "name", "what"]) (fun _ _ _ _ _ _ us hl => match us, hl with | [_, _, _], _ => rfl)
  have x_BadStyle : Exn2 l.prog w K mg base "BadStyle" "name" "what" CW := ⟨oW, PySem.W.mg_of X G aW, ⟨fW, _, iW, tyW, ok_initW T FW oW noW noW1, bW⟩, ⟨gaW, ggW, eCW, hCW⟩, noW, noW1, exm_self eCW iCW tCW sCW⟩
  have x_WT : PySem.W.exmOne K (.ref CW) (.ref CT) = some false := exm_not eCT iCT tCT nWT
  have x_WBadRuler : PySem.W.exmOne K (.ref CW) (.ref CBadRuler) = some false := exm_not eN_BadRuler iN_BadRuler tN_BadRuler nN_W_BadRuler
  have d_is_whole : Def l.prog w K mg base "is_whole" 1 ["value"] spIsWhole := ok_is_whole T A_is_whole
  have d_check_most : Def l.prog w K mg base "check_most" 3 ["what", "many", "most"] (spMost CT CW) := ok_check_most T A_check_most x_TooMany d_is_whole
  have d_check_numbers : Def l.prog w K mg base "check_numbers" 4 ["what", "numbers", "most"] (spNums K CT CW) := ok_check_numbers T A_check_numbers d_check_most
  have d_check_most0 : Def l.prog w K mg base "check_most" 2 ["what", "many", "most"] spMost0 := ok_check_most0 T A_check_most d_is_whole
  have d_check_numbers0 : Def l.prog w K mg base "check_numbers" 3 ["what", "numbers", "most"] (spNums0 K) := ok_check_numbers0 T A_check_numbers d_check_most0
  have d_check_numbersT : Def l.prog w K mg base "check_numbers" 3 ["what", "numbers", "most"] (spNumsT K) := ok_check_numbersT T A_check_numbers d_check_most0
  have d_Table : DID l.prog w K mg base "Table" CTable 4 ["self", "spans", "free"] [.int 0] (spTable K CTable) := ok_Table_init T A_Table o_Table d_check_most0 d_check_numbersT
  have d_Block : DI l.prog w K mg base "Block" CBlock 5 ["self", "lines", "pad"] (spBlock CT CW CBlock) := ok_Block_init T A_Block o_Block x_BadStyle d_check_numbers
  have d_plain_table : Def l.prog w K mg base "plain_table" 6 ["lengths", "pad"] (spPlain K CT CW) := ok_plain T A_plain_table x_BadStyle d_check_most d_check_numbers d_Table
  have d_check_price_rows : Def l.prog w K mg base "check_price_rows" 7 ["rows", "prices"] (spCkRows K CT CW) := ok_ckrows T A_check_price_rows d_check_most d_check_numbers d_plain_table d_Block
  have d_pad_for_falls : Def l.prog w K mg base "pad_for_falls" 1 ["row"] (spPadF K) := ok_padf T A_pad_for_falls
  have d_pad_for_leaps : Def l.prog w K mg base "pad_for_leaps" 1 ["row"] (spPadL K) := ok_padl T A_pad_for_leaps
  have d_priced : Def l.prog w K mg base "priced" 1 ["pads", "prices"] (spPriced K) := ok_priced T A_priced
  have d_least_pads : Def l.prog w K mg base "least_pads" 8 ["rows", "prices"] (spLeast K CT CW) := ok_least T A_least_pads d_check_price_rows d_pad_for_falls d_pad_for_leaps d_priced
  have d__law_purse : Def l.prog w K mg base "_law_purse" 1 ["script", "at"] (spPurse K) := ok_purse T A__law_purse
  have d__law_draw : Def l.prog w K mg base "_law_draw" 1 ["purse", "many"] spDraw := ok_draw T A__law_draw
  have d__law_couples : Def l.prog w K mg base "_law_couples" 1 ["many"] spCouples := ok_couples T A__law_couples
  have d__law_padded : Def l.prog w K mg base "_law_padded" 1 ["row", "pad"] (spPadded K) := ok_padded T A__law_padded
  have d__law_falls : Def l.prog w K mg base "_law_falls" 2 ["row"] (spFalls3 K) := ok_falls T A__law_falls d__law_couples
  have d__law_leaps : Def l.prog w K mg base "_law_leaps" 1 ["row"] (spLeaps3 K) := ok_leaps T A__law_leaps
  have d__law_all_pads : Def l.prog w K mg base "_law_all_pads" 1 ["rows"] (spAll K) := ok_all T A__law_all_pads
  have d__law_marks : Def l.prog w K mg base "_law_marks" 3 ["rows"] (spMarks K) := ok_marks T A__law_marks d__law_padded d__law_falls d__law_leaps
  have d__law_cheapest : Def l.prog w K mg base "_law_cheapest" 4 ["rows", "prices"] (spCheap K) := ok_cheap T A__law_cheapest d__law_marks d__law_all_pads
  have d__law_least_of : Def l.prog w K mg base "_law_least_of" 4 ["rows", "which"] (spLeastOf K) := ok_leastof T A__law_least_of d__law_marks
  have d__law_due : Def l.prog w K mg base "_law_due" 5 ["rows", "prices"] (spDue3 K) := ok_due3 T A__law_due d__law_least_of d__law_cheapest
  have d__law_price_row : Def l.prog w K mg base "_law_price_row" 2 ["purse"] spPriceRow := ok_pricerow T A__law_price_row d__law_draw
  have d__law_mix : Def l.prog w K mg base "_law_mix" 2 ["purse", "things"] (spMix K) := ok_mix T A__law_mix d__law_draw
  have d__law_priced_right : Def l.prog w K mg base "_law_priced_right" 9 ["rows", "prices"] (spPricedR K) := ok_pricedr T A__law_priced_right d_least_pads d__law_due
  have d__law_refusals : Def l.prog w K mg base "_law_refusals" 13 ["purse"] (spRefusals PL__law_refusals) := ok_refusals T A__law_refusals TB__law_refusals A__law_refused x_TooMany x_BadStyle x_WT x_WBadRuler d__law_draw d_least_pads
  exact ok_law T FL d__law_purse d__law_draw d__law_price_row d__law_priced_right d__law_mix d_least_pads d__law_refusals
end K03

open PySem PySem.W PyProof.Rows in
set_option maxRecDepth 100000 in
set_option maxHeartbeats 0 in
theorem PySem.Challenge.cw_comestrue_k03_least_price_among_all_pads_holds : PySem.Challenge.rw_comestrue_k03_least_price_among_all_pads.Holds := by
  w_on; o_law; k_head; (case hw => w_witness2)
  k_fill
  refine Lay.end_ofTs (l := PySem.Challenge.rw_comestrue_k03_least_price_among_all_pads) (k := 14) (sp := K03.spLaw) rfl rfl ⟨rfl, by decide, by decide⟩ (fun w h Y => PySem.W.km_in_of Y) (fun K cs H a ns hl hT hS => ⟨a, ns, rfl, hS, hl, hT, fun _ => rfl⟩) ?F
  case F =>
    intro w mg fa h KX G hmg
    refine' K03.all_mk KX G hmg ?h_z_abs ?h_z_bool ?h_z_enumerate ?h_z_int ?h_z_isinstance ?h_z_len ?h_z_list ?h_z_max ?h_z_range ?h_z_sum ?h_z_tuple ?h_g_CELLS ?h_g_KINDS ?h_g_LINES ?h_aB ?h_rB ?h_sB ?h_vB ?h_aT ?h_xT ?h_saT ?h_gaT ?h_ggT ?h_noT ?h_iT ?h_tyT ?h_lT ?h_cT ?h_kfT ?h_kCT ?h_eCT ?h_tCT ?h_hCT ?h_iCT ?h_sCT ?h_aW ?h_xW ?h_saW ?h_gaW ?h_ggW ?h_noW ?h_noW1 ?h_iW ?h_tyW ?h_lW ?h_cW ?h_kfW ?h_kCW ?h_eCW ?h_tCW ?h_hCW ?h_iCW ?h_sCW ?h_nWT ?h_gK_BadRuler ?h_gK_BadWords ?h_gK_BadBook ?h_gK_BadTold ?h_gK_BadPlan ?h_gK_BadText ?h_gK_BadCommand ?h_eN_BadRuler ?h_iN_BadRuler ?h_tN_BadRuler ?h_nN_W_BadRuler ?h_a1 ?h_l1 ?h_c1x ?h_k1x ?h_a2 ?h_l2 ?h_c2x ?h_k2x ?h_a3 ?h_l3 ?h_c3x ?h_k3x ?h_a4 ?h_l4 ?h_c4x ?h_k4x ?h_a5 ?h_l5 ?h_c5x ?h_k5x ?h_a6 ?h_l6 ?h_c6x ?h_k6x ?h_a7 ?h_l7 ?h_c7x ?h_k7x ?h_a8 ?h_l8 ?h_c8x ?h_k8x ?h_a9 ?h_l9 ?h_c9x ?h_k9x ?h_a10 ?h_l10 ?h_c10x ?h_k10x ?h_a11 ?h_l11 ?h_c11x ?h_k11x ?h_a12 ?h_l12 ?h_c12x ?h_k12x ?h_a13 ?h_l13 ?h_c13x ?h_k13x ?h_a14 ?h_l14 ?h_c14x ?h_k14x ?h_a15 ?h_l15 ?h_c15x ?h_k15x ?h_a16 ?h_l16 ?h_c16x ?h_k16x ?h_a17 ?h_l17 ?h_c17x ?h_k17x ?h_a18 ?h_l18 ?h_c18x ?h_k18x ?h_a19 ?h_l19 ?h_c19x ?h_k19x ?h_a20 ?h_l20 ?h_c20x ?h_k20x ?h_a21 ?h_l21 ?h_c21x ?h_k21x ?h_a22 ?h_l22 ?h_c22x ?h_k22x ?h_a23 ?h_l23 ?h_c23x ?h_k23x ?h_a24 ?h_l24 ?h_c24x ?h_k24x ?h_a25 ?h_l25 ?h_c25x ?h_lt25 ?h_hv25 ?h_nl25 ?h_k25x ?h_aK_Table ?h_pg_Table ?h_hd_Table ?h_po_Table ?h_sa_Table ?h_kc_Table ?h_mk_Table ?h_nf_Table_span_rows ?h_nf_Table_free_lines ?h_aK_Block ?h_pg_Block ?h_hd_Block ?h_po_Block ?h_sa_Block ?h_kc_Block ?h_mk_Block ?h_nf_Block_line_many ?h_nf_Block_pad_lines ?h_aM0 ?h_iM0 ?h_lM0 ?h_lD0 ?h_cM0x ?h_kM0x ?h_aM1 ?h_iM1 ?h_lM1 ?h_cM1x ?h_kM1x ?h_rc__law_refusals ?h_aL ?h_lL ?h_cLx ?h_kLx
    (case h_z_abs => k_is)
    (case h_z_bool => k_is)
    (case h_z_enumerate => k_is)
    (case h_z_int => k_is)
    (case h_z_isinstance => k_is)
    (case h_z_len => k_is)
    (case h_z_list => k_is)
    (case h_z_max => k_is)
    (case h_z_range => k_is)
    (case h_z_sum => k_is)
    (case h_z_tuple => k_is)
    (case h_g_CELLS => k_is)
    (case h_g_KINDS => k_is)
    (case h_g_LINES => k_is)
    (case h_aB => k_is)
    (case h_rB => k_is)
    (case h_sB => k_is)
    (case h_vB => k_is)
    (case h_aT => k_is)
    (case h_xT => k_is)
    (case h_saT => k_is)
    (case h_gaT => k_is)
    (case h_ggT => k_is)
    (case h_noT => k_is)
    (case h_iT => k_is)
    (case h_tyT => k_is)
    (case h_lT => k_is)
    (case h_cT => k_is)
    (case h_kfT => k_is)
    (case h_kCT => k_is)
    (case h_eCT => k_is)
    (case h_tCT => k_is)
    (case h_hCT => k_is)
    (case h_iCT => k_is)
    (case h_sCT => first | rfl | k_is)
    (case h_aW => k_is)
    (case h_xW => k_is)
    (case h_saW => k_is)
    (case h_gaW => k_is)
    (case h_ggW => k_is)
    (case h_noW => k_is)
    (case h_noW1 => k_is)
    (case h_iW => k_is)
    (case h_tyW => k_is)
    (case h_lW => k_is)
    (case h_cW => k_is)
    (case h_kfW => k_is)
    (case h_kCW => k_is)
    (case h_eCW => k_is)
    (case h_tCW => k_is)
    (case h_hCW => k_is)
    (case h_iCW => k_is)
    (case h_sCW => first | rfl | k_is)
    (case h_nWT => k_is)
    (case h_gK_BadRuler => k_is)
    (case h_gK_BadWords => k_is)
    (case h_gK_BadBook => k_is)
    (case h_gK_BadTold => k_is)
    (case h_gK_BadPlan => k_is)
    (case h_gK_BadText => k_is)
    (case h_gK_BadCommand => k_is)
    (case h_eN_BadRuler => k_is)
    (case h_iN_BadRuler => k_is)
    (case h_tN_BadRuler => k_is)
    (case h_nN_W_BadRuler => k_is)
    (case h_a1 => k_is)
    (case h_l1 => k_is)
    (case h_c1x => k_is)
    (case h_k1x => k_is)
    (case h_a2 => k_is)
    (case h_l2 => k_is)
    (case h_c2x => k_is)
    (case h_k2x => k_is)
    (case h_a3 => k_is)
    (case h_l3 => k_is)
    (case h_c3x => k_is)
    (case h_k3x => k_is)
    (case h_a4 => k_is)
    (case h_l4 => k_is)
    (case h_c4x => k_is)
    (case h_k4x => k_is)
    (case h_a5 => k_is)
    (case h_l5 => k_is)
    (case h_c5x => k_is)
    (case h_k5x => k_is)
    (case h_a6 => k_is)
    (case h_l6 => k_is)
    (case h_c6x => k_is)
    (case h_k6x => k_is)
    (case h_a7 => k_is)
    (case h_l7 => k_is)
    (case h_c7x => k_is)
    (case h_k7x => k_is)
    (case h_a8 => k_is)
    (case h_l8 => k_is)
    (case h_c8x => k_is)
    (case h_k8x => k_is)
    (case h_a9 => k_is)
    (case h_l9 => k_is)
    (case h_c9x => k_is)
    (case h_k9x => k_is)
    (case h_a10 => k_is)
    (case h_l10 => k_is)
    (case h_c10x => k_is)
    (case h_k10x => k_is)
    (case h_a11 => k_is)
    (case h_l11 => k_is)
    (case h_c11x => k_is)
    (case h_k11x => k_is)
    (case h_a12 => k_is)
    (case h_l12 => k_is)
    (case h_c12x => k_is)
    (case h_k12x => k_is)
    (case h_a13 => k_is)
    (case h_l13 => k_is)
    (case h_c13x => k_is)
    (case h_k13x => k_is)
    (case h_a14 => k_is)
    (case h_l14 => k_is)
    (case h_c14x => k_is)
    (case h_k14x => k_is)
    (case h_a15 => k_is)
    (case h_l15 => k_is)
    (case h_c15x => k_is)
    (case h_k15x => k_is)
    (case h_a16 => k_is)
    (case h_l16 => k_is)
    (case h_c16x => k_is)
    (case h_k16x => k_is)
    (case h_a17 => k_is)
    (case h_l17 => k_is)
    (case h_c17x => k_is)
    (case h_k17x => k_is)
    (case h_a18 => k_is)
    (case h_l18 => k_is)
    (case h_c18x => k_is)
    (case h_k18x => k_is)
    (case h_a19 => k_is)
    (case h_l19 => k_is)
    (case h_c19x => k_is)
    (case h_k19x => k_is)
    (case h_a20 => k_is)
    (case h_l20 => k_is)
    (case h_c20x => k_is)
    (case h_k20x => k_is)
    (case h_a21 => k_is)
    (case h_l21 => k_is)
    (case h_c21x => k_is)
    (case h_k21x => k_is)
    (case h_a22 => k_is)
    (case h_l22 => k_is)
    (case h_c22x => k_is)
    (case h_k22x => k_is)
    (case h_a23 => k_is)
    (case h_l23 => k_is)
    (case h_c23x => k_is)
    (case h_k23x => k_is)
    (case h_a24 => k_is)
    (case h_l24 => k_is)
    (case h_c24x => k_is)
    (case h_k24x => k_is)
    (case h_a25 => k_is)
    (case h_l25 => k_is)
    (case h_c25x => k_is)
    (case h_lt25 => k_is)
    (case h_hv25 => exact rfl)
    (case h_nl25 => first | exact rfl | with_unfolding_all exact rfl | k_is)
    (case h_k25x => k_is)
    (case h_aK_Table => k_is)
    (case h_pg_Table => k_is)
    (case h_hd_Table => k_is)
    (case h_po_Table => k_is)
    (case h_sa_Table => k_is)
    (case h_kc_Table => k_is)
    (case h_mk_Table => k_is)
    (case h_nf_Table_span_rows => k_is)
    (case h_nf_Table_free_lines => k_is)
    (case h_aK_Block => k_is)
    (case h_pg_Block => k_is)
    (case h_hd_Block => k_is)
    (case h_po_Block => k_is)
    (case h_sa_Block => k_is)
    (case h_kc_Block => k_is)
    (case h_mk_Block => k_is)
    (case h_nf_Block_line_many => k_is)
    (case h_nf_Block_pad_lines => k_is)
    (case h_aM0 => k_is)
    (case h_iM0 => k_is)
    (case h_lM0 => k_is)
    (case h_lD0 => k_is)
    (case h_cM0x => k_is)
    (case h_kM0x => k_is)
    (case h_aM1 => k_is)
    (case h_iM1 => k_is)
    (case h_lM1 => k_is)
    (case h_cM1x => k_is)
    (case h_kM1x => k_is)
    (case h_rc__law_refusals => decide +kernel)
    (case h_aL => k_is)
    (case h_lL => k_is)
    (case h_cLx => k_is)
    (case h_kLx => k_is)
