import PyProof.Rows.All
import Wide.All
import OpenK.AllK
import Wide.FinOn
import HandS.ForMost
import HandS.ForExc
import HandS.Wide
import HandS.Style
import HandS.Defaults
import HandS.IsInst
import HandS.DictComp
import HandS.More
import HandS.Gcd
import HandS.MakeKwOnly
import Flt.RightSqrt
import KE.KExcSuper
import KE.KExcIs
import KE.KIsAll
import HandS.ExcField
import HandS.TryMany
import HandS.HeadHook2
import KE.KStateDown
import HandS.Head0
import HandS.Head1
import HandS.Head2
import HandS.Head3
import HandS.HeadEnd
import HandS.Walk
import HandS.ExcOwn
import PySem.Challenge.RW_livecopy_k40_whole_middle
set_option Elab.async false
set_option linter.all false
set_option maxRecDepth 100000
set_option maxHeartbeats 4000000
/-! The readings, step by step. -/
namespace LK
open PySem PySem.Spec PyProof.Rows L2

def top (i : Nat) : Stmt := PySem.Challenge.pw_livecopy_k40_whole_middle.main.body.getD i (.Pass ⟨0, 0, 0, 0⟩)

/-! ### a def that stands behind the top, called by its name -/
/-- a def of the text at a global name -/
structure Df (K : PySem.W.Frag) (mg : Str → Option Value) (x : Str) (st : Stmt) (dvs : List V) (kws : List (Str × V)) : Prop where
  ex : ∃ (f : Addr) (fd : FuncData), FunD K x x (defArgs st) (defBody st) (defScope st) dvs kws f fd ∧ mg x = some (.ref f)
/-- it keeps its promise -/
structure Cal (P : Program) (w : World) (K : PySem.W.Frag) (mg : Str → Option Value) (base : Heap) (k : Nat) (x : Str) (sp : Sp) : Prop where
  ex : ∃ (f : Addr) (fd : FuncData) (ps : List Str), FnOk P w K mg base (L2.CX P w) k f fd ps sp ∧ mg x = some (.ref f) ∧ PySem.W.keepIn K (.ref f) = true ∧ Binds K fd ps []
/-- a method of the class at C -/
structure Mt (P : Program) (w : World) (K : PySem.W.Frag) (mg : Str → Option Value) (base : Heap) (k : Nat) (C : Addr) (m : Str) (sp : Sp) : Prop where
  ex : ∃ (f : Addr) (fd : FuncData) (ps : List Str), Meth K C m f ∧ FnOk P w K mg base (L2.CX P w) k f fd ps sp ∧ Binds K fd ps []

section
variable {P : Program} {w : World} {K : PySem.W.Frag} {mg : Str → Option Value} {base : Heap}
/-- THE RULE: a def that raises nothing -/
theorem Df.cal {x : Str} {st : Stmt} {N ps : List Str} {k : Nat} {sp : Sp} (F : Df K mg x st [] []) (S : FnScope N ps (defScope st))
    (hb : ∀ (kV doc pm : Value) (an : Option Addr) (cdv ct : Value) (us : List Value), us.length = ps.length → bindArgs (PySem.W.fnOf x x (defArgs st) (defBody st) (defScope st) .none kV doc pm an cdv ct) ⟨us, []⟩ = pure (ps.zip us))
    (len : ∀ vs H Q E, sp vs H Q E → vs.length = ps.length)
    (hbody : ∀ (f : Addr) (cdv : Value) (A : Around) (outer : List Env) (s : Shared) (H : Hp) (vs : List V) (Q : VK) (E : XK), Room k (A.deeper (envOfC x (defScope st) s.heap.objs.size f cdv)) → sp vs H Q E →
      ∃ t, PSs (cxOf (L2.CX P w) P w K mg base N x (defScope st) f cdv A outer s H E).nox (defBody st) t ∧ t { nx := fun _ H' => Q .non H', rt := Q } (start N vs) H) : Cal P w K mg base (k + 1) x sp := by
  obtain ⟨f, fd, F, hm⟩ := F.ex
  refine ⟨f, fd, ps, F.ok S len fun cdv A outer s H vs Q E hr h => ?_, hm, F.kp, F.bindsN hb⟩
  obtain ⟨t, h1, h2⟩ := hbody f cdv A outer s H vs Q E hr h
  exact ⟨t, h1.nox, h2⟩
/-- a def that may raise -/
theorem Df.calX {x : Str} {st : Stmt} {N ps : List Str} {k : Nat} {sp : Sp} (F : Df K mg x st [] []) (S : FnScope N ps (defScope st))
    (hb : ∀ (kV doc pm : Value) (an : Option Addr) (cdv ct : Value) (us : List Value), us.length = ps.length → bindArgs (PySem.W.fnOf x x (defArgs st) (defBody st) (defScope st) .none kV doc pm an cdv ct) ⟨us, []⟩ = pure (ps.zip us))
    (len : ∀ vs H Q E, sp vs H Q E → vs.length = ps.length)
    (hbody : ∀ (f : Addr) (cdv : Value) (A : Around) (outer : List Env) (s : Shared) (H : Hp) (vs : List V) (Q : VK) (E : XK), Room k (A.deeper (envOfC x (defScope st) s.heap.objs.size f cdv)) → sp vs H Q E →
      ∃ t, PSs (cxOf (L2.CX P w) P w K mg base N x (defScope st) f cdv A outer s H E) (defBody st) t ∧ t { nx := fun _ H' => Q .non H', rt := Q } (start N vs) H) : Cal P w K mg base (k + 1) x sp := by
  obtain ⟨f, fd, F, hm⟩ := F.ex
  exact ⟨f, fd, ps, F.ok S len fun cdv A outer s H vs Q E hr h => hbody f cdv A outer s H vs Q E hr h, hm, F.kp, F.bindsN hb⟩
theorem Cal.imp {k : Nat} {x : Str} {sp sp' : Sp} (c : Cal P w K mg base k x sp) (h : ∀ vs H Q E, sp' vs H Q E → sp vs H Q E) : Cal P w K mg base k x sp' := by
  obtain ⟨f, fd, ps, F, r⟩ := c.ex
  exact ⟨f, fd, ps, F.imp h, r⟩
end
section
variable {X : Cx} {k j : Nat} {x m : Str} {sp : Sp} {E : XK} {C : Addr} {p pos apos : Pos} {e o : Expr} {es : List Expr} {t : TA} {ta : TE}
/-- f(e, ..) that raises nothing here -/
theorem pe_c (c : Cal X.prog X.w X.K X.mg X.base k x sp) (hr : Room j X.A) (hk : k ≤ j) (hg : Gl X x) (ha : PA X (e :: es) t)
    (hdb : (x == ("__debug__" : Str)) = false := by decide) (he : starEach (e :: es) X.env = (false, eval e X.env) :: starEach es X.env := by rfl) (hpl : (backTo pos (starEach es X.env)).any (·.1) = false := by rfl) :
    PE X (.Call (.Name x p) (e :: es) [] pos) (tCall sp [] E0 t) := by
  obtain ⟨f, fd, ps, F, hm, kp, b⟩ := c.ex
  exact pe_call F (hr.mono hk) hg hm kp b .nil passL ha hdb he hpl
/-- f(e, ..) that may raise -/
theorem pe_cE (c : Cal X.prog X.w X.K X.mg X.base k x sp) (hr : Room j X.A) (hk : k ≤ j) (hg : Gl X x) (hx : Passes (L2.CX X.prog X.w) X E) (ha : PA X (e :: es) t)
    (hdb : (x == ("__debug__" : Str)) = false := by decide) (he : starEach (e :: es) X.env = (false, eval e X.env) :: starEach es X.env := by rfl) (hpl : (backTo pos (starEach es X.env)).any (·.1) = false := by rfl) :
    PE X (.Call (.Name x p) (e :: es) [] pos) (tCall sp [] E t) := by
  obtain ⟨f, fd, ps, F, hm, kp, b⟩ := c.ex
  exact pe_call F (hr.mono hk) hg hm kp b .nil hx ha hdb he hpl
theorem pe_m {pl : Sem Bool} (he : PE X o ta) (cl : Cls X.K C) (c : Mt X.prog X.w X.K X.mg X.base k C m sp) (hr : Room j X.A) (hk : k ≤ j) (ha : PA X (e :: es) t)
    (hst : starEach (e :: es) X.env = (false, eval e X.env) :: starEach es X.env := by rfl) (hpl : (backTo pos (starEach es X.env)).any (·.1) = false := by rfl)
    (ht : eval (.Call (.Attribute o m apos) (e :: es) [] pos) X.env = (do
      let ov ← eval o X.env
      standAt apos.atName
      let (f, first) ← holding [ov] (getMethod ov m pl)
      callWith pos f first (backTo pos (starEach (e :: es) X.env)) (backToKw pos (keywordEach [] X.env))) := by rfl) :
    PE X (.Call (.Attribute o m apos) (e :: es) [] pos) (tMeth C m sp [] E0 ta t) := by
  obtain ⟨f, fd, ps, M, F, b⟩ := c.ex
  exact pe_meth he cl M F (hr.mono hk) b .nil passL ha hst hpl ht
end

/-! ### heaps -/
/-- all but what X holds is as it was -/
def Frm (X H H' : Hp) : Prop := ∀ b o, X b = none → H b = some o → H' b = some o
/-- apart -/
def Off (X Y : Hp) : Prop := ∀ a, X a ≠ none → Y a = none
def one (a : Addr) (o : HO) : Hp := fun b => if b = a then some o else none
theorem Same.new {H : Hp} {p : Addr} {o : HO} (h : H p = none) : Same H (upd H p o) := fun b u e => by
  rw [upd_ne (ne_of_none e h)]; exact e
/-- a cell that H does not hold is written -/
theorem Same.upd {H H' : Hp} {p : Addr} {o : HO} (s : Same H H') (h : H p = none) : Same H (upd H' p o) := fun b u e => by
  rw [upd_ne (ne_of_none e h)]; exact s b u e
theorem none_of_upd {H : Hp} {p q : Addr} {o : HO} (h : upd H p o q = none) : H q = none := by
  by_cases e : q = p
  · rw [e, upd_same] at h; cases h
  · rw [upd_ne e] at h; exact h
theorem ne_of_upd {H : Hp} {p q : Addr} {o : HO} (h : upd H p o q = none) : q ≠ p := fun e => by
  rw [e, upd_same] at h; cases h

/-! ### readings: one lemma a construct -/
section
variable {t u : TS} {N B C : L2.St → Hp → Prop} {R : VK} {σ : L2.St} {H : Hp} {Q : VK} {te ta tb tc : TE} {tt tu : TT} {i : Nat} {v : V}
theorem rd_seq (h : t ⟨u ⟨N, R, B, C⟩, R, B, C⟩ σ H) : tSeq t u ⟨N, R, B, C⟩ σ H := h
theorem rd_next (h : N σ H) : tNext ⟨N, R, B, C⟩ σ H := h
theorem rd_asg (h : te σ H fun x H1 => N (σ.set i (some x)) H1) : tAsg te (gName i) ⟨N, R, B, C⟩ σ H := h
theorem rd_drop (h : te σ H fun _ H1 => N σ H1) : tDrop te ⟨N, R, B, C⟩ σ H := h
theorem rd_ret (h : te σ H R) : tRet te ⟨N, R, B, C⟩ σ H := h
theorem rd_if (h : tt σ H fun b H1 => if b = true then t ⟨N, R, B, C⟩ σ H1 else u ⟨N, R, B, C⟩ σ H1) : tIfS tt t u ⟨N, R, B, C⟩ σ H := h
theorem rd_var (e : σ[i]? = some (some v)) (h : Q v H) : tVar i σ H Q := ⟨v, e, h⟩
theorem rd_c (h : Q v H) : tC v σ H Q := h
theorem rd_op {r : R2} (h : ta σ H fun x H1 => tb σ H1 fun y H2 => r x y H2 Q) : tOp r ta tb σ H Q := h
theorem rd_un {r : V → Hp → VK → Prop} (h : ta σ H fun x H1 => r x H1 Q) : tUn r ta σ H Q := h
theorem rd_I0 {g : Int → Int → V} {a b : Int} (h : Q (g a b) H) : rI0 g (.int a) (.int b) H Q := ⟨a, b, rfl, rfl, h⟩
theorem rd_I {c : Int → Int → Prop} {g : Int → Int → V} {a b : Int} (hc : c a b) (h : Q (g a b) H) : rI c g (.int a) (.int b) H Q := ⟨a, b, rfl, rfl, hc, h⟩
theorem rd_U {g : Int → V} {a : Int} (h : Q (g a) H) : rU g (.int a) H Q := ⟨a, rfl, h⟩
theorem dec_int (a b : Int) : decide (V.int a = V.int b) = decide (a = b) := by
  by_cases e : a = b
  · subst e; simp
  · rw [decide_eq_false e, decide_eq_false (fun z => e (V.int.inj z))]
theorem dec_bl (a b : Bool) : decide (V.bl a = V.bl b) = decide (a = b) := by cases a <;> cases b <;> decide
theorem rd_eq {a b : Int} (h : Q (.bl (decide (a = b))) H) : rEq (.int a) (.int b) H Q := ⟨rfl, by rw [dec_int]; exact h⟩
theorem rd_ne {a b : Int} (h : Q (.bl (!decide (a = b))) H) : rNe (.int a) (.int b) H Q := ⟨rfl, by rw [dec_int]; exact h⟩
theorem rd_neB {a b : Bool} (h : Q (.bl (!decide (a = b))) H) : rNe (.bl a) (.bl b) H Q := ⟨rfl, by rw [dec_bl]; exact h⟩
/-- a value that is True or False -/
def asB (Q : Bool → Hp → Prop) : VK := fun x H => ∃ k, x = .bl k ∧ Q k H
theorem rd_asB {Q : Bool → Hp → Prop} {k : Bool} (h : Q k H) : asB Q (.bl k) H := ⟨k, rfl, h⟩
theorem rd_test {Q : Bool → Hp → Prop} (h : te σ H (asB Q)) : tTest te σ H Q := h
theorem rd_tB {Q : Bool → Hp → Prop} (h : te σ H (asB Q)) : tB te σ H Q := h
theorem rd_not {Q : Bool → Hp → Prop} (h : tt σ H fun c H1 => Q (!c) H1) : tNot tt σ H Q := h
theorem rd_and {Q : Bool → Hp → Prop} (h : tt σ H fun c H1 => if c = true then tu σ H1 Q else Q false H1) : tAnd tt tu σ H Q := h
theorem rd_or {Q : Bool → Hp → Prop} (h : tt σ H fun c H1 => if c = true then Q true H1 else tu σ H1 Q) : tOr tt tu σ H Q := h
theorem rd_andV (h : ta σ H (asB fun c H1 => if c = true then tb σ H1 Q else Q (.bl false) H1)) : tAndV ta tb σ H Q := h
theorem rd_orV (h : ta σ H (asB fun c H1 => if c = true then Q (.bl true) H1 else tb σ H1 Q)) : tOrV ta tb σ H Q := h
theorem rd_notV (h : ta σ H (asB fun c H1 => Q (.bl (!c)) H1)) : tNotV ta σ H Q := h
theorem rd_ifx (h : tt σ H fun c H1 => if c = true then ta σ H1 Q else tb σ H1 Q) : tIf tt ta tb σ H Q := h
theorem rd_chain {r r' : R2} (h : ta σ H fun x H1 => tb σ H1 fun y H2 => r x y H2 (asB fun k H3 => if k = true then tc σ H3 fun z H4 => r' y z H4 Q else Q (.bl false) H3)) : tChain r r' ta tb tc σ H Q := by
  exact h
theorem rd_nil {Q : List V → Hp → Prop} (h : Q [] H) : tNil σ H Q := h
theorem rd_cons {Q : List V → Hp → Prop} {tr : TA} (h : ta σ H fun x H1 => tr σ H1 fun xs H2 => Q (x :: xs) H2) : tCons ta tr σ H Q := h
theorem rd_call {sp : Sp} {dvs : List V} {E : XK} {tr : TA} (h : tr σ H fun vs H1 => sp (vs ++ dvs) H1 Q E) : tCall sp dvs E tr σ H Q := h
theorem rd_cb {r : List V → Hp → VK → Prop} {tr : TA} (h : tr σ H fun vs H1 => r vs H1 Q) : tCB r tr σ H Q := h
theorem rd_lst {tr : TA} (h : tr σ H fun xs H1 => xs.length ≤ sizeLine ∧ ∀ p, H1 p = none → Q (.ref p) (upd H1 p (.lst xs))) : tLst tr σ H Q := h
theorem rd_tup {tr : TA} (h : tr σ H fun xs H1 => xs.length ≤ sizeLine ∧ ∀ p, H1 p = none → Q (.ref p) (upd H1 p (.tup xs))) : tTup tr σ H Q := h
theorem rd_ite {A B : Prop} {p : Prop} [Decidable p] (h1 : p → A) (h2 : ¬ p → B) : if decide p = true then A else B := by
  by_cases h : p
  · rw [decide_eq_true h]; exact iteT (h1 h)
  · rw [decide_eq_false h]; exact iteF (h2 h)
theorem rd_iteN {A B : Prop} {p : Prop} [Decidable p] (h1 : ¬ p → A) (h2 : p → B) : if (!decide p) = true then A else B := by
  by_cases h : p
  · rw [decide_eq_true h]; exact iteF (h2 h)
  · rw [decide_eq_false h]; exact iteT (h1 h)
theorem rd_iteb {A B : Prop} {b : Bool} (h1 : b = true → A) (h2 : b = false → B) : if b = true then A else B := by
  cases b
  · exact iteF (h2 rfl)
  · exact iteT (h1 rfl)
/-- a list's item -/
theorem rd_ixL {K : PySem.W.Frag} {p : Addr} {xs : List V} {a : Int} (hl : SqL K H p xs) (hi : atI xs a = some v) (h : Q v H) : rIxL K (.ref p) (.int a) H Q := ⟨p, xs, a, v, rfl, rfl, hl, hi, h⟩
theorem rd_ixT {K : PySem.W.Frag} {p : Addr} {xs : List V} {a : Int} (hl : SqT K H p xs) (hi : atI xs a = some v) (h : Q v H) : rIxT K (.ref p) (.int a) H Q := ⟨p, xs, a, v, rfl, rfl, hl, hi, h⟩
end
/-! ### built-in functions: their readings by name -/
def rMin2 : List V → Hp → VK → Prop := fun xs H Q => ∃ i j : Int, xs = [.int i, .int j] ∧ Q (.int (min i j)) H
def rMax2 : List V → Hp → VK → Prop := fun xs H Q => ∃ i j : Int, xs = [.int i, .int j] ∧ Q (.int (max i j)) H
def rAbs : List V → Hp → VK → Prop := fun xs H Q => ∃ i : Int, xs = [.int i] ∧ Q (.int (i.natAbs : Int)) H
def rInt : List V → Hp → VK → Prop := fun xs H Q => ∃ i : Int, xs = [.int i] ∧ Q (.int i) H
def rLenS (K : PySem.W.Frag) : List V → Hp → VK → Prop := fun xs H Q => ∃ p ys, xs = [.ref p] ∧ (SqL K H p ys ∨ SqT K H p ys) ∧ Q (.int ys.length) H
def rList (K : PySem.W.Frag) : List V → Hp → VK → Prop := fun xs H Q => ∃ p ys, xs = [.ref p] ∧ (SqL K H p ys ∨ SqT K H p ys) ∧ ∀ l, H l = none → Q (.ref l) (upd H l (.lst ys))
def rTupL (K : PySem.W.Frag) : List V → Hp → VK → Prop := fun xs H Q => ∃ p ys, xs = [.ref p] ∧ SqL K H p ys ∧ ∀ l, H l = none → Q (.ref l) (upd H l (.tup ys))
section
variable {X : Cx} {H : Hp} {Q : VK}
theorem k_min2 (hc : X.calm = true) : CallR X (.builtin "min") rMin2 := fun pins s σ H xs us Q I r ⟨i, j, e, h⟩ => by
  refine call_min2 hc pins s σ H xs us Q I r ⟨i, j, e, ?_⟩
  have q : (if j < i then j else i) = min i j := by split <;> omega
  rw [q]; exact h
theorem k_max2 (hc : X.calm = true) : CallR X (.builtin "max") rMax2 := fun pins s σ H xs us Q I r ⟨i, j, e, h⟩ => by
  refine call_max2 hc pins s σ H xs us Q I r ⟨i, j, e, ?_⟩
  have q : (if j > i then j else i) = max i j := by split <;> omega
  rw [q]; exact h
theorem k_abs : CallR X (.builtin "abs") rAbs := fun pins s σ H xs us Q I r ⟨i, e, h⟩ => by
  refine call_abs pins s σ H xs us Q I r ⟨i, e, ?_⟩
  have q : (if i < 0 then -i else i) = (i.natAbs : Int) := by split <;> omega
  rw [q]; exact h
theorem k_int : CallR X (.type "int") rInt := fun pins s σ H xs us Q I r ⟨i, e, h⟩ => call_int1 pins s σ H xs us Q I r (.inl ⟨i, e, h⟩)
theorem k_len : CallR X (.builtin "len") (rLenS X.K) := call_len_seq
theorem k_list : CallR X (.type "list") (rList X.K) := call_list_of
theorem k_tup : CallR X (.type "tuple") (rTupL X.K) := fun pins s σ H xs us Q I r ⟨p, ys, e, h1, h2⟩ => call_tuple_of pins s σ H xs us Q I r ⟨p, ys, e, .inl ⟨h1, h2⟩⟩
theorem rd_min {a b : Int} (h : Q (.int (min a b)) H) : rMin2 [.int a, .int b] H Q := ⟨a, b, rfl, h⟩
theorem rd_max {a b : Int} (h : Q (.int (max a b)) H) : rMax2 [.int a, .int b] H Q := ⟨a, b, rfl, h⟩
theorem rd_abs {a : Int} (h : Q (.int (a.natAbs : Int)) H) : rAbs [.int a] H Q := ⟨a, rfl, h⟩
theorem rd_int {a : Int} (h : Q (.int a) H) : rInt [.int a] H Q := ⟨a, rfl, h⟩
theorem rd_lenL {K : PySem.W.Frag} {p : Addr} {ys : List V} (hl : SqL K H p ys) (h : Q (.int ys.length) H) : rLenS K [.ref p] H Q := ⟨p, ys, rfl, .inl hl, h⟩
theorem rd_lenT {K : PySem.W.Frag} {p : Addr} {ys : List V} (hl : SqT K H p ys) (h : Q (.int ys.length) H) : rLenS K [.ref p] H Q := ⟨p, ys, rfl, .inr hl, h⟩
theorem rd_listL {K : PySem.W.Frag} {p : Addr} {ys : List V} (hl : SqL K H p ys) (h : ∀ l, H l = none → Q (.ref l) (upd H l (.lst ys))) : rList K [.ref p] H Q := ⟨p, ys, rfl, .inl hl, h⟩
theorem rd_tupL {K : PySem.W.Frag} {p : Addr} {ys : List V} (hl : SqL K H p ys) (h : ∀ l, H l = none → Q (.ref l) (upd H l (.tup ys))) : rTupL K [.ref p] H Q := ⟨p, ys, rfl, hl, h⟩
end
end LK
set_option maxHeartbeats 4000000
/-! Rules for what the hand layer has none. -/
namespace LK
open PySem PySem.Spec PyProof.Rows L2
section
variable {X : Cx} {H : Hp} {Q : VK}
/-! ### a list's or a tuple's item -/
def rIxQ (K : PySem.W.Frag) : R2 := fun x y H Q => rIxL K x y H Q ∨ rIxT K x y H Q
theorem ix_lt : IxR X (rIxQ X.K) := ix_list.or ix_tup
theorem rd_iL {K : PySem.W.Frag} {p : Addr} {xs : List V} {a : Int} {v : V} (hl : SqL K H p xs) (hi : atI xs a = some v) (h : Q v H) : rIxQ K (.ref p) (.int a) H Q := .inl ⟨p, xs, a, v, rfl, rfl, hl, hi, h⟩
theorem rd_iT {K : PySem.W.Frag} {p : Addr} {xs : List V} {a : Int} {v : V} (hl : SqT K H p xs) (hi : atI xs a = some v) (h : Q v H) : rIxQ K (.ref p) (.int a) H Q := .inr ⟨p, xs, a, v, rfl, rfl, hl, hi, h⟩

/-! ### min, max of a list -/
def rMinL (K : PySem.W.Frag) : List V → Hp → VK → Prop := fun vs H Q => ∃ (a : Addr) (ns : List Int), vs = [V.ref a] ∧ SqL K H a (ns.map V.int) ∧ 0 < ns.length ∧ ∀ m, m ∈ ns → (∀ y, y ∈ ns → m ≤ y) → Q (.int m) H
def rMaxL (K : PySem.W.Frag) : List V → Hp → VK → Prop := fun vs H Q => ∃ (a : Addr) (ns : List Int), vs = [V.ref a] ∧ SqL K H a (ns.map V.int) ∧ 0 < ns.length ∧ ∀ m, m ∈ ns → (∀ y, y ∈ ns → y ≤ m) → Q (.int m) H
theorem k_minL (hc : X.calm = true) : CallR X (.builtin "min") (rMinL X.K) := cr_min hc
theorem k_maxL (hc : X.calm = true) : CallR X (.builtin "max") (rMaxL X.K) := cr_max hc
theorem rd_minL {K : PySem.W.Frag} {a : Addr} {ns : List Int} (hl : SqL K H a (ns.map V.int)) (h0 : 0 < ns.length) (h : ∀ m, m ∈ ns → (∀ y, y ∈ ns → m ≤ y) → Q (.int m) H) : rMinL K [.ref a] H Q := ⟨a, ns, rfl, hl, h0, h⟩
theorem rd_maxL {K : PySem.W.Frag} {a : Addr} {ns : List Int} (hl : SqL K H a (ns.map V.int)) (h0 : 0 < ns.length) (h : ∀ m, m ∈ ns → (∀ y, y ∈ ns → y ≤ m) → Q (.int m) H) : rMaxL K [.ref a] H Q := ⟨a, ns, rfl, hl, h0, h⟩

/-! ### isinstance with a built-in class -/
theorem k_isi : CallR X (.builtin "isinstance") (rIsi X.K) := call_isi
theorem rd_isi {K : PySem.W.Frag} {x : V} {t T : String} {b : Bool} (ty : TyX K H x (.type t)) (e : kitB t T = some b) (h : Q (.bl b) H) : rIsi K [x, .ty T] H Q := ⟨x, .ty T, .type t, .type T, b, rfl, .ty T, ty, kit_ty e, h⟩

/-! ### math.isqrt -/
def rIsqrt : List V → Hp → VK → Prop := fun vs H Q => ∃ n : Nat, vs = [.int (n : Int)] ∧ n < 2 ^ 200 ∧ ∀ m : Nat, m * m ≤ n → n < (m + 1) * (m + 1) → Q (.int (m : Int)) H
theorem k_isqrt : CallR X (.builtin "math.isqrt") rIsqrt := by
  intro pins s σ H vs us Q I r h
  obtain ⟨n, rfl, hn, h⟩ := h
  obtain ⟨u, rfl, t, rfl⟩ := vals1 r
  obtain ⟨s1, s2⟩ := PySem.Float64.isqrt_spec n
  have hl : ((n : Int)).toNat.log2 ≤ 199 := PySem.W.mg_log (by rw [Int.toNat_natCast]; exact hn)
  refine call_function_meets PySem.W.MGF.kind_isqrt PySem.W.MGF.plain_isqrt PySem.W.MGF.entry_isqrt (PySem.W.MGF.args_isqrt _) (PySem.W.mg_run_isqrt (n : Int) t (by omega) (by omega) (by omega)).meets ?_
  rw [Int.toNat_natCast]
  exact ⟨.int _, H, I.tok _, ⟨_, rfl⟩, h _ s1 s2⟩
end

/-! ### an own class's __len__, __contains__ -/
section
variable {X : Cx} {j k : Nat} {C : Addr} {sp : Sp}
/-- a callee run ahead of the heap's answer -/
theorem run_in {A : Around} {pins : List (Addr × Obj)} {σ : L2.St} {H : Hp} {s : Shared} {Q : VK} {f : Addr} {fd : FuncData} {ps : List Str} {us : List Value} {vs : List V} (F : FnOk X.prog X.w X.K X.mg X.base (L2.CX X.prog X.w) k f fd ps sp) (hr : Room k A)
    (e0 : Env0 X.prog X.w X.K X.mg X.base A X.stack s H) (hb : Binds X.K fd ps []) (I : Inv X pins σ H s) (r : Vals vs us) (h : sp vs H Q E0) {E : Value → Shared → Prop} : wpAny (model X.prog X.w) A (call (.ref f) us) (EP X pins σ Q) E s := by
  have hl : us.length = ps.length := by rw [← r.length]; exact F.len _ _ _ _ h
  have b := hb s us I.kIn (by rw [List.append_nil]; exact hl)
  rw [List.append_nil] at b
  refine wpAny_call (codeAny_mono (F.run A X.stack s H ⟨us, []⟩ us vs Q E0 hr e0 b r h) fun r s' hq => ?_)
  cases r with
  | error e =>
    obtain ⟨_, _, _, _, _, _, _, _, _, _, _, _, z⟩ := hq
    exact z.elim
  | ok fl =>
    cases fl with
    | ret u => exact I.after hq
    | next => exact False.elim hq
    | brk => exact False.elim hq
    | cont => exact False.elim hq
def rOwnLen (C : Addr) (sp : Sp) : List V → Hp → VK → Prop := fun xs H Q => ∃ (b dx : Addr) (fs : List (Str × V)), xs = [.ref b] ∧ H b = some (.ins C dx fs) ∧ sp [.ref b] H (fun v H2 => ∃ n : Int, v = .int n ∧ 0 ≤ n ∧ n < 2 ^ 62 ∧ Q (.int n) H2) E0
theorem k_lenOwn (c : Mt X.prog X.w X.K X.mg X.base k C "__len__" sp) (hr : Room (k + 1) X.A) : CallR X (.builtin "len") (rOwnLen C sp) := by
  intro pins s σ H xs us Q I r h
  obtain ⟨b, dx, fs, rfl, hb, h⟩ := h
  obtain ⟨u, rfl, ru⟩ := vals1 r
  obtain rfl : u = Value.ref b := ru
  obtain ⟨f, fd, ps, M, F, bi⟩ := c.ex
  obtain ⟨mA, O, _⟩ := ins_get I.hok hb
  obtain ⟨od, J, _⟩ := O.look
  refine Calls.call_function_entry kind_len plain_len entry_len (args_len1 _) ?_
  unfold Builtin.«len»
  refine wpAny_bind (m := PySem.oneArg "len" _) (wpAny_pure ?_)
  refine wpAny_bind (m := callSpecial? (.ref b) (Str.ofString "__len__")) (PySem.W.special_fn I.kIn J M.at_ (beq_iff_eq.mp M.fn) ?_)
  refine thn (run_in F hr.in1 I.env0.in1 bi I (us := [.ref b]) (vs := [.ref b]) (.cons rfl .nil) h) fun v s1 hv => ?_
  obtain ⟨x, H1, I1, r1, n, ex, h0, h1, q⟩ := hv
  subst ex
  obtain ⟨t, rfl⟩ := r1
  refine wpAny_bind (wpAny_holding (wpAny_pure ?_))
  refine wpAny_bind (wpAny_letGo ?_)
  show wpAny _ _ (if n < 0 then _ else _) _ _ _
  rw [if_neg (by omega)]
  show wpAny _ _ (if n ≥ 2 ^ 63 then _ else _) _ _ _
  rw [if_neg (by omega)]
  exact wpAny_bind (wpAny_mkInt (wpAny_pure ⟨_, rfl, ⟨.int n, H1, I1.tok _, ⟨_, rfl⟩, q⟩⟩))
def rOwnNotIn (C : Addr) (sp : Sp) : R2 := fun x y H Q => ∃ (b dx : Addr) (fs : List (Str × V)), y = .ref b ∧ H b = some (.ins C dx fs) ∧ sp [.ref b, x] H (fun v H2 => ∃ k : Bool, v = .bl k ∧ Q (.bl (!k)) H2) E0
theorem op_notInOwn (c : Mt X.prog X.w X.K X.mg X.base k C "__contains__" sp) (hr : Room k X.A) : OpR X (compareOp .NotIn) (rOwnNotIn C sp) := by
  intro pins s σ H x y v u Q I rx ry h
  obtain ⟨b, dx, fs, rfl, hb, h⟩ := h
  obtain rfl : u = Value.ref b := ry
  obtain ⟨f, fd, ps, M, F, bi⟩ := c.ex
  obtain ⟨mA, O, _⟩ := ins_get I.hok hb
  obtain ⟨od, J, _⟩ := O.look
  obtain ⟨m, fr⟩ := I.fr
  refine PySem.W.notIn_K fr I.ok.mod.kin J M.at_ M.fn ?_
  refine thn (run_in F hr I.env0 bi I (us := [.ref b, v]) (vs := [.ref b, x]) (.cons rfl (.cons rx .nil)) h) fun r s1 hv => ?_
  obtain ⟨z, H1, I1, r1, k, ez, q⟩ := hv
  subst ez
  obtain rfl : r = Value.bool k := r1
  exact wpAny_truthy_bool ⟨.bl (!k), H1, I1, rfl, q⟩
end
end LK
set_option maxHeartbeats 4000000
/-! Calls with keywords; methods; what the top leaves (Txt). -/
namespace LK
open PySem PySem.Spec PyProof.Rows L2
/-- a def called with n positional arguments and the keywords ks -/
structure CalK (P : Program) (w : World) (K : PySem.W.Frag) (mg : Str → Option Value) (base : Heap) (k : Nat) (x : Str) (n : Nat) (ks : List Str) (gV : List V → List V → List V) (sp : Sp) : Prop where
  ex : ∃ (f : Addr) (fd : FuncData) (ps : List Str) (g : List Value → List Value → List Value), FnOk P w K mg base (L2.CX P w) k f fd ps sp ∧ mg x = some (.ref f) ∧ PySem.W.keepIn K (.ref f) = true ∧ KBn K fd ps n ks g gV
structure MtK (P : Program) (w : World) (K : PySem.W.Frag) (mg : Str → Option Value) (base : Heap) (k : Nat) (C : Addr) (m : Str) (n : Nat) (ks : List Str) (gV : List V → List V → List V) (sp : Sp) : Prop where
  ex : ∃ (f : Addr) (fd : FuncData) (ps : List Str) (g : List Value → List Value → List Value), Meth K C m f ∧ FnOk P w K mg base (L2.CX P w) k f fd ps sp ∧ KBn K fd ps (n + 1) ks g gV
def tMethK (C : Addr) (m : Str) (n l : Nat) (sp : Sp) (gV : List V → List V → List V) (ta : TE) (t tk : TA) : TE := fun σ H Q => ta σ H fun x H1 => ∃ (a dx : Addr) (fs : List (Str × V)), x = .ref a ∧ H1 a = some (.ins C dx fs) ∧ fs.lookup m = none ∧
  t σ H1 fun vs H2 => tk σ H2 fun zs H3 => vs.length = n ∧ zs.length = l ∧ sp (gV (x :: vs) zs) H3 Q E0
section
variable {X : Cx} {j k n : Nat} {x m : Str} {ks : List Str} {gV : List V → List V → List V} {sp : Sp} {E : XK} {C : Addr} {p pos apos : Pos} {e o : Expr} {es : List Expr} {kws : List Keyword} {t tk : TA} {ta : TE}
theorem pe_cK (c : CalK X.prog X.w X.K X.mg X.base k x n ks gV sp) (hr : Room j X.A) (hk : k ≤ j) (hg : Gl X x) (hx : Passes (L2.CX X.prog X.w) X E) (ha : PA X (e :: es) t) (hkw : PK X kws tk)
    (hall : (backToKw pos (keywordEach kws X.env)).all (·.1.isSome) = true := by rfl) (hks : (backToKw pos (keywordEach kws X.env)).filterMap (·.1) = ks := by rfl)
    (hdb : (x == ("__debug__" : Str)) = false := by decide) (he : starEach (e :: es) X.env = (false, eval e X.env) :: starEach es X.env := by rfl)
    (hpl : ((backTo pos (starEach (e :: es) X.env)).any (·.1) || (backToKw pos (keywordEach kws X.env)).any (·.1.isNone)) = false := by rfl) :
    PE X (.Call (.Name x p) (e :: es) kws pos) (tCallN n ks.length sp gV E t tk) := by
  obtain ⟨f, fd, ps, g, F, hm, kp, b⟩ := c.ex
  exact pe_callN F (hr.mono hk) hg hm kp b hx ha hkw hall hks hdb he hpl
theorem pe_mK {pl : Sem Bool} (ho : PE X o ta) (cl : Cls X.K C) (c : MtK X.prog X.w X.K X.mg X.base k C m n ks gV sp) (hr : Room j X.A) (hk : k ≤ j) (ha : PA X (e :: es) t) (hkw : PK X kws tk)
    (hall : (backToKw pos (keywordEach kws X.env)).all (·.1.isSome) = true := by rfl) (hks : (backToKw pos (keywordEach kws X.env)).filterMap (·.1) = ks := by rfl)
    (he : starEach (e :: es) X.env = (false, eval e X.env) :: starEach es X.env := by rfl)
    (hpl : ((backTo pos (starEach (e :: es) X.env)).any (·.1) || (backToKw pos (keywordEach kws X.env)).any (·.1.isNone)) = false := by rfl)
    (ht : eval (.Call (.Attribute o m apos) (e :: es) kws pos) X.env = (do
      let ov ← eval o X.env
      standAt apos.atName
      let (f, first) ← holding [ov] (getMethod ov m pl)
      callWith pos f first (backTo pos (starEach (e :: es) X.env)) (backToKw pos (keywordEach kws X.env))) := by rfl) :
    PE X (.Call (.Attribute o m apos) (e :: es) kws pos) (tMethK C m n ks.length sp gV ta t tk) := by
  obtain ⟨f, fd, ps, g, M, F, b⟩ := c.ex
  refine ⟨fun pins s σ H Q I h => ?_⟩
  refine PySem.W.methodCall_KW (pl := pl) (thn (ho.run pins s σ H _ I h) fun u s1 hu => ?_) ht
  obtain ⟨y, H1, I1, ry, a, dx, fs, ey, ea, l, q⟩ := hu
  subst ey
  obtain rfl : u = Value.ref a := ry
  refine getmeth_ok I1 ea cl M l ?_
  refine PySem.W.callWith_KW (first := [.ref a]) (h₀ := X.base) I.ok.mod.kin M.kp hall (thn (ha.run pos pins s1 σ H1 _ I1 q) fun us s2 hs => ?_) hpl he
  obtain ⟨vs, H2, I2, r, q2⟩ := hs
  refine thn (hkw.run pos pins s2 σ H2 _ I2 q2) fun ws s3 hs => ?_
  obtain ⟨zs, H3, I3, rz, l1, l2, q3⟩ := hs
  refine ⟨I3.kIn, ?_⟩
  rw [hks]
  exact run_fnN (us := .ref a :: us) (vs := .ref a :: vs) F (hr.mono hk) b passL I3 (.cons rfl r) rz (by rw [List.length_cons, l1]) l2 q3
end
/-- a method of the text -/
structure Dm (K : PySem.W.Frag) (C : Addr) (m qual : Str) (st : Stmt) (dvs : List V) (kws : List (Str × V)) : Prop where
  ex : ∃ (f : Addr) (fd : FuncData), FunD K m qual (defArgs st) (defBody st) (defScope st) dvs kws f fd ∧ Meth K C m f
section
variable {P : Program} {w : World} {K : PySem.W.Frag} {mg : Str → Option Value} {base : Heap}
theorem Dm.mt {C : Addr} {m qual : Str} {st : Stmt} {N ps : List Str} {k : Nat} {sp : Sp} (F : Dm K C m qual st [] []) (S : FnScope N ps (defScope st))
    (hb : ∀ (kV doc pm : Value) (an : Option Addr) (cdv ct : Value) (us : List Value), us.length = ps.length → bindArgs (PySem.W.fnOf m qual (defArgs st) (defBody st) (defScope st) .none kV doc pm an cdv ct) ⟨us, []⟩ = pure (ps.zip us))
    (len : ∀ vs H Q E, sp vs H Q E → vs.length = ps.length)
    (hbody : ∀ (f : Addr) (cdv : Value) (A : Around) (outer : List Env) (s : Shared) (H : Hp) (vs : List V) (Q : VK) (E : XK), Room k (A.deeper (envOfC qual (defScope st) s.heap.objs.size f cdv)) → sp vs H Q E →
      ∃ t, PSs (cxOf (L2.CX P w) P w K mg base N qual (defScope st) f cdv A outer s H E).nox (defBody st) t ∧ t { nx := fun _ H' => Q .non H', rt := Q } (start N vs) H) : Mt P w K mg base (k + 1) C m sp := by
  obtain ⟨f, fd, F, hm⟩ := F.ex
  refine ⟨f, fd, ps, hm, F.ok S len fun cdv A outer s H vs Q E hr h => ?_, F.bindsN hb⟩
  obtain ⟨t, h1, h2⟩ := hbody f cdv A outer s H vs Q E hr h
  exact ⟨t, h1.nox, h2⟩
/-- a method that is called with keywords alone for its keyword-only parameters -/
theorem Dm.mtK {C : Addr} {m qual : Str} {st : Stmt} {N ps ks : List Str} {n k : Nat} {sp : Sp} {kws : List (Str × V)} (F : Dm K C m qual st [] kws) (S : FnScope N ps (defScope st)) (hk : kws ≠ [])
    (hb : ∀ (D : Addr) (doc pm : Value) (an : Option Addr) (cdv ct : Value) (us ws : List Value), us.length = n + 1 → ws.length = ks.length →
      bindArgs (PySem.W.fnOf m qual (defArgs st) (defBody st) (defScope st) .none (.ref D) doc pm an cdv ct) ⟨us, ks.zip ws⟩ = pure (ps.zip (us ++ ws)))
    (len : ∀ vs H Q E, sp vs H Q E → vs.length = ps.length)
    (hbody : ∀ (f : Addr) (cdv : Value) (A : Around) (outer : List Env) (s : Shared) (H : Hp) (vs : List V) (Q : VK) (E : XK), Room k (A.deeper (envOfC qual (defScope st) s.heap.objs.size f cdv)) → sp vs H Q E →
      ∃ t, PSs (cxOf (L2.CX P w) P w K mg base N qual (defScope st) f cdv A outer s H E).nox (defBody st) t ∧ t { nx := fun _ H' => Q .non H', rt := Q } (start N vs) H) :
    MtK P w K mg base (k + 1) C m n ks (fun vs zs => vs ++ zs) sp := by
  obtain ⟨f, fd, F, hm⟩ := F.ex
  obtain ⟨mv, B⟩ := F.kbinds0 (ps := ps) (n + 1) ks [] (fun us _ ws => us ++ ws) hk (fun q hq => by cases hq) (fun r _ q => r.append q) fun D doc pm an cdv ct us mv ws h1 _ h2 => by
    have hl : mv = [] ∨ mv ≠ [] := by cases mv <;> simp
    show bindArgs _ _ = _
    exact hb D doc pm an cdv ct us ws h1 h2
  refine ⟨f, fd, ps, _, hm, F.ok S len fun cdv A outer s H vs Q E hr h => ?_, B⟩
  obtain ⟨t, h1, h2⟩ := hbody f cdv A outer s H vs Q E hr h
  exact ⟨t, h1.nox, h2⟩
/-- a def called with keywords for all its keyword-only parameters -/
theorem Df.calK {x : Str} {st : Stmt} {N ps ks : List Str} {n k : Nat} {sp : Sp} {kws : List (Str × V)} (F : Df K mg x st [] kws) (S : FnScope N ps (defScope st)) (hk : kws ≠ [])
    (hb : ∀ (D : Addr) (doc pm : Value) (an : Option Addr) (cdv ct : Value) (us ws : List Value), us.length = n → ws.length = ks.length →
      bindArgs (PySem.W.fnOf x x (defArgs st) (defBody st) (defScope st) .none (.ref D) doc pm an cdv ct) ⟨us, ks.zip ws⟩ = pure (ps.zip (us ++ ws)))
    (len : ∀ vs H Q E, sp vs H Q E → vs.length = ps.length)
    (hbody : ∀ (f : Addr) (cdv : Value) (A : Around) (outer : List Env) (s : Shared) (H : Hp) (vs : List V) (Q : VK) (E : XK), Room k (A.deeper (envOfC x (defScope st) s.heap.objs.size f cdv)) → sp vs H Q E →
      ∃ t, PSs (cxOf (L2.CX P w) P w K mg base N x (defScope st) f cdv A outer s H E).nox (defBody st) t ∧ t { nx := fun _ H' => Q .non H', rt := Q } (start N vs) H) :
    CalK P w K mg base (k + 1) x n ks (fun vs zs => vs ++ zs) sp := by
  obtain ⟨f, fd, F, hm⟩ := F.ex
  obtain ⟨mv, B⟩ := F.kbinds0 (ps := ps) n ks [] (fun us _ ws => us ++ ws) hk (fun q hq => by cases hq) (fun r _ q => r.append q) fun D doc pm an cdv ct us mv ws h1 _ h2 => by
    show bindArgs _ _ = _
    exact hb D doc pm an cdv ct us ws h1 h2
  refine ⟨f, fd, ps, _, F.ok S len fun cdv A outer s H vs Q E hr h => ?_, hm, F.kp, B⟩
  obtain ⟨t, h1, h2⟩ := hbody f cdv A outer s H vs Q E hr h
  exact ⟨t, h1.nox, h2⟩
end
end LK
set_option maxHeartbeats 4000000
/-! An own exception whose __init__ says super().__init__('..') and stores one field. -/
namespace LK
open PySem PySem.W PySem.Calls PyProof.Rows PySem.HandSPX
def xArgs (f : Str) (p1 p2 : Pos) : Arguments := { posonlyargs := [], args := [{ arg := "self", annotation := none, pos := p1 }, { arg := f, annotation := none, pos := p2 }], vararg := none, kwonlyargs := [], kw_defaults := [], kwarg := none, defaults := [] }
def xBody (f msg : Str) (k : Nat) (p0 p1 p2 p3 p4 p5 q1 q2 q3 q4 : Pos) : List Stmt :=
  [.Expr (.Call (.Attribute (.Call (.Name "super" p0) [] [] p1) "__init__" p2) [.Constant (.str msg) k p3] [] p4) p5, .Assign [.Attribute (.Name "self" q1) f q2] (.Name f q3) q4]
def xScope (f : Str) : Scope := { kind := .function, names := [(PySem.Str.ofString "self", .local), (f, .local), (PySem.Str.ofString "__class__", .free), (PySem.Str.ofString "super", .globalImplicit)], isGenerator := false, isCoroutine := false, more := [] }

/-- the __init__ at fI of the class at C, as it stands behind the top -/
structure XInit (prog : Program) (K : Frag) (f : Str) (C fI : Addr) : Prop where
  fn : ∃ (oc : Value) (od : Option Addr) (doc pm ct kV : Value) (an : Option Addr) (osl : Array (Option Value)) (qual msg : Str) (k : Nat) (cda cc : Addr) (pa pb p0 p1 p2 p3 p4 p5 q1 q2 q3 q4 : Pos),
    K.lookup fI = some ⟨oc, od, .func (ksFn "__init__" qual (xArgs f pa pb) (xBody f msg k p0 p1 p2 p3 p4 p5 q1 q2 q3 q4) (xScope f) .none kV doc pm an (.ref cda) ct cc), osl⟩ ∧ codeIn K (.ref cda) qual = true ∧
    (∃ ccl cdd vs ccs file tf, K.lookup cda = some ⟨ccl, cdd, .fields vs, ccs⟩ ∧ vs[2]? = some (.str file tf) ∧ ((prog.main.file : Str) == file) = true) ∧
    (∃ cl cld csl, K.lookup cc = some ⟨cl, cld, .cell (some (.ref C)), csl⟩) ∧ (p2.endLine == p4.line) = true
/-- the class at C -/
structure XCls (prog : Program) (K : Frag) (mg : Str → Option Value) (x f : Str) (C fI : Addr) : Prop where
  gC : mg x = some (.ref C)
  cls : ∃ nm q N bs bm sn sub ab col dd k0 k1 k2 k3 k5, K.lookup C = some (excClassObj nm q C N bs bm true sn sub ab col dd k0 k1 k2 k3 k5 "ValueError.__new__") ∧ refsVE bm = true
  sa : findIn K (.ref C) "__setattr__" = some (some (.builtin "object.__setattr__"))
  noN : findIn K (.ref C) f = some none
  iC : findIn K (.ref C) "__init__" = some (some (.ref fI))
  tC : typeIn K (.ref fI) = some (.type "function")
  kC : keepIn K (.ref C) = true
  exC : subIn K (.ref C) (.type "BaseException") = some true
  tyC : typeIn K (.ref C) = some (.type "type")
  hdC : hasDictIn K C = true
  sup : ks_superIn K C C "__init__" = some (some (.builtin "ValueError.__init__"))
  veC : subIn K (.ref C) (.type "ValueError") = some true
  selfC : mroIn K C (.ref C) = some true
  third : nsIn K cStatics "thirdparty.any" = some none
  gS : mg "super" = none
  htop : (prog.main.scope.names.lookup ("super" : Str)).isSome = false
  init : XInit prog K f C fI

/-- what __init__ leaves of a fresh exception at x -/
structure XEnd (h h' : Heap) (x C dx t1 : Addr) (f : Str) (v : Value) : Prop where
  keep : ∀ b o, b ≠ x → h.get? b = some o → h'.get? b = some o
  obj : h'.get? x = some { cls := .ref C, dict := some dx, data := .fields #[.ref t1, .none, .none, .none, .bool false, .none] }
  dbig : h.objs.size ≤ dx
  dne : dx ≠ x
  ns : h'.Ns1 dx (fun y => if y = f then some v else none)
section
variable {prog : Program} {w : World} {A : Around} {E : Value → Shared → Prop} {K : Frag} {mg : Str → Option Value} {C fI : Addr}
/-- the bound ValueError.__init__ called -/
theorem x_base {h : Heap} {g : Array GenState} {d : Drawn} {t : Nat} {os : OsState} {nm q : Str} {N : Addr} {bs bm : List Value} {sn : List Str} {sub : List Value} {ab : Bool} {col : Option Bool} {dd : Option Addr} {k0 k1 k2 k3 k5 : Option Value}
    {u e t0 : Addr} {rest : List Value} {Q : Value → Shared → Prop}
    (hC : h.get? C = some (excClassObj nm q C N bs bm true sn sub ab col dd k0 k1 k2 k3 k5 "ValueError.__new__")) (he : h.get? e = some (excO C t0)) (hu : h.get? u = some (kxs_mw "ValueError.__init__" e)) (hrest : rest.length ≤ sizeLine)
    (hq : ∀ h' t1, (∀ b o, b ≠ e → h.get? b = some o → h'.get? b = some o) → h'.get? e = some (excO C t1) → h.objs.size ≤ h'.objs.size → Q .none ⟨h', g, d, t, os⟩) :
    wpAny (model prog w) A (call (.ref u) rest) Q E ⟨h, g, d, t, os⟩ := by
  refine wpAny_call (codeAny_of_tree ?_)
  show wpAny _ A.in1 (callAny (.ref u) ⟨rest, []⟩) _ _ _
  simp only [callAny]
  refine wpAny_bind (wpAny_load hu ?_)
  simp only [kxs_mw, show (Value.type "method-wrapper" == Value.type "method" || Value.type "method-wrapper" == Value.type "builtin_function_or_method" || Value.type "method-wrapper" == Value.type "method-wrapper") = true by decide, if_true]
  refine KFB.if_so (by decide) ?_
  refine wpAny_bind (check_bound_init F.excBase_ValueError.toExcCallFacts hC he rfl ?_)
  refine wpAny_bind (wpAny_pure (wpAny_pure ?_))
  refine ⟨plainId_quiet F.excBase_ValueError.init.plain _, codeAny_builtin F.excBase_ValueError.initEntry ?_⟩
  refine exc_init_tree (cls := .ref C) (t0 := t0) (dv := none) (c2 := .none) (c3 := .none) (b4 := .bool false) he hrest fun h' k e1 e2 => ?_
  exact hq h' _ k e1 (Nat.le_of_lt (Heap.lt_size e2))

theorem x_super {s : Shared} {f : Str} {base : Frag} {x : Str} (T : XCls prog K mg x f C fI) {cda cc : Addr} {qual : Str} {body : List Stmt} {L : Addr} {m mb : Str → Option Value} {t0 xo : Addr} {p0 p1 : Pos} {whole : Sem Value} {fd : FuncData} {oc : Value} {od : Option Addr} {osl : Array (Option Value)} {ar : Arg} {Q : Value → Shared → Prop}
    (X : K.In s.heap) (G : s.heap.Ns mainGlobals mg) (Bl : s.heap.Ns builtinsNs mb) (Bs : mb "super" = some (.type "super"))
    (hf : K.lookup fI = some ⟨oc, od, .func fd, osl⟩) (hp : (fd.params.posonlyargs ++ fd.params.args).head? = some ar) (har : ar.arg = "self")
    (hcode : ∃ ccl cdd vs ccs file tf, K.lookup cda = some ⟨ccl, cdd, .fields vs, ccs⟩ ∧ vs[2]? = some (.str file tf) ∧ ((prog.main.file : Str) == file) = true)
    (hcell : ∃ cl cld csl, K.lookup cc = some ⟨cl, cld, .cell (some (.ref C)), csl⟩) (hn : s.heap.Ns L m) (hv : m "self" = some (.ref xo)) (hx : s.heap.get? xo = some (excO C t0))
    (hks : (xScope f).names.lookup ("super" : Str) = some .globalImplicit) (hkc : (xScope f).names.lookup ("__class__" : Str) = some .free) (hka : (xScope f).names.lookup ("self" : Str) = some .local)
    (h : ∀ h', h'.get? s.heap.objs.size = some (ks_superObj C xo C) → (∀ y o, s.heap.get? y = some o → h'.get? y = some o) → Q (.ref s.heap.objs.size) { s with heap := h' }) :
    _root_.PySem.wpAt (model prog w) A (.func body (ksEnv qual (xScope f) L fI (.ref cda) cc)) (attributeBase (.Call (.Name "super" p0) [] [] p1) "__init__" (ksEnv qual (xScope f) L fI (.ref cda) cc) whole) Q E s := by
  obtain ⟨nm, q, N, bs, bm, sn, sub, ab, col, dd, k0, k1, k2, k3, k5, hC, hbm⟩ := T.cls
  obtain ⟨ccl, cdd, vs, ccs, file, tf, hco, hvs, hfile⟩ := hcode
  obtain ⟨cl, cld, csl, hce⟩ := hcell
  obtain ⟨hh, g, d, t, os⟩ := s
  refine ks_wpAt_super_base (env := ksEnv qual (xScope f) L fI (.ref cda) cc) hks hkc (by decide) rfl (X _ _ hf) rfl hp rfl (X _ _ hco) rfl hvs hfile T.htop ?_
  refine ks_loadName_global rfl hks (loadGlobal_builtin (env := ksEnv qual (xScope f) L fI (.ref cda) cc) G T.gS Bl Bs ⟨rfl, ?_⟩)
  refine wpAny_loadName_free rfl hkc rfl ⟨_, X _ _ hce, rfl⟩ ?_
  rw [har]
  refine wpAny_loadName_local rfl hka hn hv ?_
  refine ks_wpAny_isType_cls (X _ _ hC) rfl ⟨rfl, ?_⟩
  exact ks_wpAny_call_super (X _ _ hC) rfl hx rfl (fun c e => by cases e) (looks_mroIn X T.selfC) h

theorem x_eval {name msg : Str} {k : Nat} {p0 p1 p2 p3 p4 : Pos} {env : Env} (hpos : (p2.endLine == p4.line) = true) :
    eval (.Call (.Attribute (.Call (.Name "super" p0) [] [] p1) name p2) [.Constant (.str msg) k p3] [] p4) env = (do
      let ov ← attributeBase (.Call (.Name "super" p0) [] [] p1) name env (eval (.Call (.Name "super" p0) [] [] p1) env)
      standAt p2.atName
      let (f, first) ← holding [ov] (getMethod ov name (do return (← importBound (.Call (.Name "super" p0) [] [] p1) env).getD true))
      callWith p4 f first (backTo p4 (starEach [.Constant (.str msg) k p3] env)) []) := by
  show (do
    let ov ← attributeBase (.Call (.Name "super" p0) [] [] p1) name env (eval (.Call (.Name "super" p0) [] [] p1) env)
    standAt p2.atName
    methodCall (.Call (.Name "super" p0) [] [] p1) name p2 p4 env ov 1 (backTo p4 (starEach [.Constant (.str msg) k p3] env)) []) = _
  have e1 : methodCallForm 1 (backTo p4 (starEach [.Constant (.str msg) k p3] env)) [] = true := rfl
  unfold methodCall methodCallPos calleeOf
  rw [e1, hpos]
  rfl
theorem xs_lk (f : Str) (h1 : f = "version" ∨ f = "index" ∨ f = "price") : (xScope f).names.lookup ("super" : Str) = some .globalImplicit ∧ (xScope f).names.lookup ("__class__" : Str) = some .free ∧ (xScope f).names.lookup ("self" : Str) = some .local ∧
    (xScope f).names.lookup f = some .local ∧ (f == ("self" : Str)) = false ∧ (("self" : Str) == f) = false ∧ (f == ("__debug__" : Str)) = false := by
  rcases h1 with h | h | h <;> subst h <;> decide +kernel
theorem x_init {s : Shared} {x f : Str} (T : XCls prog K mg x f C fI) (hf3 : f = "version" ∨ f = "index" ∨ f = "price") {R : Result → Shared → Prop} {xo t0 : Addr} {v : Value} {mb : Str → Option Value}
    (X : K.In s.heap) (hlim : s.heap.NoLimit) (G : s.heap.Ns mainGlobals mg) (Bl : s.heap.Ns builtinsNs mb) (Bs : mb "super" = some (.type "super"))
    (hx : s.heap.get? xo = some (excO C t0)) (hnx : K.lookup xo = none) (hroom : A.depth < recursionLimit) (hGx : xo ≠ mainGlobals) (hBx : xo ≠ builtinsNs)
    (hq : ∀ h' tk dx t1, XEnd s.heap h' xo C dx t1 f v → R (.ok (.ret .none)) { s with heap := h', toks := tk }) :
    codeAny (model prog w) A (.call (.ref fI) ⟨[.ref xo, v], []⟩) R s := by
  obtain ⟨oc, od, doc, pm, ct, kV, an, osl, qual, msg, k, cda, cc, pa, pb, p0, p1, p2, p3, p4, p5, q1, q2, q3, q4, ho, hcd, hcode, hcell, hpos⟩ := T.init.fn
  obtain ⟨nm, q, N, bs, bm, sn, sub, ab, col, dd, k0, k1, k2, k3, k5, hC, hbm⟩ := T.cls
  obtain ⟨n1, n2, n3, n4, n5, n6, n7⟩ := xs_lk f hf3
  have hcl : clsIn K C = some { name := nm, bases := bs, mro := .ref C :: bm, ns := N, qualname := q, hasDict := true, slotNames := sn, subclasses := sub, abstract := ab, collection := col, hasDel := false } := by unfold clsIn; rw [hC] <;> rfl
  refine ks_codeAny_call_defAt (fd := ksFn "__init__" qual (xArgs f pa pb) (xBody f msg k p0 p1 p2 p3 p4 p5 q1 q2 q3 q4) (xScope f) .none kV doc pm an (.ref cda) ct cc) (body := xBody f msg k p0 p1 p2 p3 p4 p5 q1 q2 q3 q4) (binds := [("self", .ref xo), (f, v)])
    hroom (X _ _ ho) rfl hlim (codeRec_of X hcd) rfl (BindsTo.of_eq ?hbind) ?hcell ?hloc (fun h₁ hns hk₁ => ?_)
  case hbind => rcases hf3 with h | h | h <;> subst h <;> rfl
  case hcell =>
    show ∀ y ∈ (xScope f).names, y.2 ≠ .cell
    rcases hf3 with h | h | h <;> subst h <;> decide +kernel
  case hloc =>
    intro y hy
    rcases List.mem_cons.mp hy with e | hy
    · rw [e]; exact n3
    · rw [List.mem_singleton.mp hy]; exact n4
  have X1 : K.In h₁ := X.keeps hk₁
  have hx1 := hk₁ _ _ hx
  have v1 : List.lookup ("self" : Str) ([("self", Value.ref xo), (f, v)] : List (Str × Value)).reverse = some (.ref xo) := by
    show List.lookup ("self" : Str) [(f, v), ("self", Value.ref xo)] = _
    rw [List.lookup_cons, n6]; rfl
  have v2 : List.lookup f ([("self", Value.ref xo), (f, v)] : List (Str × Value)).reverse = some v := by
    show List.lookup f [(f, v), ("self", Value.ref xo)] = _
    rw [List.lookup_cons, beq_self_eq_true]
  have z1 : s.heap.objs.size < h₁.objs.size := hns.lt
  have hLx : s.heap.objs.size ≠ xo := Nat.ne_of_gt (Heap.lt_size hx)
  -- super().__init__('..')
  refine ks_wpAt_execs_cons (ks_wpAt_Expr_any (ks_wpAt_MethodCall ?_ (x_eval hpos)))
  refine x_super (base := K) T X1 (G.keeps hk₁) (Bl.keeps hk₁) Bs ho rfl rfl hcode hcell hns v1 hx1 n1 n2 n3 fun h2 e2 kk2 => ?_
  have X2 : K.In h2 := X1.keeps kk2
  have hx2 := kk2 _ _ hx1
  have I2 : InstAt h2 xo (excO C t0) C none := ⟨hx2, rfl, rfl, trivial⟩
  have hI : Looks (model prog w) h2 (isInstance (.ref xo) (.type "ValueError")) true := I2.type.andThen (looks_subIn X2 T.veC)
  have hsup := T.sup
  unfold ks_superIn at hsup
  rw [hcl] at hsup
  have hxC : xo ≠ C := ks_ne X2 I2 hcl
  refine kxs_getMethod kxs_ValueError e2 (looks_opaque X2 T.third) (l₀ := .ref C :: bm) (fun A Q E s k q => wpAny_bind ((looks_clsIn X2 hcl) A _ E s k (wpAny_pure q))) rfl X2 hsup hI hxC (by decide) ?_
  have k3 : ∀ b o, h2.get? b = some o → (h2.push (kxs_mw "ValueError.__init__" xo)).get? b = some o := fun b o e => Heap.get?_push_of_some _ e
  have hu : (h2.push (kxs_mw "ValueError.__init__" xo)).get? h2.objs.size = some (kxs_mw "ValueError.__init__" xo) := Heap.get?_push_size _ rfl
  show wpAny _ _ (callWith _ (.ref h2.objs.size) [] (backTo _ (starEach (.Constant (.str msg) k p3 :: []) _)) []) _ _ _
  refine kxs_callWith (i := "ValueError.__init__") (x := xo) (by rfl) (evalArgs_plain ?_)
  refine Calls.spliced_cons ?_
  show wpAny _ _ (eval (.Constant (.str msg) k p3) _) _ _ _
  refine Calls.Constant_str (Calls.spliced_nil ⟨hu, ?_⟩)
  refine x_base (k3 _ _ (X2 _ _ hC)) (k3 _ _ hx2) hu (by rw [sizeLine_eq]; exact (by decide : 1 ≤ 16777216)) fun h4 t1 k4 e4 z4 => ?_
  have up : ∀ b o, b ≠ xo → h₁.get? b = some o → h4.get? b = some o := fun b o hb e => k4 b o hb (k3 b o (kk2 b o e))
  have X4 : K.In h4 := fun a o e => up a o (fun z => by rw [z, hnx] at e; cases e) (X1 _ _ e)
  -- self.f = f
  refine wpAt_of_wpAny ?_
  refine wpAny_execs_cons (plainObj_wpAny_Assign_Attribute ?_)
  have hn4 : h4.Ns s.heap.objs.size (fun y => List.lookup y ([("self", Value.ref xo), (f, v)] : List (Str × Value)).reverse) := hns.at fun o e => up _ _ hLx e
  refine wpAny_Name (wpAny_loadName_local rfl n4 hn4 v2 ?_) n7
  refine wpAny_Name (wpAny_loadName_local rfl n3 hn4 v1 ?_) (by decide)
  refine set_plain X4 (ox := excO C t1) (od := none) ⟨e4, rfl, rfl, trivial⟩ T.sa ?_
  refine exc_osa X4 e4 hcl (show refsVE (.ref C :: bm) = true from hbm) rfl T.noN (fun h5 tk5 dx k5' dn dne hx5 hn5 => ?_)
  refine wpAny_execs_nil (hq h5 tk5 dx t1 ⟨fun b o hb e => k5' b o hb (up b o hb (hk₁ b o e)), hx5, ?_, dne, hn5⟩)
  obtain ⟨oL, _, _, eL, _⟩ := hn4
  exact Nat.le_of_lt (Nat.lt_of_lt_of_le (Heap.lt_size eL) dn)

/-- a made exception -/
structure XMade (h h' : Heap) (e C d : Addr) (f : Str) (v : Value) : Prop where
  keep : ∀ b o, h.get? b = some o → h'.get? b = some o
  new : h.objs.size ≤ e
  obj : ∃ oe vs, h'.get? e = some oe ∧ oe.cls = .ref C ∧ oe.dict = some d ∧ oe.data = .fields vs ∧ vs[1]? = some .none
  dbig : h.objs.size ≤ d
  dne : d ≠ e
  ns : h'.Ns1 d (fun y => if y = f then some v else none)
theorem x_made {s : Shared} {x f : Str} (T : XCls prog K mg x f C fI) (hf3 : f = "version" ∨ f = "index" ∨ f = "price") {R : Result → Shared → Prop} {v : Value} {mb : Str → Option Value}
    (X : K.In s.heap) (hlim : s.heap.NoLimit) (G : s.heap.Ns mainGlobals mg) (Bl : s.heap.Ns builtinsNs mb) (Bs : mb "super" = some (.type "super")) (hroom : A.depth + 1 < recursionLimit)
    (hq : ∀ h' tk e d, XMade s.heap h' e C d f v → R (.ok (.ret (.ref e))) { s with heap := h', toks := tk }) :
    codeAny (model prog w) A (.call (.ref C) ⟨[v], []⟩) R s := by
  obtain ⟨nm, q, N, bs, bm, sn, sub, ab, col, dd, k0, k1, k2, k3, k5, hC, hbm⟩ := T.cls
  obtain ⟨hp, g, dr, tk, os⟩ := s
  have k : ∀ b o, hp.get? b = some o → ((hp.push (kdv_tup [v])).push (excO C hp.objs.size)).get? b = some o := fun b o e => Heap.get?_push_of_some _ (Heap.get?_push_of_some _ e)
  have hget : ((hp.push (kdv_tup [v])).push (excO C hp.objs.size)).get? (hp.objs.size + 1) = some (excO C hp.objs.size) := by heap_get
  have old : ∀ {b : Addr} {o : Obj}, hp.get? b = some o → b ≠ hp.objs.size + 1 := fun e => Nat.ne_of_lt (Nat.lt_succ_of_lt (Heap.lt_size e))
  have hnx : K.lookup (hp.objs.size + 1) = none := by
    cases e : K.lookup (hp.objs.size + 1) with
    | none => rfl
    | some o => exact absurd rfl (old (show hp.get? (hp.objs.size + 1) = some o from X _ _ e))
  have ng : ∀ {a : Addr} {m : Str → Option Value}, hp.Ns a m → hp.objs.size + 1 ≠ a := fun {a m} n => by
    obtain ⟨o, _, _, e, _⟩ := n
    exact Ne.symm (old e)
  refine call_own F.excBase_ValueError (fun X => refsVE_contains X bm hbm) (X _ _ hC) (looks_findIn X T.iC) (fun self => bind_fn X self T.tC) (by rw [sizeLine_eq]; exact (by decide : 1 ≤ 16777216)) ?_
  refine x_init (s := ⟨(hp.push (kdv_tup [v])).push (excO C hp.objs.size), g, dr, tk, os⟩) T hf3 (X.keeps k) (hlim.keeps k) (G.keeps k) (Bl.keeps k) Bs hget hnx ?_ (ng G) (ng Bl) fun h' tk' dx t1 M => ?_
  · show A.depth + 1 < recursionLimit
    exact hroom
  · have z : hp.objs.size + 1 + 1 ≤ dx := by
      have q := M.dbig
      first
        | (simpa only [Heap.size_push] using q)
        | exact q
    exact ⟨rfl, hq h' tk' (hp.objs.size + 1) dx ⟨fun b o e => M.keep b o (old e) (k b o e), Nat.le_succ _, ⟨_, _, M.obj, rfl, rfl, rfl, rfl⟩, Nat.le_trans (Nat.le_succ_of_le (Nat.le_succ _)) z, M.dne, M.ns⟩⟩
end
end LK
namespace LK
open PySem PySem.Spec PyProof.Rows L2
theorem relO_x {v : V} {v' : Value} (r : RelV v v') (f g : Str) : RelO (List.lookup g [(f, v)]) (if g = f then some v' else none) := by
  by_cases hw : g = f
  · subst hw
    rw [if_pos rfl]
    have q : List.lookup g [(g, v)] = some v := by simp [List.lookup]
    rw [q]
    exact r
  · rw [if_neg hw]
    have qw : (g == f) = false := by simpa using hw
    have q2 : List.lookup g [(f, v)] = none := by simp [List.lookup, qw]
    rw [q2]
    trivial
/-- E(e), E an own error whose field is f -/
def tMkX (C : Addr) (f : Str) (ta : TA) : L2.St → Hp → XK → Prop := fun σ H Q => ta σ H fun vs H1 => ∃ v, vs = [v] ∧ ∀ d, H1 d = none → Q (.ref C) (some d) (upd H1 d (.xd [(f, v)]))
section
variable {X : Cx} {C fI : Addr} {x f : Str}
theorem pmk_x {a : Expr} {ta : TA} {p pos : Pos} {k : Nat} (T : XCls X.prog X.K X.mg x f C fI) (hf3 : f = "version" ∨ f = "index" ∨ f = "price") (hr : Room k X.A) (ha : PA X [a] ta) (hg : Gl X x)
    (hdb : (x == ("__debug__" : Str)) = false := by decide) (he : starEach (a :: []) X.env = (false, eval a X.env) :: starEach [] X.env := by rfl) (hpl : (backTo pos (starEach [] X.env)).any (·.1) = false := by rfl) :
    PMk X (.Call (.Name x p) [a] [] pos) (tMkX C f ta) := by
  intro pins s σ H Q I h
  refine wpAny_Call_Name_kw (ld_glob I hg T.gC ?_ hdb)
  refine PySem.W.callWith_K (h₀ := X.base) I.ok.mod.kin T.kC (thn (ha.run pos pins s σ H _ I h) fun us s1 hh => ?_) he hpl
  obtain ⟨vs, H1, I1, r1, v, ev, q1⟩ := hh
  subst ev
  refine ⟨I1.kIn, ?_⟩
  cases r1 with
  | cons rv rn =>
    rename_i v' us'
    cases rn
    show wpAny _ _ (call (.ref C) [v']) _ _ _
    have hlim := I1.nolimit
    obtain ⟨mb, hb1, hb2⟩ := I1.mod.blt
    have G1 := I1.mod.glob.keeps I1.bk
    have B1 := hb1.keeps I1.bk
    have kin := I1.kIn
    obtain ⟨hp, g, dr, tk, os⟩ := s1
    refine wpAny_call (x_made (s := ⟨hp, g, dr, tk, os⟩) T hf3 kin hlim G1 B1 ((hb2 _ (by decide)).trans (by decide +kernel)) (by have := hr.dp; omega) fun h' tk' e d M => ?_)
    show MkP X pins σ Q (.ref e) ⟨h', g, dr, tk', os⟩
    obtain ⟨oe, fv, hoe, hc, hd, hdat, h1⟩ := M.obj
    have hns := M.ns
    obtain ⟨G', g1, g2⟩ := restrict h' fun b => decide (b ≠ e)
    have gk : ∀ b, b ≠ e → G'.get? b = h'.get? b := fun b hb => g1 b (decide_eq_true hb)
    have ge : G'.get? e = none := g2 e (by simp)
    have old : ∀ b o, hp.get? b = some o → G'.get? b = some o := fun b o q => (gk b (Nat.ne_of_lt (Nat.lt_of_lt_of_le (Heap.lt_size q) M.new))).trans (M.keep b o q)
    have ob : ObjOk X.prog X.w (upd H1 d (.xd [(f, v)])) G' d (.xd [(f, v)]) :=
      ⟨_, hns.at (fun o q => (gk d M.dne).trans q), fun y => relO_x rv f y⟩
    have J : Inv X pins σ (upd H1 d (.xd [(f, v)])) ⟨G', g, dr, tk', os⟩ := I1.laid (t' := tk') old M.dbig ob
    refine ⟨e, oe, fv, ⟨G', g, dr, tk', os⟩, _, .ref C, some d, rfl, J, fun b o q => ?_, ge, hoe, ⟨hc, hd⟩, hdat, h1, ?_, rfl, I1.bare, raises_own T.exC T.tyC, q1 d (I1.hok.fresh M.dbig)⟩
    · by_cases hb : b = e
      · have q' : G'.get? b = some o := q
        rw [hb, ge] at q'; cases q'
      · exact (gk b hb).symm.trans q
    · rw [upd_ne (Ne.symm M.dne)]
      exact I1.hok.fresh M.new
/-- raise E(e) -/
def tRaiseX (C : Addr) (f : Str) (W : WX) (ta : TA) : TS := fun _ σ H => tMkX C f ta σ H fun cls d H' => W cls d σ H'
theorem ps_raiseX {a : Expr} {ta : TA} {W : WX} {p pos pos2 : Pos} {k : Nat} (hc : X.calm = true) (T : XCls X.prog X.K X.mg x f C fI) (hf3 : f = "version" ∨ f = "index" ∨ f = "price") (hr : Room k X.A) (tk : Takes X W) (ha : PA X [a] ta) (hg : Gl X x)
    (hdb : (x == ("__debug__" : Str)) = false := by decide) (he : starEach (a :: []) X.env = (false, eval a X.env) :: starEach [] X.env := by rfl) (hpl : (backTo pos (starEach [] X.env)).any (·.1) = false := by rfl) :
    PS X (.Raise (some (.Call (.Name x p) [a] [] pos)) none pos2) (tRaiseX C f W ta) := ps_raise hc tk (pmk_x T hf3 hr ha hg hdb he hpl)
end
end LK
set_option maxHeartbeats 4000000
/-! try with several clauses that bind one name; isinstance of what they hold. -/
namespace LK
open PySem PySem.Spec PyProof.Rows L2
/-- where a suite ends its name goes -/
def gone (i : Nat) (D : Ends) : Ends := { nx := fun σ H => D.nx (σ.set i none) H, rt := D.rt, bk := fun σ H => D.bk (σ.set i none) H, ct := fun σ H => D.ct (σ.set i none) H }
abbrev Cl := Value × (Addr → Value → Option Addr → TS)
def wMA (K : PySem.W.Frag) (i : Nat) (Wout : WX) (D : Ends) : List Cl → WX
  | [] => Wout
  | q :: r => fun cls d σ H => ∃ b, PySem.W.exmOne K cls q.1 = some b ∧ (b = true → ∀ a, H a = none → q.2 a cls d (gone i D) (σ.set i (some (.ref a))) H) ∧ (b = false → wMA K i Wout D r cls d σ H)
inductive HdsAs (X : Cx) (n : Str) : List ExceptHandler → List Cl → Prop
  | nil : HdsAs X n [] []
  | cons {x : Str} {c : Value} {ts : Addr → Value → Option Addr → TS} {b0 : Stmt} {su : List Stmt} {np ep : Pos} {hds : List ExceptHandler} {l : List Cl} (hc : Names X x c)
      (hsu : ∀ (a : Addr) (oe : Obj) (cls : Value) (d : Option Addr) (pn : List (Addr × Obj)), Zc cls d oe → (∃ vs, oe.data = .fields vs) → PSs (X.suite a ((a, oe) :: pn)) (b0 :: su) (ts a cls d)) (r : HdsAs X n hds l) :
      HdsAs X n (.ExceptHandler (some (.Name x np)) (some n) (b0 :: su) ep :: hds) ((c, ts) :: l)
section
variable {X : Cx} {n : Str} {i : Nat} {body : List Stmt} {hd : ExceptHandler} {hds : List ExceptHandler} {l : List Cl} {pos : Pos} {tb : WX → TS} {Wout : WX}
theorem ps_try_ma (hs : X.stack = X.env :: X.outer) (hf : X.env.frame = some X.env.locals) (hN : X.N.Nodup) (hi : X.N[i]? = some n) (hln : X.env.kindOf n = some .local) (tk : Takes X Wout)
    (hb : ∀ (W : WX) (pn : List (Addr × Obj)) (xe : Value → Shared → Prop), Takes (X.tr pn xe) W → PassesOwn (model X.prog X.w) X.A X.env xe → PSs (X.tr pn xe) body (tb W))
    (hh : HdsAs X n (hd :: hds) l) : PS X (.Try body (hd :: hds) [] [] pos) (fun D σ H => tb (wMA X.K i Wout D l) D σ H) := by
  refine ⟨fun pins s σ H D I h => ?_⟩
  have ok := I.ok
  have hfr : X.A.frames = some (X.env :: X.outer) := by rw [ok.frames, hs]
  refine wpAny_Try_except ?_
  refine wpAny_mono ((hb (wMA X.K i Wout D l) (X.pn ++ pins) (fun e s1 => wpAny (model X.prog X.w) X.A (noteFrame e X.env) (fun _ s2 => wpAny (model X.prog X.w) X.A (setFlight e none) (fun _ s3 =>
    wpAny (model X.prog X.w) X.A (handleBy e X.env (hd :: hds)) (SP X pins D) X.xe s3) X.xe s2) X.xe s1) (fun u s' xx => ?_) PassesOwn.looking).run [] s σ H D (I.toTry _) h) (fun f s1 hsp => ?_) (fun e s1 he => he)
  · obtain ⟨a, B, sI, pins', σ', H', cls, d, rfl, J0, nb, up, sky, na, os, ag, wish⟩ := xx
    have J := J0.ofTry ok
    have sky2 : Sky B (X.env :: X.outer) a (Zc cls d) X.env.locals s'.heap := by rw [← hs]; exact sky
    show wpAny (model X.prog X.w) X.A (noteFrame (.ref a) X.env) _ _ _
    refine Sky.land Zc.steady hfr hf sky2 fun h3 fl3 up3 => ?_
    have J3 : Inv X pins σ' H' { s' with heap := h3 } := J.landed nb fl3.1 (up.trans up3) os ag
    obtain ⟨oe3, vs3, he3, hz3, hd3⟩ := fl3.there
    have nfr : a ∉ frs (X.env :: X.outer) := fun hm => by
      obtain ⟨_, o', e', hnf⟩ := (fl3.2.2.1).mem hm
      rw [he3] at e'; cases e'
      exact hnf _ hd3
    have nL : a ≠ X.env.locals := fun z => nfr (List.mem_filterMap.mpr ⟨X.env, List.mem_cons_self, hf.trans (congrArg some z.symm)⟩)
    have nF : a ∉ X.fs := fun hm => nfr (by
      obtain ⟨e, he, q⟩ := List.mem_filterMap.mp hm
      exact List.mem_filterMap.mpr ⟨e, List.mem_cons_of_mem _ he, q⟩)
    have S3 := J3.suite he3 hd3 na nL nF
    have go : ∀ {hds' : List ExceptHandler} {l' : List Cl}, HdsAs X n hds' l' → wMA X.K i Wout D l' cls d σ' H' → wpAny (model X.prog X.w) X.A (handleBy (.ref a) X.env hds') (SP X pins D) X.xe { s' with heap := h3 } := by
      intro hds' l' hk
      induction hk with
      | nil =>
        intro wsh
        refine wpAny_handleBy_nil ?_
        obtain ⟨_, _, _, oe, vs, T, oT, ts', he, hz, hdd, h1, hr⟩ := id fl3
        unfold PySem.passOn
        refine wpAny_bind (wpAny_field he hdd h1 ?_)
        rw [if_neg (show ¬ ((Value.ref T == Value.none) = true) from by simp)]
        have fin : wpAny (model X.prog X.w) X.A (setFlight (.ref a) X.env.frame) (fun _ s4 => wpAny (model X.prog X.w) X.A (throw (.ref a) : Sem Flow) (SP X pins D) X.xe s4) X.xe { s' with heap := h3 } := by
          rw [hf]
          exact HandSPX.setFlight_upZ fl3 fun h4 hh4 up4 => wpAny_throw (tk _ _ ⟨a, B, sI, pins, σ', H', cls, d, rfl, J, nb, (up.trans up3).trans up4, .inr (.inr (by rw [hs]; exact hh4)), na, os, ag, wsh⟩)
        first
          | exact wpAny_bind fin
          | exact wpAny_bind (wpAny_pure (wpAny_bind fin))
      | @cons x c ts b0 su np ep hds2 l2 hc hsu r ih =>
        intro wsh
        obtain ⟨b, hb1, hyes, hno⟩ := wsh
        refine wpAny_handleBy_cons (codeAny_handlers_test ?_) (by intro q; cases q)
        have LT : PySem.W.Looks (model X.prog X.w) h3 (typeOf (.ref a)) cls := fun A Q E s k q => wpAny_typeOf_ref (k _ _ he3) (by rw [hz3.1]; exact q)
        have LM := PySem.W.exm_one (M := model X.prog X.w) (J3.kIn) LT hb1
        have test : ∀ {Q E : Value → Shared → Prop}, Q c { s' with heap := h3 } → wpAny (model X.prog X.w) (X.A.mark (some (.ref a))) (eval (.Name x np) X.env) Q E { s' with heap := h3 } := fun {Q E} q => by
          rcases hc with ⟨hg, hdb, hm | ⟨hm, hv, hnn⟩⟩
          · exact ld_glob (X := X.suite a ((a, oe3) :: (X.pn ++ pins))) S3 hg hm q hdb
          · exact ld_blt (X := X.suite a ((a, oe3) :: (X.pn ++ pins))) S3 hg hm hv q hnn hdb
        refine test (LM.here ?_)
        cases b with
        | false => exact ih (hno rfl)
        | true =>
          refine codeAny_handlers_suite_as ?_
          refine HandSPX.lands_againZ fl3 fun h4 fl4 up4 => ?_
          have J4 : Inv X pins σ' H' { s' with heap := h4 } := J.landed nb fl4.1 ((up.trans up3).trans up4) os ag
          obtain ⟨oe4, vs4, he4, hz4, hd4⟩ := fl4.there
          have S4 := J4.suite he4 hd4 na nL nF
          refine store_ok (X := X.suite a ((a, oe4) :: (X.pn ++ pins))) (v := .ref a) S4 hN hi (.inl hln) rfl (fun s5 S5 => ?_) (.inr hln)
          refine wpAny_mono ((hsu a oe4 cls d (X.pn ++ pins) hz4 ⟨_, hd4⟩).run [] s5 _ H' _ S5 (hyes rfl a na)) (fun f s6 hsp => ?_) (fun _ _ z => False.elim z)
          have fin : ∀ {σ6 : L2.St} {H6 : Hp} {Q : Shared → Prop}, Inv (X.suite a ((a, oe4) :: (X.pn ++ pins))) [] σ6 H6 s6 → (∀ s7, Inv X pins (σ6.set i none) H6 s7 → Q s7) →
              wpAny (model X.prog X.w) X.A (do bindName X.env n .none; unbindBehindTheSuite X.env n ep) (fun _ s7 => Q s7) X.xe s6 := fun {σ6 H6 Q} S6 hq => gone_ok (S6.unsuite ok) hN hi hln hq
          cases f with
          | next => exact hsp.elim fun σ6 z => z.elim fun H6 z => fin z.1 fun s7 J7 => ⟨_, _, J7, z.2⟩
          | brk => exact hsp.elim fun σ6 z => z.elim fun H6 z => fin z.1 fun s7 J7 => ⟨_, _, J7, z.2⟩
          | cont => exact hsp.elim fun σ6 z => z.elim fun H6 z => fin z.1 fun s7 J7 => ⟨_, _, J7, z.2⟩
          | ret u => exact hsp.elim fun v6 z => z.elim fun σ6 z => z.elim fun H6 z => fin z.1 fun s7 J7 => ⟨_, _, _, J7, z.2.1, z.2.2⟩
    exact go hh wish
  · cases f with
    | next => exact hsp.elim fun σ1 z => z.elim fun H1 z => wpAny_execs_nil ⟨σ1, H1, z.1.ofTry ok, z.2⟩
    | brk => exact hsp.elim fun σ1 z => z.elim fun H1 z => ⟨σ1, H1, z.1.ofTry ok, z.2⟩
    | cont => exact hsp.elim fun σ1 z => z.elim fun H1 z => ⟨σ1, H1, z.1.ofTry ok, z.2⟩
    | ret u => exact hsp.elim fun v1 z => z.elim fun σ1 z => z.elim fun H1 z => ⟨v1, σ1, H1, z.1.ofTry ok, z.2⟩
end

/-! ### isinstance of the exception that a suite holds -/
/-- what its class D must say -/
structure XIs (K : PySem.W.Frag) (D : Addr) : Prop where
  cl : (PySem.W.clsIn K D).isSome = true
  ga : PySem.W.findIn K (.ref D) "__getattribute__" = some (some (.builtin "BaseException.__getattribute__"))
  gg : PySem.W.findIn K (.ref D) "__getattr__" = some none
  cs : PySem.W.findIn K (.ref D) "__class__" = some (some (.builtin "object.__class__"))
  sp : PySem.W.specialIn K (.builtin "object.__class__") "__get__" = some (some (.builtin "getset_descriptor.__get__"))
  tk : PySem.W.takesIn K (.builtin "object.__class__") = some true
section
variable {X : Cx} {a : Addr} {oe : Obj} {pn : List (Addr × Obj)} {cls : Value} {d : Option Addr}
theorem x_inst {X : Cx} {pins : List (Addr × Obj)} {σ : L2.St} {H : Hp} {s : Shared} {D dd : Addr} {fs : List (Str × V)} (I : Inv (X.suite a ((a, oe) :: pn)) pins σ H s) (hz : Zc (.ref D) (some dd) oe) (hf : ∃ vs, oe.data = .fields vs) (hd : H dd = some (.xd fs)) :
    ∃ od, PySem.W.InstAt s.heap a oe D (some od) := by
  obtain ⟨ha, _⟩ := I.pin (a, oe) (List.mem_append_left _ List.mem_cons_self)
  obtain ⟨vs, hv⟩ := hf
  have hx : ObjOk X.prog X.w H s.heap dd (.xd fs) := I.hok dd _ hd
  obtain ⟨mA, hns, _⟩ := hx
  obtain ⟨od, ho, _⟩ := lookIn_ns hns
  exact ⟨od, ha, hz.1, by unfold PySem.W.notCls; rw [hv] <;> rfl, by rw [hz.2]; exact ho⟩
def XIs.kit {K : PySem.W.Frag} {D : Addr} {od : Option Obj} (T : XIs K D) (h1 : PySem.W.subIn K (.ref D) (.type "BaseException") = some true) (h2 : PySem.W.mroIn K D (.type "object") = some true) :
    PySem.W.KitX K (.ref a) (.ref D) (fun h => PySem.W.InstAt h a oe D od) := PySem.W.kitx_exc T.cl T.ga T.gg h1 T.cs T.sp T.tk h2
/-- isinstance(e, c) -/
def rIsX (K : PySem.W.Frag) (a : Addr) (cls : Value) (d : Option Addr) : List V → Hp → VK → Prop := fun xs H Q => ∃ (D dd : Addr) (fs : List (Str × V)) (c : V) (cv : Value) (b : Bool), cls = .ref D ∧ d = some dd ∧
  (XIs K D ∧ PySem.W.subIn K (.ref D) (.type "BaseException") = some true ∧ PySem.W.mroIn K D (.type "object") = some true) ∧ H dd = some (.xd fs) ∧ xs = [.ref a, c] ∧ ClsV c cv ∧ PySem.W.kitOne K (.ref D) cv = some b ∧ Q (.bl b) H
theorem k_isX (hz : Zc cls d oe) (hf : ∃ vs, oe.data = .fields vs) : CallR (X.suite a ((a, oe) :: pn)) (.builtin "isinstance") (rIsX X.K a cls d) := by
  intro pins s σ H xs us Q I r h
  obtain ⟨D, dd, fs, c, cv, b, rfl, rfl, ⟨T, h1, h2⟩, hd, rfl, hc, e, q⟩ := h
  obtain ⟨u1, u2, rfl, r1, r2⟩ := vals2 r
  have e2 := hc.eq r2
  subst e2
  obtain rfl : u1 = Value.ref a := r1
  obtain ⟨od, J⟩ := x_inst I hz hf hd
  exact PySem.W.kia_one (T.kit h1 h2) I.kIn J e (fun z => nomatch z) fun tk => ⟨.bl b, H, I.kept (t' := tk) fun _ _ z => z, rfl, q⟩
/-- isinstance(e, (c, ..)) -/
def rIsXT (K : PySem.W.Frag) (a : Addr) (cls : Value) (d : Option Addr) : List V → Hp → VK → Prop := fun xs H Q => ∃ (D dd tp : Addr) (fs : List (Str × V)) (cs : List V) (us : List Value) (b : Bool), cls = .ref D ∧ d = some dd ∧
  (XIs K D ∧ PySem.W.subIn K (.ref D) (.type "BaseException") = some true ∧ PySem.W.mroIn K D (.type "object") = some true) ∧ H dd = some (.xd fs) ∧ xs = [.ref a, .ref tp] ∧ H tp = some (.tup cs) ∧ Paired ClsV cs us ∧ PySem.W.kitAny K (.ref D) us = some b ∧ Q (.bl b) H
theorem k_isXT (hz : Zc cls d oe) (hf : ∃ vs, oe.data = .fields vs) : CallR (X.suite a ((a, oe) :: pn)) (.builtin "isinstance") (rIsXT X.K a cls d) := by
  intro pins s σ H xs us Q I r h
  obtain ⟨D, dd, tp, fs, cs, ws, b, rfl, rfl, ⟨T, h1, h2⟩, hd, rfl, hT, k, e, q⟩ := h
  obtain ⟨u1, u2, rfl, r1, r2⟩ := vals2 r
  obtain rfl : u1 = Value.ref a := r1
  obtain rfl : u2 = Value.ref tp := r2
  obtain ⟨od, J⟩ := x_inst I hz hf hd
  obtain ⟨_, its, rv, o, h3, h4, n, h5⟩ := (show ObjOk X.prog X.w H s.heap tp (.tup cs) from I.hok tp _ hT)
  have e3 := ClsV.all k rv
  subst e3
  obtain ⟨oc, od2, dt, sl⟩ := o
  simp only at h4 h5
  subst h4 h5
  exact PySem.W.kia_tup (T.kit h1 h2) I.kIn J h3 e (fun z => nomatch z) fun tk => ⟨.bl b, H, I.kept (t' := tk) fun _ _ z => z, rfl, q⟩
end
end LK
set_option maxHeartbeats 4000000
/-! What the top leaves. Printed by gentxt.py. -/
namespace LK
open PySem PySem.Spec PyProof.Rows L2
abbrev BK (K : PySem.W.Frag) : Addr := He.ga K "Book"
abbrev xN (K : PySem.W.Frag) : Addr := He.ga K "NotAVersion"
abbrev xR (K : PySem.W.Frag) : Addr := He.ga K "BadRequest"
abbrev xP (K : PySem.W.Frag) : Addr := He.ga K "BadPrice"
abbrev xL (K : PySem.W.Frag) : Addr := He.ga K "LivecopyError"
/-- an own error's class, as the except suites ask it -/
structure XAll (P : Program) (K : PySem.W.Frag) (mg : Str → Option Value) (x f : Str) (C : Addr) : Prop where
  c : XCls P K mg x f C (He.ma K C "__init__")
  i : XIs K C
  mo : PySem.W.mroIn K C (.type "object") = some true
  f : XfC K C
  isL : PySem.W.kitOne K (.ref C) (.ref (xL K)) = some true
  isV : PySem.W.kitOne K (.ref C) (.type "ValueError") = some true
structure Txt (P : Program) (K : PySem.W.Frag) (mg : Str → Option Value) : Prop where
  b_len : mg "len" = none
  b_min : mg "min" = none
  b_max : mg "max" = none
  b_abs : mg "abs" = none
  b_int : mg "int" = none
  b_list : mg "list" = none
  b_tuple : mg "tuple" = none
  b_range : mg "range" = none
  b_isinstance : mg "isinstance" = none
  b_sorted : mg "sorted" = none
  b_ValueError : mg "ValueError" = none
  b_bool : mg "bool" = none
  isqrt : mg "isqrt" = some (.builtin "math.isqrt")
  gBook : mg "Book" = some (.ref (BK K))
  cl : Cls K (BK K)
  mkB : Mk K (BK K) (He.ma K (BK K) "__init__")
  n_cells : NoAttr K (BK K) "cells"
  n_base : NoAttr K (BK K) "_base"
  n_numbers : NoAttr K (BK K) "_numbers"
  n_values : NoAttr K (BK K) "_values"
  n_sizes : NoAttr K (BK K) "_sizes"
  n_needs : NoAttr K (BK K) "_needs"
  n_bars : NoAttr K (BK K) "_bars"
  n_writers : NoAttr K (BK K) "_writers"
  m_init : Dm K (BK K) "__init__" "Book.__init__" (inClass (top 20) 0) [] []
  m_make_patch : Dm K (BK K) "make_patch" "Book.make_patch" (inClass (top 20) 1) [] [("size", .int 0)]
  m_new_bars : Dm K (BK K) "_new_bars" "Book._new_bars" (inClass (top 20) 2) [] []
  m_members : Dm K (BK K) "_members" "Book._members" (inClass (top 20) 3) [] []
  m_check_number : Dm K (BK K) "check_number" "Book.check_number" (inClass (top 20) 4) [] []
  m_mask_of : Dm K (BK K) "mask_of" "Book.mask_of" (inClass (top 20) 16) [] []
  m_holds : Dm K (BK K) "holds" "Book.holds" (inClass (top 20) 17) [] []
  m_len : Dm K (BK K) "__len__" "Book.__len__" (inClass (top 20) 18) [] []
  m_contains : Dm K (BK K) "__contains__" "Book.__contains__" (inClass (top 20) 20) [] []
  d_clip : Df K mg "clip" (top 15) [] []
  d_checked_look : Df K mg "checked_look" (top 16) [] []
  d_checked_writes : Df K mg "checked_writes" (top 19) [] []
  d_need_version : Df K mg "need_version" (top 22) [] []
  d_need_requests : Df K mg "need_requests" (top 24) [] []
  d_signed_counts : Df K mg "signed_counts" (top 25) [] []
  d_forward : Df K mg "forward" (top 27) [] []
  d_backward : Df K mg "backward" (top 28) [] [("last", .int 0)]
  d_counter_sums : Df K mg "counter_sums" (top 29) [] []
  d_row_between : Df K mg "row_between" (top 30) [] []
  d_homes_of : Df K mg "homes_of" (top 31) [] []
  d_stretch_row : Df K mg "stretch_row" (top 33) [] []
  d_stretch_plan : Df K mg "stretch_plan" (top 34) [] []
  d_positive_prices : Df K mg "positive_prices" (top 36) [] []
  d_middle_plan : Df K mg "middle_plan" (top 37) [] [("look", .int 1), ("toggle", .int 1)]
  d__law_source : Df K mg "_law_source" (top 39) [] []
  d__law_draw : Df K mg "_law_draw" (top 40) [] []
  d__law_needs : Df K mg "_law_needs" (top 41) [] []
  d__law_bars : Df K mg "_law_bars" (top 42) [] []
  d__law_writes : Df K mg "_law_writes" (top 43) [] []
  d__law_grow : Df K mg "_law_grow" (top 44) [] []
  d__law_model : Df K mg "_law_model" (top 45) [] []
  d__law_book : Df K mg "_law_book" (top 46) [] []
  d__law_fits : Df K mg "_law_fits" (top 47) [] []
  d__law_version : Df K mg "_law_version" (top 48) [] []
  d__law_count : Df K mg "_law_count" (top 49) [] []
  d__law_row : Df K mg "_law_row" (top 50) [] []
  d__law_apart : Df K mg "_law_apart" (top 51) [] []
  d__law_cost : Df K mg "_law_cost" (top 52) [] []
  d__law_solo : Df K mg "_law_solo" (top 53) [] []
  d__law_sum : Df K mg "_law_sum" (top 54) [] []
  d__law_alike : Df K mg "_law_alike" (top 55) [] []
  d__law_is_version : Df K mg "_law_is_version" (top 56) [] []
  d__law_is_plan : Df K mg "_law_is_plan" (top 57) [] []
  d__law_strange : Df K mg "_law_strange" (top 58) [] []
  d__law_spoil_row : Df K mg "_law_spoil_row" (top 59) [] []
  d__law_wrong : Df K mg "_law_wrong" (top 60) [] []
  d__law_due : Df K mg "_law_due" (top 61) [] []
  d__law_sides : Df K mg "_law_sides" (top 62) [] []
  d__law_plan : Df K mg "_law_plan" (top 63) [] []
  d__law_root : Df K mg "_law_root" (top 64) [] []
  d__law_refused : Df K mg "_law_refused" (top 65) [] []
  d__law_judged : Df K mg "_law_judged" (top 66) [] []
  d_law : Df K mg "law" (top 67) [] []
  x_L : mg "LivecopyError" = some (.ref (xL K))
  x_N : XAll P K mg "NotAVersion" "version" (xN K)
  x_R : XAll P K mg "BadRequest" "index" (xR K)
  x_P : XAll P K mg "BadPrice" "price" (xP K)
  e_NN : PySem.W.exmOne K (.ref (xN K)) (.ref (xN K)) = some true
  e_RN : PySem.W.exmOne K (.ref (xR K)) (.ref (xN K)) = some false
  e_RR : PySem.W.exmOne K (.ref (xR K)) (.ref (xR K)) = some true
  e_PN : PySem.W.exmOne K (.ref (xP K)) (.ref (xN K)) = some false
  e_PR : PySem.W.exmOne K (.ref (xP K)) (.ref (xR K)) = some false
  e_PP : PySem.W.exmOne K (.ref (xP K)) (.ref (xP K)) = some true
  k_N : PySem.W.kitAny K (.ref (xN K)) [.ref (xR K), .ref (xP K)] = some false
  k_R : PySem.W.kitOne K (.ref (xR K)) (.ref (xP K)) = some false
end LK
set_option maxHeartbeats 2000000
/-! The head's facts for this law: own exceptions' __init__ too. -/
namespace LK
open PySem PySem.Spec PyProof.Rows L2
abbrev XW : Type := Option (Str × Str × Arguments × FuncBody × Scope × Addr × List Str × Addr)
def xI (K : PySem.W.Frag) (x : Str) : Addr := He.ma K (He.ga K x) "__init__"
def xW (K : PySem.W.Frag) (x : Str) : XW := match K.lookup (xI K x) with
  | some ⟨_, _, .func fd, _⟩ => some (fd.name, fd.qualname, fd.params, fd.body, fd.scope, fd.globals, fd.closure.map (·.1), fd.builtins)
  | _ => none
def clB (K : PySem.W.Frag) (C : Addr) : Bool := match K.lookup C with
  | some ⟨.type "type", _, .cls cd, sl⟩ => (match cd.mro, sl.toList with
    | .ref C' :: bm, [_, _, _, _, some (.builtin n), _] => C' == C && n == "ValueError.__new__" && !cd.hasDel && PySem.HandSPX.refsVE bm && cd.hasDict
    | _, _ => false)
  | _ => false
def fnB (file : Str) (K : PySem.W.Frag) (C fI : Addr) : Bool := match K.lookup fI with
  | some ⟨_, _, .func fd, _⟩ => (match fd.code, fd.closure, fd.defaults with
    | .ref cda, [(_, cc)], .none => PySem.W.codeIn K fd.code fd.qualname && (match K.lookup cda with
        | some ⟨_, _, .fields vs, _⟩ => (match (vs[2]? : Option Value) with
          | some (.str fl _) => (file == fl)
          | _ => false)
        | _ => false) && (match K.lookup cc with
        | some ⟨_, _, .cell (some (.ref C')), _⟩ => C' == C
        | _ => false)
    | _, _, _ => false)
  | _ => false
def oo (a b : Option (Option Value)) : Bool := decide (a = b)
def ob2 (a b : Option Bool) : Bool := decide (a = b)
def xisB (K : PySem.W.Frag) (D : Addr) : Bool := (PySem.W.clsIn K D).isSome && (oo (PySem.W.findIn K (.ref D) "__getattribute__") (some (some (.builtin "BaseException.__getattribute__"))) && (oo (PySem.W.findIn K (.ref D) "__getattr__") (some none) &&
  (oo (PySem.W.findIn K (.ref D) "__class__") (some (some (.builtin "object.__class__"))) && (oo (PySem.W.specialIn K (.builtin "object.__class__") "__get__") (some (some (.builtin "getset_descriptor.__get__"))) && ob2 (PySem.W.takesIn K (.builtin "object.__class__")) (some true)))))
def xB (file : Str) (K : PySem.W.Frag) (x f : Str) : Bool :=
  (clB K (He.ga K x) && (oo (PySem.W.findIn K (.ref (He.ga K x)) "__setattr__") (some (some (.builtin "object.__setattr__"))) && (oo (PySem.W.findIn K (.ref (He.ga K x)) f) (some none) && (oo (PySem.W.findIn K (.ref (He.ga K x)) "__init__") (some (some (.ref (xI K x)))) &&
  (decide (PySem.W.typeIn K (.ref (xI K x)) = some (.type "function")) && (PySem.W.keepIn K (.ref (He.ga K x)) && (ob2 (PySem.W.subIn K (.ref (He.ga K x)) (.type "BaseException")) (some true) && (decide (PySem.W.typeIn K (.ref (He.ga K x)) = some (.type "type")) &&
  (PySem.W.hasDictIn K (He.ga K x) && (oo (PySem.W.ks_superIn K (He.ga K x) (He.ga K x) "__init__") (some (some (.builtin "ValueError.__init__"))) && (ob2 (PySem.W.subIn K (.ref (He.ga K x)) (.type "ValueError")) (some true) && (ob2 (PySem.W.mroIn K (He.ga K x) (.ref (He.ga K x))) (some true) &&
  (oo (PySem.W.nsIn K cStatics "thirdparty.any") (some none) && (fnB file K (He.ga K x) (xI K x) && (xisB K (He.ga K x) && (ob2 (PySem.W.mroIn K (He.ga K x) (.type "object")) (some true) && (xfB K (He.ga K x) && (ob2 (PySem.W.kitOne K (.ref (He.ga K x)) (.ref (xL K))) (some true) && ob2 (PySem.W.kitOne K (.ref (He.ga K x)) (.type "ValueError")) (some true)))))))))))))))))))
def moreB (K : PySem.W.Frag) : Bool :=
  oo (PySem.W.nsIn K mainGlobals "isqrt") (some (some (.builtin "math.isqrt"))) && (ob2 (PySem.W.exmOne K (.ref (xN K)) (.ref (xN K))) (some true) && (ob2 (PySem.W.exmOne K (.ref (xR K)) (.ref (xN K))) (some false) && (ob2 (PySem.W.exmOne K (.ref (xR K)) (.ref (xR K))) (some true) &&
  (ob2 (PySem.W.exmOne K (.ref (xP K)) (.ref (xN K))) (some false) && (ob2 (PySem.W.exmOne K (.ref (xP K)) (.ref (xR K))) (some false) && (ob2 (PySem.W.exmOne K (.ref (xP K)) (.ref (xP K))) (some true) && (ob2 (PySem.W.kitAny K (.ref (xN K)) [.ref (xR K), .ref (xP K)]) (some false) && ob2 (PySem.W.kitOne K (.ref (xR K)) (.ref (xP K))) (some false))))))))
abbrev AlL : Type := He.AlD × Bool × List XW
def xs3 : List (Str × Str) := [("NotAVersion", "version"), ("BadRequest", "index"), ("BadPrice", "price")]
def obsL (file : Str) (fa : List He.Fa) (fn : List He.DefD) (K : PySem.W.Frag) : AlL := (He.obsD fa fn K, (xs3.all fun q => xB file K q.1 q.2) && moreB K, xs3.map fun q => xW K q.1)
/-- the addresses looked at: all below n -/
def asL : Nat → List Addr
  | 0 => []
  | n + 1 => n :: asL n
def obsLG (n : Nat) (file : Str) (fa : List He.Fa) (fn : List He.DefD) (g : Addr → Option Obj) : AlL := obsL file fa fn (He.frG g (asL n))
def hookL (n : Nat) (file : Str) (fa : List He.Fa) (fn : List He.DefD) (xv : List XW) : PySem.W.Hook where
  α := AlL
  obs := fun s => obsLG n file fa fn s.heap.get?
  val := fun _ => (He.valD fn, true, xv)
  says := fun _ h => ∃ K : PySem.W.Frag, K.In h ∧ obsL file fa fn K = (He.valD fn, true, xv)
  of := fun _ _ e => ⟨_, He.frG_in, e⟩
  keeps := fun _ _ _ ⟨K, hK, c⟩ k => ⟨K, PySem.W.Frag.In.keeps hK k, c⟩
theorem obsLG_eq {n : Nat} {file : Str} {fa : List He.Fa} {fn : List He.DefD} {xv : List XW} {g : Addr → Option Obj} {s : Shared} (h : ∀ a, g a = s.heap.get? a) : obsLG n file fa fn g = (hookL n file fa fn xv).obs s := by
  have e : g = s.heap.get? := funext h
  rw [e] <;> rfl
end LK
set_option maxHeartbeats 0
/-! The head's run. Printed by genhd.py. -/
namespace LK
open PySem PySem.Spec PyProof.Rows L2
def faL : List He.Fa := [.free "len", .free "min", .free "max", .free "abs", .free "int", .free "list", .free "tuple", .free "range", .free "isinstance", .free "sorted", .free "ValueError", .free "bool", .free "super", .glo "Book", .cls "Book", .mkr "Book", .noat "Book" "cells", .noat "Book" "_base", .noat "Book" "_numbers", .noat "Book" "_values", .noat "Book" "_sizes", .noat "Book" "_needs", .noat "Book" "_bars", .noat "Book" "_writers", .meth "Book" "__init__", .meth "Book" "make_patch", .meth "Book" "_new_bars", .meth "Book" "_members", .meth "Book" "check_number", .meth "Book" "mask_of", .meth "Book" "holds", .meth "Book" "__len__", .meth "Book" "__contains__", .glo "LivecopyError", .glo "NotAVersion", .glo "BadRequest", .glo "BadPrice", .glo "clip", .glo "checked_look", .glo "checked_writes", .glo "need_version", .glo "need_requests", .glo "signed_counts", .glo "forward", .glo "backward", .glo "counter_sums", .glo "row_between", .glo "homes_of", .glo "stretch_row", .glo "stretch_plan", .glo "positive_prices", .glo "middle_plan", .glo "_law_source", .glo "_law_draw", .glo "_law_needs", .glo "_law_bars", .glo "_law_writes", .glo "_law_grow", .glo "_law_model", .glo "_law_book", .glo "_law_fits", .glo "_law_version", .glo "_law_count", .glo "_law_row", .glo "_law_apart", .glo "_law_cost", .glo "_law_solo", .glo "_law_sum", .glo "_law_alike", .glo "_law_is_version", .glo "_law_is_plan", .glo "_law_strange", .glo "_law_spoil_row", .glo "_law_wrong", .glo "_law_due", .glo "_law_sides", .glo "_law_plan", .glo "_law_root", .glo "_law_refused", .glo "_law_judged", .glo "law"]
def fnL : List He.DefD := [⟨("Book", some "__init__"), "__init__", "Book.__init__", defArgs (inClass (top 20) 0), defBody (inClass (top 20) 0), defScope (inClass (top 20) 0), [], []⟩,
  ⟨("Book", some "make_patch"), "make_patch", "Book.make_patch", defArgs (inClass (top 20) 1), defBody (inClass (top 20) 1), defScope (inClass (top 20) 1), [], [("size", .int 0)]⟩,
  ⟨("Book", some "_new_bars"), "_new_bars", "Book._new_bars", defArgs (inClass (top 20) 2), defBody (inClass (top 20) 2), defScope (inClass (top 20) 2), [], []⟩,
  ⟨("Book", some "_members"), "_members", "Book._members", defArgs (inClass (top 20) 3), defBody (inClass (top 20) 3), defScope (inClass (top 20) 3), [], []⟩,
  ⟨("Book", some "check_number"), "check_number", "Book.check_number", defArgs (inClass (top 20) 4), defBody (inClass (top 20) 4), defScope (inClass (top 20) 4), [], []⟩,
  ⟨("Book", some "mask_of"), "mask_of", "Book.mask_of", defArgs (inClass (top 20) 16), defBody (inClass (top 20) 16), defScope (inClass (top 20) 16), [], []⟩,
  ⟨("Book", some "holds"), "holds", "Book.holds", defArgs (inClass (top 20) 17), defBody (inClass (top 20) 17), defScope (inClass (top 20) 17), [], []⟩,
  ⟨("Book", some "__len__"), "__len__", "Book.__len__", defArgs (inClass (top 20) 18), defBody (inClass (top 20) 18), defScope (inClass (top 20) 18), [], []⟩,
  ⟨("Book", some "__contains__"), "__contains__", "Book.__contains__", defArgs (inClass (top 20) 20), defBody (inClass (top 20) 20), defScope (inClass (top 20) 20), [], []⟩,
  ⟨("clip", none), "clip", "clip", defArgs (top 15), defBody (top 15), defScope (top 15), [], []⟩,
  ⟨("checked_look", none), "checked_look", "checked_look", defArgs (top 16), defBody (top 16), defScope (top 16), [], []⟩,
  ⟨("checked_writes", none), "checked_writes", "checked_writes", defArgs (top 19), defBody (top 19), defScope (top 19), [], []⟩,
  ⟨("need_version", none), "need_version", "need_version", defArgs (top 22), defBody (top 22), defScope (top 22), [], []⟩,
  ⟨("need_requests", none), "need_requests", "need_requests", defArgs (top 24), defBody (top 24), defScope (top 24), [], []⟩,
  ⟨("signed_counts", none), "signed_counts", "signed_counts", defArgs (top 25), defBody (top 25), defScope (top 25), [], []⟩,
  ⟨("forward", none), "forward", "forward", defArgs (top 27), defBody (top 27), defScope (top 27), [], []⟩,
  ⟨("backward", none), "backward", "backward", defArgs (top 28), defBody (top 28), defScope (top 28), [], [("last", .int 0)]⟩,
  ⟨("counter_sums", none), "counter_sums", "counter_sums", defArgs (top 29), defBody (top 29), defScope (top 29), [], []⟩,
  ⟨("row_between", none), "row_between", "row_between", defArgs (top 30), defBody (top 30), defScope (top 30), [], []⟩,
  ⟨("homes_of", none), "homes_of", "homes_of", defArgs (top 31), defBody (top 31), defScope (top 31), [], []⟩,
  ⟨("stretch_row", none), "stretch_row", "stretch_row", defArgs (top 33), defBody (top 33), defScope (top 33), [], []⟩,
  ⟨("stretch_plan", none), "stretch_plan", "stretch_plan", defArgs (top 34), defBody (top 34), defScope (top 34), [], []⟩,
  ⟨("positive_prices", none), "positive_prices", "positive_prices", defArgs (top 36), defBody (top 36), defScope (top 36), [], []⟩,
  ⟨("middle_plan", none), "middle_plan", "middle_plan", defArgs (top 37), defBody (top 37), defScope (top 37), [], [("look", .int 1), ("toggle", .int 1)]⟩,
  ⟨("_law_source", none), "_law_source", "_law_source", defArgs (top 39), defBody (top 39), defScope (top 39), [], []⟩,
  ⟨("_law_draw", none), "_law_draw", "_law_draw", defArgs (top 40), defBody (top 40), defScope (top 40), [], []⟩,
  ⟨("_law_needs", none), "_law_needs", "_law_needs", defArgs (top 41), defBody (top 41), defScope (top 41), [], []⟩,
  ⟨("_law_bars", none), "_law_bars", "_law_bars", defArgs (top 42), defBody (top 42), defScope (top 42), [], []⟩,
  ⟨("_law_writes", none), "_law_writes", "_law_writes", defArgs (top 43), defBody (top 43), defScope (top 43), [], []⟩,
  ⟨("_law_grow", none), "_law_grow", "_law_grow", defArgs (top 44), defBody (top 44), defScope (top 44), [], []⟩,
  ⟨("_law_model", none), "_law_model", "_law_model", defArgs (top 45), defBody (top 45), defScope (top 45), [], []⟩,
  ⟨("_law_book", none), "_law_book", "_law_book", defArgs (top 46), defBody (top 46), defScope (top 46), [], []⟩,
  ⟨("_law_fits", none), "_law_fits", "_law_fits", defArgs (top 47), defBody (top 47), defScope (top 47), [], []⟩,
  ⟨("_law_version", none), "_law_version", "_law_version", defArgs (top 48), defBody (top 48), defScope (top 48), [], []⟩,
  ⟨("_law_count", none), "_law_count", "_law_count", defArgs (top 49), defBody (top 49), defScope (top 49), [], []⟩,
  ⟨("_law_row", none), "_law_row", "_law_row", defArgs (top 50), defBody (top 50), defScope (top 50), [], []⟩,
  ⟨("_law_apart", none), "_law_apart", "_law_apart", defArgs (top 51), defBody (top 51), defScope (top 51), [], []⟩,
  ⟨("_law_cost", none), "_law_cost", "_law_cost", defArgs (top 52), defBody (top 52), defScope (top 52), [], []⟩,
  ⟨("_law_solo", none), "_law_solo", "_law_solo", defArgs (top 53), defBody (top 53), defScope (top 53), [], []⟩,
  ⟨("_law_sum", none), "_law_sum", "_law_sum", defArgs (top 54), defBody (top 54), defScope (top 54), [], []⟩,
  ⟨("_law_alike", none), "_law_alike", "_law_alike", defArgs (top 55), defBody (top 55), defScope (top 55), [], []⟩,
  ⟨("_law_is_version", none), "_law_is_version", "_law_is_version", defArgs (top 56), defBody (top 56), defScope (top 56), [], []⟩,
  ⟨("_law_is_plan", none), "_law_is_plan", "_law_is_plan", defArgs (top 57), defBody (top 57), defScope (top 57), [], []⟩,
  ⟨("_law_strange", none), "_law_strange", "_law_strange", defArgs (top 58), defBody (top 58), defScope (top 58), [], []⟩,
  ⟨("_law_spoil_row", none), "_law_spoil_row", "_law_spoil_row", defArgs (top 59), defBody (top 59), defScope (top 59), [], []⟩,
  ⟨("_law_wrong", none), "_law_wrong", "_law_wrong", defArgs (top 60), defBody (top 60), defScope (top 60), [], []⟩,
  ⟨("_law_due", none), "_law_due", "_law_due", defArgs (top 61), defBody (top 61), defScope (top 61), [], []⟩,
  ⟨("_law_sides", none), "_law_sides", "_law_sides", defArgs (top 62), defBody (top 62), defScope (top 62), [], []⟩,
  ⟨("_law_plan", none), "_law_plan", "_law_plan", defArgs (top 63), defBody (top 63), defScope (top 63), [], []⟩,
  ⟨("_law_root", none), "_law_root", "_law_root", defArgs (top 64), defBody (top 64), defScope (top 64), [], []⟩,
  ⟨("_law_refused", none), "_law_refused", "_law_refused", defArgs (top 65), defBody (top 65), defScope (top 65), [], []⟩,
  ⟨("_law_judged", none), "_law_judged", "_law_judged", defArgs (top 66), defBody (top 66), defScope (top 66), [], []⟩,
  ⟨("law", none), "law", "law", defArgs (top 67), defBody (top 67), defScope (top 67), [], []⟩]
def xvL : List XW := [some ("__init__", "NotAVersion.__init__", defArgs (inClass (top 10) 0), .stmts (defBody (inClass (top 10) 0)), defScope (inClass (top 10) 0), mainGlobals, ["__class__"], builtinsNs), some ("__init__", "BadRequest.__init__", defArgs (inClass (top 11) 0), .stmts (defBody (inClass (top 11) 0)), defScope (inClass (top 11) 0), mainGlobals, ["__class__"], builtinsNs), some ("__init__", "BadPrice.__init__", defArgs (inClass (top 12) 0), .stmts (defBody (inClass (top 12) 0)), defScope (inClass (top 12) 0), mainGlobals, ["__class__"], builtinsNs)]
abbrev RL : PySem.W.OpenRow := PySem.W.OpenLaw.row PySem.Challenge.rw_livecopy_k40_whole_middle
def fileL : Str := "/claim/cut.py"
abbrev hkL : PySem.W.Hook := hookL 718 fileL faL fnL xvL
def obL (s : PySem.W.SharedT) : AlL := obsLG 718 fileL faL fnL (HandSHeadRun.getT s)
theorem obL_eq (s : PySem.W.SharedT) : obL s = hkL.obs s.abs := obsLG_eq (HandSHeadRun.getT_eq s)
def names1 : List PySem.Str := ["_wall", "__name__", "LivecopyError", "BadCell", "EmptyPatch", "DuplicateCell", "UnknownPatch", "BadSize", "Conflict", "NotAVersion", "BadRequest", "BadPrice", "BadStretch", "clip", "checked_look", "least_number", "checked_writes", "Book", "need_version", "need_requests", "signed_counts", "forward", "backward", "counter_sums", "row_between", "homes_of", "stretch_row", "stretch_plan", "positive_prices", "middle_plan"]
def names2 : List PySem.Str := ["_law_source", "_law_draw", "_law_needs", "_law_bars", "_law_writes", "_law_grow", "_law_model", "_law_book", "_law_fits", "_law_version", "_law_count", "_law_row", "_law_apart", "_law_cost", "_law_solo", "_law_sum", "_law_alike", "_law_is_version", "_law_is_plan", "_law_strange", "_law_spoil_row", "_law_wrong", "_law_due", "_law_sides", "_law_plan", "_law_root", "_law_refused", "_law_judged"]
def names : List PySem.Str := names1 ++ names2
theorem join3 {α β γ δ : Type} {o : Option α} {f : α → β} {g : α → γ} {h : α → δ} {b : β} {c : γ} {d : δ} (h1 : o.map f = some b) (h2 : o.map g = some c) (h3 : o.map h = some d) : o.map (fun x => (f x, g x, h x)) = some (b, c, d) := by
  cases o with
  | none => cases h1
  | some x =>
    have e1 : f x = b := Option.some.inj h1
    have e2 : g x = c := Option.some.inj h2
    have e3 : h x = d := Option.some.inj h3
    subst e1 e2 e3
    rfl
section
open HandSHeadRun
/-- the run, in one -/
noncomputable abbrev allL (w : World) : Option (Shared × PySem.W.SharedT) := wholeF (fun p => stepQ (denQ tabQ) p w) fenceQ 20000 RL.prog
theorem runL1 (w : World) : (allL w).map (fun x => looksF RL.prog x.1.heap x.2.abs) = some true := by
  kernel_rfl
theorem runL2 (w : World) : (allL w).map (fun x => seenQ (PySem.W.view RL.prog [0, 67]) names (PySem.importedModules RL.prog.main.body) (fun s => PySem.W.xlAt (PySem.W.view RL.prog [0, 67]) [] s && PySem.W.recOk RL.toRowW.records s) x.2.abs) = some (PySem.W.openGood (PySem.W.view RL.prog [0, 67]) names) := by
  kernel_rfl
theorem runL3 (w : World) : (allL w).map (fun x => obL x.2) = some (hkL.val w) := by
  kernel_rfl
theorem runL (w : World) : RunEqI RL (PySem.W.view RL.prog [0, 67]) hkL obL 20000 names w := by
  unfold RunEqI
  exact join3 (runL1 w) (runL2 w) (runL3 w)
end
end LK
set_option maxHeartbeats 4000000
/-! The facts read back: own errors. -/
namespace LK
open PySem PySem.Spec PyProof.Rows L2
theorem oo_ok {a b : Option (Option Value)} (h : oo a b = true) : a = b := of_decide_eq_true h
theorem ob_ok {a b : Option Bool} (h : ob2 a b = true) : a = b := of_decide_eq_true h
theorem clB_ok {K : PySem.W.Frag} {C : Addr} (q : clB K C = true) : ∃ nm qn N bs bm sn sub ab col dd k0 k1 k2 k3 k5, K.lookup C = some (excClassObj nm qn C N bs bm true sn sub ab col dd k0 k1 k2 k3 k5 "ValueError.__new__") ∧ PySem.HandSPX.refsVE bm = true := by
  unfold clB at q
  split at q
  · rename_i dd cd sl ho
    split at q
    · rename_i C' bm k0 k1 k2 k3 n k5 hm hs
      simp only [Bool.and_eq_true, beq_iff_eq, Bool.not_eq_true'] at q
      obtain ⟨⟨⟨⟨rfl, rfl⟩, hdel⟩, ht⟩, hdc⟩ := q
      obtain ⟨nm, bs, mro, ns, qn, hd, sn, sub, ab, col, del⟩ := cd
      dsimp only at hm hdel hdc
      subst hm hdel hdc
      have hsl : sl = #[k0, k1, k2, k3, some (.builtin "ValueError.__new__"), k5] := by
        obtain ⟨l⟩ := sl
        simp only at hs
        rw [hs]
      subst hsl
      exact ⟨nm, qn, ns, bs, bm, sn, sub, ab, col, dd, k0, k1, k2, k3, k5, ho, ht⟩
    · cases q
  · cases q
theorem xW_ok {file : Str} {K : PySem.W.Frag} {x nm qn : Str} {A : Arguments} {Bd : List Stmt} {S : Scope} (hW : xW K x = (some (nm, qn, A, FuncBody.stmts Bd, S, mainGlobals, [("__class__" : Str)], builtinsNs) : XW)) (hB : fnB file K (He.ga K x) (xI K x) = true) :
    ∃ (oc : Value) (od : Option Addr) (doc pm ct kV : Value) (an : Option Addr) (osl : Array (Option Value)) (cda cc : Addr),
      K.lookup (xI K x) = some ⟨oc, od, .func (PySem.W.ksFn nm qn A Bd S .none kV doc pm an (.ref cda) ct cc), osl⟩ ∧ PySem.W.codeIn K (.ref cda) qn = true ∧
      (∃ ccl cdd vs ccs fl tf, K.lookup cda = some ⟨ccl, cdd, .fields vs, ccs⟩ ∧ vs[2]? = some (.str fl tf) ∧ (file == fl) = true) ∧ (∃ cl cld csl, K.lookup cc = some ⟨cl, cld, .cell (some (.ref (He.ga K x))), csl⟩) := by
  unfold xW at hW
  unfold fnB at hB
  cases q : K.lookup (xI K x) with
  | none => rw [q] at hB; cases hB
  | some o =>
    obtain ⟨oc, od, dt, osl⟩ := o
    rw [q] at hB hW
    cases dt with
    | func fd =>
      obtain ⟨n1, n2, n3, n4, n5, n6, n7, n8, n9, n10, n11, n12, n13, n14, n15⟩ := fd
      have e2 : (some (n1, n2, n3, n4, n5, n6, n7.map (·.1), n15) : XW) = some (nm, qn, A, FuncBody.stmts Bd, S, mainGlobals, [("__class__" : Str)], builtinsNs) := hW
      simp only [Option.some.injEq, Prod.mk.injEq] at e2
      obtain ⟨h1, h2, h3, h4, h5, h6, h7, h8⟩ := e2
      subst h1 h2 h3 h4 h5 h6 h8
      cases n13 with
      | ref cda =>
        match n7, h7, hB, q with
        | [(nn, cc)], h7, hB, q =>
          cases n8 with
          | none =>
            have hB' : (PySem.W.codeIn K (.ref cda) n2 && (match K.lookup cda with
                | some ⟨_, _, .fields vs, _⟩ => (match (vs[2]? : Option Value) with
                  | some (.str fl _) => (file == fl)
                  | _ => false)
                | _ => false) && (match K.lookup cc with
                | some ⟨_, _, .cell (some (.ref C')), _⟩ => C' == He.ga K x
                | _ => false)) = true := hB
            simp only [Bool.and_eq_true] at hB'
            obtain ⟨⟨b1, b2⟩, b3⟩ := hB'
            have hnn : nn = ("__class__" : Str) := by simpa using h7
            subst hnn
            refine ⟨oc, od, n10, n11, n14, n9, n12, osl, cda, cc, rfl, b1, ?_, ?_⟩
            · split at b2
              · rename_i ccl cdd vs ccs he
                split at b2
                · rename_i fl tf hv
                  exact ⟨ccl, cdd, vs, ccs, fl, tf, he, hv, b2⟩
                · cases b2
              · cases b2
            · split at b3
              · rename_i cl cld C' csl he
                have : C' = He.ga K x := beq_iff_eq.mp b3
                subst this
                exact ⟨cl, cld, csl, he⟩
              · cases b3
          | _ => cases hB
        | [], h7, hB, q => cases hB
        | _ :: _ :: _, h7, hB, q => cases hB
      | _ => cases hB
    | _ => cases hB
theorem xall_of {P : Program} {K : PySem.W.Frag} {mg : Str → Option Value} {x f qn : Str} {A : Arguments} {Bd : List Stmt} {S : Scope} {pa pb p0 p1 p2 p3 p4 p5 q1 q2 q3 q4 : Pos} {msg : Str} {k : Nat}
    (gC : mg x = some (.ref (He.ga K x))) (gS : mg "super" = none) (htop : (P.main.scope.names.lookup ("super" : Str)).isSome = false) (hB : xB P.main.file K x f = true) (hW : xW K x = (some (("__init__" : Str), qn, A, FuncBody.stmts Bd, S, mainGlobals, [("__class__" : Str)], builtinsNs) : XW))
    (eA : A = xArgs f pa pb) (eB : Bd = xBody f msg k p0 p1 p2 p3 p4 p5 q1 q2 q3 q4) (eS : S = xScope f) (ep : (p2.endLine == p4.line) = true) : XAll P K mg x f (He.ga K x) := by
  subst eA eB eS
  unfold xB at hB
  simp only [Bool.and_eq_true] at hB
  obtain ⟨h1, h2, h3, h4, h5, h6, h7, h8, h9, h10, h11, h12, h13, h14, h15, h16, h17, h18, h19⟩ := hB
  unfold xisB at h15
  simp only [Bool.and_eq_true] at h15
  obtain ⟨i1, i2, i3, i4, i5, i6⟩ := h15
  obtain ⟨oc, od, doc, pm, ct, kV, an, osl, cda, cc, l1, l2, l3, l4⟩ := xW_ok hW h14
  refine ⟨⟨gC, clB_ok h1, oo_ok h2, oo_ok h3, oo_ok h4, of_decide_eq_true h5, h6, ob_ok h7, of_decide_eq_true h8, h9, oo_ok h10, ob_ok h11, ob_ok h12, oo_ok h13, gS, htop, ⟨oc, od, doc, pm, ct, kV, an, osl, qn, msg, k, cda, cc, pa, pb, p0, p1, p2, p3, p4, p5, q1, q2, q3, q4, l1, l2, l3, l4, ep⟩⟩,
    ⟨i1, oo_ok i2, oo_ok i3, oo_ok i4, oo_ok i5, ob_ok i6⟩, ob_ok h16, xfB_ok h17, ob_ok h18, ob_ok h19⟩
end LK
set_option maxHeartbeats 4000000
/-! The facts give Txt. Printed by genhd4.py. -/
namespace LK
open PySem PySem.Spec PyProof.Rows L2
theorem txt_of {K : PySem.W.Frag} {h : Heap} {mg : Str → Option Value} (X : K.In h) (G : h.Ns mainGlobals mg) (c : obsL fileL faL fnL K = (He.valD fnL, true, xvL)) : Txt PySem.Challenge.pw_livecopy_k40_whole_middle K mg := by
  have c1 : He.SaysD faL fnL K := congrArg (fun z : AlL => z.1) c
  have c2 : ((xs3.all fun q => xB fileL K q.1 q.2) && moreB K) = true := congrArg (fun z : AlL => z.2.1) c
  have c3 : xs3.map (fun q => xW K q.1) = xvL := congrArg (fun z : AlL => z.2.2) c
  obtain ⟨cx, cm⟩ := He.ba c2
  have x1 : xB fileL K "NotAVersion" "version" = true := List.all_eq_true.mp cx ("NotAVersion", "version") (by decide)
  have x2 : xB fileL K "BadRequest" "index" = true := List.all_eq_true.mp cx ("BadRequest", "index") (by decide)
  have x3 : xB fileL K "BadPrice" "price" = true := List.all_eq_true.mp cx ("BadPrice", "price") (by decide)
  have w1 : xW K "NotAVersion" = xvL[0] := congrArg (fun z : List XW => z.getD 0 none) c3
  have w2 : xW K "BadRequest" = xvL[1] := congrArg (fun z : List XW => z.getD 1 none) c3
  have w3 : xW K "BadPrice" = xvL[2] := congrArg (fun z : List XW => z.getD 2 none) c3
  unfold moreB at cm
  simp only [Bool.and_eq_true] at cm
  obtain ⟨m1, m2, m3, m4, m5, m6, m7, m8, m9⟩ := cm
  have gS : mg "super" = none := He.free_ok X G (c1.fact 12 (f := .free "super"))
  have gN : mg "NotAVersion" = some (.ref (xN K)) := He.glo_ok X G (c1.fact 34 (f := .glo "NotAVersion"))
  have gR : mg "BadRequest" = some (.ref (xR K)) := He.glo_ok X G (c1.fact 35 (f := .glo "BadRequest"))
  have gP : mg "BadPrice" = some (.ref (xP K)) := He.glo_ok X G (c1.fact 36 (f := .glo "BadPrice"))
  have ht : (PySem.Challenge.pw_livecopy_k40_whole_middle.main.scope.names.lookup ("super" : Str)).isSome = false := by decide +kernel
  exact {
    b_len := He.free_ok X G (c1.fact 0 (f := .free "len"))
    b_min := He.free_ok X G (c1.fact 1 (f := .free "min"))
    b_max := He.free_ok X G (c1.fact 2 (f := .free "max"))
    b_abs := He.free_ok X G (c1.fact 3 (f := .free "abs"))
    b_int := He.free_ok X G (c1.fact 4 (f := .free "int"))
    b_list := He.free_ok X G (c1.fact 5 (f := .free "list"))
    b_tuple := He.free_ok X G (c1.fact 6 (f := .free "tuple"))
    b_range := He.free_ok X G (c1.fact 7 (f := .free "range"))
    b_isinstance := He.free_ok X G (c1.fact 8 (f := .free "isinstance"))
    b_sorted := He.free_ok X G (c1.fact 9 (f := .free "sorted"))
    b_ValueError := He.free_ok X G (c1.fact 10 (f := .free "ValueError"))
    b_bool := He.free_ok X G (c1.fact 11 (f := .free "bool"))
    isqrt := PySem.W.mg_of X G (oo_ok m1)
    gBook := He.glo_ok X G (c1.fact 13 (f := .glo "Book"))
    cl := He.cls_ok (c1.fact 14 (f := .cls "Book"))
    mkB := He.mkr_ok (c1.fact 15 (f := .mkr "Book"))
    n_cells := He.noat_ok (c1.fact 16 (f := .noat "Book" "cells"))
    n_base := He.noat_ok (c1.fact 17 (f := .noat "Book" "_base"))
    n_numbers := He.noat_ok (c1.fact 18 (f := .noat "Book" "_numbers"))
    n_values := He.noat_ok (c1.fact 19 (f := .noat "Book" "_values"))
    n_sizes := He.noat_ok (c1.fact 20 (f := .noat "Book" "_sizes"))
    n_needs := He.noat_ok (c1.fact 21 (f := .noat "Book" "_needs"))
    n_bars := He.noat_ok (c1.fact 22 (f := .noat "Book" "_bars"))
    n_writers := He.noat_ok (c1.fact 23 (f := .noat "Book" "_writers"))
    m_init := (c1.def_ 0 (d := fnL[0])).elim fun fd F => ⟨He.ma K (BK K) "__init__", fd, F, He.meth_ok (c1.fact 24 (f := .meth "Book" "__init__"))⟩
    m_make_patch := (c1.def_ 1 (d := fnL[1])).elim fun fd F => ⟨He.ma K (BK K) "make_patch", fd, F, He.meth_ok (c1.fact 25 (f := .meth "Book" "make_patch"))⟩
    m_new_bars := (c1.def_ 2 (d := fnL[2])).elim fun fd F => ⟨He.ma K (BK K) "_new_bars", fd, F, He.meth_ok (c1.fact 26 (f := .meth "Book" "_new_bars"))⟩
    m_members := (c1.def_ 3 (d := fnL[3])).elim fun fd F => ⟨He.ma K (BK K) "_members", fd, F, He.meth_ok (c1.fact 27 (f := .meth "Book" "_members"))⟩
    m_check_number := (c1.def_ 4 (d := fnL[4])).elim fun fd F => ⟨He.ma K (BK K) "check_number", fd, F, He.meth_ok (c1.fact 28 (f := .meth "Book" "check_number"))⟩
    m_mask_of := (c1.def_ 5 (d := fnL[5])).elim fun fd F => ⟨He.ma K (BK K) "mask_of", fd, F, He.meth_ok (c1.fact 29 (f := .meth "Book" "mask_of"))⟩
    m_holds := (c1.def_ 6 (d := fnL[6])).elim fun fd F => ⟨He.ma K (BK K) "holds", fd, F, He.meth_ok (c1.fact 30 (f := .meth "Book" "holds"))⟩
    m_len := (c1.def_ 7 (d := fnL[7])).elim fun fd F => ⟨He.ma K (BK K) "__len__", fd, F, He.meth_ok (c1.fact 31 (f := .meth "Book" "__len__"))⟩
    m_contains := (c1.def_ 8 (d := fnL[8])).elim fun fd F => ⟨He.ma K (BK K) "__contains__", fd, F, He.meth_ok (c1.fact 32 (f := .meth "Book" "__contains__"))⟩
    d_clip := (c1.def_ 9 (d := fnL[9])).elim fun fd F => ⟨He.ga K "clip", fd, F, He.glo_ok X G (c1.fact 37 (f := .glo "clip"))⟩
    d_checked_look := (c1.def_ 10 (d := fnL[10])).elim fun fd F => ⟨He.ga K "checked_look", fd, F, He.glo_ok X G (c1.fact 38 (f := .glo "checked_look"))⟩
    d_checked_writes := (c1.def_ 11 (d := fnL[11])).elim fun fd F => ⟨He.ga K "checked_writes", fd, F, He.glo_ok X G (c1.fact 39 (f := .glo "checked_writes"))⟩
    d_need_version := (c1.def_ 12 (d := fnL[12])).elim fun fd F => ⟨He.ga K "need_version", fd, F, He.glo_ok X G (c1.fact 40 (f := .glo "need_version"))⟩
    d_need_requests := (c1.def_ 13 (d := fnL[13])).elim fun fd F => ⟨He.ga K "need_requests", fd, F, He.glo_ok X G (c1.fact 41 (f := .glo "need_requests"))⟩
    d_signed_counts := (c1.def_ 14 (d := fnL[14])).elim fun fd F => ⟨He.ga K "signed_counts", fd, F, He.glo_ok X G (c1.fact 42 (f := .glo "signed_counts"))⟩
    d_forward := (c1.def_ 15 (d := fnL[15])).elim fun fd F => ⟨He.ga K "forward", fd, F, He.glo_ok X G (c1.fact 43 (f := .glo "forward"))⟩
    d_backward := (c1.def_ 16 (d := fnL[16])).elim fun fd F => ⟨He.ga K "backward", fd, F, He.glo_ok X G (c1.fact 44 (f := .glo "backward"))⟩
    d_counter_sums := (c1.def_ 17 (d := fnL[17])).elim fun fd F => ⟨He.ga K "counter_sums", fd, F, He.glo_ok X G (c1.fact 45 (f := .glo "counter_sums"))⟩
    d_row_between := (c1.def_ 18 (d := fnL[18])).elim fun fd F => ⟨He.ga K "row_between", fd, F, He.glo_ok X G (c1.fact 46 (f := .glo "row_between"))⟩
    d_homes_of := (c1.def_ 19 (d := fnL[19])).elim fun fd F => ⟨He.ga K "homes_of", fd, F, He.glo_ok X G (c1.fact 47 (f := .glo "homes_of"))⟩
    d_stretch_row := (c1.def_ 20 (d := fnL[20])).elim fun fd F => ⟨He.ga K "stretch_row", fd, F, He.glo_ok X G (c1.fact 48 (f := .glo "stretch_row"))⟩
    d_stretch_plan := (c1.def_ 21 (d := fnL[21])).elim fun fd F => ⟨He.ga K "stretch_plan", fd, F, He.glo_ok X G (c1.fact 49 (f := .glo "stretch_plan"))⟩
    d_positive_prices := (c1.def_ 22 (d := fnL[22])).elim fun fd F => ⟨He.ga K "positive_prices", fd, F, He.glo_ok X G (c1.fact 50 (f := .glo "positive_prices"))⟩
    d_middle_plan := (c1.def_ 23 (d := fnL[23])).elim fun fd F => ⟨He.ga K "middle_plan", fd, F, He.glo_ok X G (c1.fact 51 (f := .glo "middle_plan"))⟩
    d__law_source := (c1.def_ 24 (d := fnL[24])).elim fun fd F => ⟨He.ga K "_law_source", fd, F, He.glo_ok X G (c1.fact 52 (f := .glo "_law_source"))⟩
    d__law_draw := (c1.def_ 25 (d := fnL[25])).elim fun fd F => ⟨He.ga K "_law_draw", fd, F, He.glo_ok X G (c1.fact 53 (f := .glo "_law_draw"))⟩
    d__law_needs := (c1.def_ 26 (d := fnL[26])).elim fun fd F => ⟨He.ga K "_law_needs", fd, F, He.glo_ok X G (c1.fact 54 (f := .glo "_law_needs"))⟩
    d__law_bars := (c1.def_ 27 (d := fnL[27])).elim fun fd F => ⟨He.ga K "_law_bars", fd, F, He.glo_ok X G (c1.fact 55 (f := .glo "_law_bars"))⟩
    d__law_writes := (c1.def_ 28 (d := fnL[28])).elim fun fd F => ⟨He.ga K "_law_writes", fd, F, He.glo_ok X G (c1.fact 56 (f := .glo "_law_writes"))⟩
    d__law_grow := (c1.def_ 29 (d := fnL[29])).elim fun fd F => ⟨He.ga K "_law_grow", fd, F, He.glo_ok X G (c1.fact 57 (f := .glo "_law_grow"))⟩
    d__law_model := (c1.def_ 30 (d := fnL[30])).elim fun fd F => ⟨He.ga K "_law_model", fd, F, He.glo_ok X G (c1.fact 58 (f := .glo "_law_model"))⟩
    d__law_book := (c1.def_ 31 (d := fnL[31])).elim fun fd F => ⟨He.ga K "_law_book", fd, F, He.glo_ok X G (c1.fact 59 (f := .glo "_law_book"))⟩
    d__law_fits := (c1.def_ 32 (d := fnL[32])).elim fun fd F => ⟨He.ga K "_law_fits", fd, F, He.glo_ok X G (c1.fact 60 (f := .glo "_law_fits"))⟩
    d__law_version := (c1.def_ 33 (d := fnL[33])).elim fun fd F => ⟨He.ga K "_law_version", fd, F, He.glo_ok X G (c1.fact 61 (f := .glo "_law_version"))⟩
    d__law_count := (c1.def_ 34 (d := fnL[34])).elim fun fd F => ⟨He.ga K "_law_count", fd, F, He.glo_ok X G (c1.fact 62 (f := .glo "_law_count"))⟩
    d__law_row := (c1.def_ 35 (d := fnL[35])).elim fun fd F => ⟨He.ga K "_law_row", fd, F, He.glo_ok X G (c1.fact 63 (f := .glo "_law_row"))⟩
    d__law_apart := (c1.def_ 36 (d := fnL[36])).elim fun fd F => ⟨He.ga K "_law_apart", fd, F, He.glo_ok X G (c1.fact 64 (f := .glo "_law_apart"))⟩
    d__law_cost := (c1.def_ 37 (d := fnL[37])).elim fun fd F => ⟨He.ga K "_law_cost", fd, F, He.glo_ok X G (c1.fact 65 (f := .glo "_law_cost"))⟩
    d__law_solo := (c1.def_ 38 (d := fnL[38])).elim fun fd F => ⟨He.ga K "_law_solo", fd, F, He.glo_ok X G (c1.fact 66 (f := .glo "_law_solo"))⟩
    d__law_sum := (c1.def_ 39 (d := fnL[39])).elim fun fd F => ⟨He.ga K "_law_sum", fd, F, He.glo_ok X G (c1.fact 67 (f := .glo "_law_sum"))⟩
    d__law_alike := (c1.def_ 40 (d := fnL[40])).elim fun fd F => ⟨He.ga K "_law_alike", fd, F, He.glo_ok X G (c1.fact 68 (f := .glo "_law_alike"))⟩
    d__law_is_version := (c1.def_ 41 (d := fnL[41])).elim fun fd F => ⟨He.ga K "_law_is_version", fd, F, He.glo_ok X G (c1.fact 69 (f := .glo "_law_is_version"))⟩
    d__law_is_plan := (c1.def_ 42 (d := fnL[42])).elim fun fd F => ⟨He.ga K "_law_is_plan", fd, F, He.glo_ok X G (c1.fact 70 (f := .glo "_law_is_plan"))⟩
    d__law_strange := (c1.def_ 43 (d := fnL[43])).elim fun fd F => ⟨He.ga K "_law_strange", fd, F, He.glo_ok X G (c1.fact 71 (f := .glo "_law_strange"))⟩
    d__law_spoil_row := (c1.def_ 44 (d := fnL[44])).elim fun fd F => ⟨He.ga K "_law_spoil_row", fd, F, He.glo_ok X G (c1.fact 72 (f := .glo "_law_spoil_row"))⟩
    d__law_wrong := (c1.def_ 45 (d := fnL[45])).elim fun fd F => ⟨He.ga K "_law_wrong", fd, F, He.glo_ok X G (c1.fact 73 (f := .glo "_law_wrong"))⟩
    d__law_due := (c1.def_ 46 (d := fnL[46])).elim fun fd F => ⟨He.ga K "_law_due", fd, F, He.glo_ok X G (c1.fact 74 (f := .glo "_law_due"))⟩
    d__law_sides := (c1.def_ 47 (d := fnL[47])).elim fun fd F => ⟨He.ga K "_law_sides", fd, F, He.glo_ok X G (c1.fact 75 (f := .glo "_law_sides"))⟩
    d__law_plan := (c1.def_ 48 (d := fnL[48])).elim fun fd F => ⟨He.ga K "_law_plan", fd, F, He.glo_ok X G (c1.fact 76 (f := .glo "_law_plan"))⟩
    d__law_root := (c1.def_ 49 (d := fnL[49])).elim fun fd F => ⟨He.ga K "_law_root", fd, F, He.glo_ok X G (c1.fact 77 (f := .glo "_law_root"))⟩
    d__law_refused := (c1.def_ 50 (d := fnL[50])).elim fun fd F => ⟨He.ga K "_law_refused", fd, F, He.glo_ok X G (c1.fact 78 (f := .glo "_law_refused"))⟩
    d__law_judged := (c1.def_ 51 (d := fnL[51])).elim fun fd F => ⟨He.ga K "_law_judged", fd, F, He.glo_ok X G (c1.fact 79 (f := .glo "_law_judged"))⟩
    d_law := (c1.def_ 52 (d := fnL[52])).elim fun fd F => ⟨He.ga K "law", fd, F, He.glo_ok X G (c1.fact 80 (f := .glo "law"))⟩
    x_L := He.glo_ok X G (c1.fact 33 (f := .glo "LivecopyError"))
    x_N := xall_of gN gS ht x1 w1 rfl rfl rfl (by rfl)
    x_R := xall_of gR gS ht x2 w2 rfl rfl rfl (by rfl)
    x_P := xall_of gP gS ht x3 w3 rfl rfl rfl (by rfl)
    e_NN := ob_ok m2
    e_RN := ob_ok m3
    e_RR := ob_ok m4
    e_PN := ob_ok m5
    e_PR := ob_ok m6
    e_PP := ob_ok m7
    k_N := ob_ok m8
    k_R := ob_ok m9 }
end LK
set_option maxHeartbeats 4000000
/-! The plain law: one patch: rows, counters, costs. -/
namespace LK

/-- cut to the range from -t to t -/
def clip (v t : Int) : Int := max (-t) (min t v)

/-- 1 for True -/
def bI (b : Bool) : Int := if b then 1 else 0

/-! ### the counters -/
/-- the backward number ahead of these votes -/
def ub (t : Int) : List Int → Int
  | [] => 0
  | w :: ws => clip (ub t ws + w) t
/-- the row, from a forward counter -/
def rowF (t : Int) : Int → List Int → List Bool
  | _, [] => []
  | D, w :: ws => decide (0 < D + w + ub t ws) :: rowF t (clip (D + w) t) ws
def d0 (start : Bool) (t : Int) : Int := if start then t else -t
/-- the row of a patch -/
def sides (start : Bool) (ws : List Int) (t : Int) : List Bool := rowF t (d0 start t) ws

theorem rowF_length (t : Int) : ∀ (ws : List Int) (D : Int), (rowF t D ws).length = ws.length
  | [], _ => rfl
  | w :: ws, D => by simp [rowF, rowF_length t ws]
theorem sides_length (s : Bool) (ws : List Int) (t : Int) : (sides s ws t).length = ws.length := rowF_length _ _ _

/-! ### costs -/
def neg1 (b c : Bool) : Int := if b = c then 0 else 1
/-- toggles -/
def tog : Bool → List Bool → Int
  | _, [] => 0
  | p, b :: r => neg1 p b + tog b r
/-- the look at a vote -/
def lk (w : Int) (b : Bool) : Int := if b then max 0 (-w) else max 0 w
/-- looks -/
def looks : List Int → List Bool → Int
  | w :: ws, b :: r => lk w b + looks ws r
  | _, _ => 0

theorem tog_nonneg : ∀ (r : List Bool) (p : Bool), 0 ≤ tog p r
  | [], _ => by simp [tog]
  | b :: r, p => by
    have h := tog_nonneg r b
    simp only [tog, neg1]
    split <;> omega
theorem lk_nonneg (w : Int) (b : Bool) : 0 ≤ lk w b := by
  unfold lk; split <;> omega
theorem looks_nonneg : ∀ (ws : List Int) (r : List Bool), 0 ≤ looks ws r
  | [], _ => by simp [looks]
  | _ :: _, [] => by simp [looks]
  | w :: ws, b :: r => by
    have h := looks_nonneg ws r
    have h2 := lk_nonneg w b
    simp only [looks]; omega

/-! ### rounding of a certificate: from votes 4 w at the price 2 s + 1 to votes 2 w at the price e (s or s + 1) -/
def rnd (e z : Int) : Int := if e % 2 = 0 then 2 * ((z + 1) / 4) else z / 4 + (z + 3) / 4
theorem rnd_add (e z w : Int) : rnd e (z + 4 * w) = rnd e z + 2 * w := by
  unfold rnd; split <;> omega
theorem rnd_mono {e y z : Int} (h : y ≤ z) : rnd e y ≤ rnd e z := by
  unfold rnd; split <;> omega
theorem rnd_hi {e s : Int} (h : e = s ∨ e = s + 1) : rnd e (2 * s + 1) = e := by
  unfold rnd; split <;> omega
theorem rnd_lo {e s : Int} (h : e = s ∨ e = s + 1) : rnd e (-(2 * s + 1)) = -e := by
  unfold rnd; split <;> omega
theorem rnd_zero (e : Int) : rnd e 0 = 0 := by
  unfold rnd; split <;> omega

theorem ub_range {t : Int} (ht : 0 ≤ t) : ∀ ws : List Int, -t ≤ ub t ws ∧ ub t ws ≤ t
  | [] => by simp only [ub]; omega
  | w :: ws => by simp only [ub, clip]; omega

/-- four times each -/
def four (ws : List Int) : List Int := ws.map (4 * ·)

/-- the certificate's number -/
def vb (e s : Int) (ws : List Int) : Int := rnd e (ub (2 * s + 1) (four ws))
/-- the certificate's bound -/
def bnd (e s : Int) : List Int → Int
  | [] => 0
  | w :: ws => max 0 (2 * w) + min 0 (vb e s (w :: ws) - vb e s ws - 2 * w) + bnd e s ws

theorem vb_range {e s : Int} (hs : 0 ≤ s) (h : e = s ∨ e = s + 1) (ws : List Int) : -e ≤ vb e s ws ∧ vb e s ws ≤ e := by
  obtain ⟨h1, h2⟩ := ub_range (t := 2 * s + 1) (by omega) (four ws)
  have a := rnd_mono (e := e) h1
  have b := rnd_mono (e := e) h2
  rw [rnd_lo h] at a
  rw [rnd_hi h] at b
  exact ⟨a, b⟩

/-- no row costs less than the certificate says -/
theorem bnd_le {e s : Int} (hs : 0 ≤ s) (h : e = s ∨ e = s + 1) : ∀ (ws : List Int) (q : Bool) (r : List Bool), r.length = ws.length →
    bnd e s ws ≤ e * tog q r + 2 * looks ws r + vb e s ws * bI q
  | [], q, r, hl => by
    have e0 : r = [] := List.length_eq_zero_iff.mp (by simpa using hl)
    subst e0
    have hv : vb e s [] = 0 := by simp [vb, four, ub, rnd_zero]
    simp [bnd, tog, looks, hv]
  | w :: ws, q, [], hl => by simp at hl
  | w :: ws, q, b :: r, hl => by
    have ih := bnd_le hs h ws b r (by simpa using hl)
    have v1 := vb_range hs h (w :: ws)
    have hd : e * tog q (b :: r) = e * neg1 q b + e * tog b r := by simp [tog, Int.mul_add]
    rw [hd]
    simp only [bnd, looks]
    cases q <;> cases b <;> simp [neg1, bI, lk] at ih ⊢ <;> omega

/-- the state of the forward counter that fits the side before -/
def Fit (t : Int) (p : Bool) (D : Int) (ws : List Int) : Prop :=
  -t ≤ D ∧ D ≤ t ∧ (p = true → D = t ∨ - ub t ws < D) ∧ (p = false → D = -t ∨ D ≤ - ub t ws)

theorem fit_start {t : Int} (ht : 0 ≤ t) (p : Bool) (ws : List Int) : Fit t p (d0 p t) ws := by
  cases p <;> simp [Fit, d0] <;> omega

theorem fit_next {t : Int} (ht : 0 ≤ t) {D w : Int} {ws : List Int} : Fit t (decide (0 < D + w + ub t ws)) (clip (D + w) t) ws := by
  obtain ⟨h1, h2⟩ := ub_range ht ws
  refine ⟨by unfold clip; omega, by unfold clip; omega, fun h => ?_, fun h => ?_⟩
  · have h' : 0 < D + w + ub t ws := of_decide_eq_true h
    unfold clip; omega
  · have h' : ¬ 0 < D + w + ub t ws := of_decide_eq_false h
    unfold clip; omega

theorem row_best {e s : Int} (hs : 0 ≤ s) (h : e = s ∨ e = s + 1) : ∀ (ws : List Int) (p : Bool) (D : Int), Fit (2 * s + 1) p D (four ws) →
    e * tog p (rowF (2 * s + 1) D (four ws)) + 2 * looks ws (rowF (2 * s + 1) D (four ws)) + vb e s ws * bI p ≤ bnd e s ws
  | [], p, D, _ => by
    have hv : vb e s [] = 0 := by simp [vb, four, ub, rnd_zero]
    simp [four, rowF, tog, looks, bnd, hv]
  | w :: ws, p, D, F => by
    have ht : (0 : Int) ≤ 2 * s + 1 := by omega
    have ih := row_best hs h ws (decide (0 < D + 4 * w + ub (2 * s + 1) (four ws))) (clip (D + 4 * w) (2 * s + 1)) (fit_next ht)
    obtain ⟨f1, f2, f3, f4⟩ := F
    have r1 := ub_range ht (four ws)
    -- the backward number ahead
    have hu : ub (2 * s + 1) (four (w :: ws)) = clip (ub (2 * s + 1) (four ws) + 4 * w) (2 * s + 1) := rfl
    have hr : rowF (2 * s + 1) D (four (w :: ws)) = decide (0 < D + 4 * w + ub (2 * s + 1) (four ws)) :: rowF (2 * s + 1) (clip (D + 4 * w) (2 * s + 1)) (four ws) := rfl
    have hv : vb e s (w :: ws) = rnd e (ub (2 * s + 1) (four (w :: ws))) := rfl
    have hv' : rnd e (ub (2 * s + 1) (four ws) + 4 * w) = vb e s ws + 2 * w := rnd_add _ _ _
    rw [hr]
    have hd : ∀ b r, e * tog p (b :: r) = e * neg1 p b + e * tog b r := fun b r => by simp [tog, Int.mul_add]
    rw [hd]
    simp only [bnd, looks]
    generalize hU : ub (2 * s + 1) (four (w :: ws)) = U at *
    generalize hU' : ub (2 * s + 1) (four ws) = U' at *
    generalize rowF (2 * s + 1) (clip (D + 4 * w) (2 * s + 1)) (four ws) = R at *
    generalize e * tog (decide (0 < D + 4 * w + U')) R = TT at *
    by_cases c : 0 < D + 4 * w + U'
    · have k1 : U ≤ U' + 4 * w := by rw [hu]; unfold clip; omega
      have k2 := rnd_mono (e := e) k1
      rw [hv', ← hv] at k2
      have k3 : p = false → vb e s (w :: ws) = e := fun z => by
        have : U = 2 * s + 1 := by
          have := f4 z
          rw [hu] at this ⊢
          unfold clip at this ⊢; omega
        rw [hv, this, rnd_hi h]
      simp only [decide_eq_true c, if_true, neg1, bI, lk] at ih ⊢
      cases p
      · have k4 := k3 rfl
        simp at ih ⊢; omega
      · simp at ih ⊢; omega
    · have k1 : U' + 4 * w ≤ U := by rw [hu]; unfold clip; omega
      have k2 := rnd_mono (e := e) k1
      rw [hv', ← hv] at k2
      have k3 : p = true → vb e s (w :: ws) = -e := fun z => by
        have : U = -(2 * s + 1) := by
          have := f3 z
          rw [hu] at this ⊢
          unfold clip at this ⊢; omega
        rw [hv, this, rnd_lo h]
      simp only [decide_eq_false c, neg1, bI, lk] at ih ⊢
      cases p
      · simp at ih ⊢; omega
      · have k4 := k3 rfl
        simp at ih ⊢; omega

/-- the row of a stretch is best at both its ends -/
theorem stretch_best {e s : Int} (hs : 0 ≤ s) (h : e = s ∨ e = s + 1) (start : Bool) (ws : List Int) (r : List Bool) (hl : r.length = ws.length) :
    e * tog start (sides start (four ws) (2 * s + 1)) + 2 * looks ws (sides start (four ws) (2 * s + 1)) ≤ e * tog start r + 2 * looks ws r := by
  have a := row_best hs h ws start (d0 start (2 * s + 1)) (fit_start (by omega) start (four ws))
  have b := bnd_le hs h ws start r hl
  unfold sides
  omega

/-! ### the two costs, side by side -/
/-- one step of the two costs -/
def dpStep (t : Int) (c : Int × Int) (w : Int) : Int × Int := (min c.1 (c.2 + t) + max 0 w, min c.2 (c.1 + t) + max 0 (0 - w))
def dp0 (start : Bool) (t : Int) : Int × Int := (if start then t else 0, if start then 0 else t)
def solo (start : Bool) (ws : List Int) (t : Int) : Int :=
  let c := ws.foldl (dpStep t) (dp0 start t)
  min c.1 c.2

/-- what a row costs from a pair of costs on -/
def from2 (t k : Int) (c : Int × Int) (ws : List Int) (r : List Bool) : Int := min (c.1 + (t * tog false r + k * looks ws r)) (c.2 + (t * tog true r + k * looks ws r))

theorem lk_mul {k : Int} (hk : 0 ≤ k) (w : Int) (b : Bool) : lk (k * w) b = k * lk w b := by
  rcases Int.le_total 0 w with h | h
  · have h2 := Int.mul_nonneg hk h
    cases b
    · simp only [lk, Bool.false_eq_true, if_false]
      rw [Int.max_eq_right h2, Int.max_eq_right h]
    · simp only [lk, if_true]
      rw [Int.max_eq_left (by omega), Int.max_eq_left (by omega)]; simp
  · have h2 : k * w ≤ 0 := Int.mul_nonpos_of_nonneg_of_nonpos hk h
    cases b
    · simp only [lk, Bool.false_eq_true, if_false]
      rw [Int.max_eq_left h2, Int.max_eq_left h]; simp
    · simp only [lk, if_true]
      rw [Int.max_eq_right (by omega), Int.max_eq_right (by omega)]
      rw [Int.mul_neg]

theorem looks_mul {k : Int} (hk : 0 ≤ k) : ∀ (ws : List Int) (r : List Bool), looks (ws.map (k * ·)) r = k * looks ws r
  | [], r => by cases r <;> simp [looks]
  | w :: ws, [] => by simp [looks]
  | w :: ws, b :: r => by
    simp only [List.map_cons, looks, looks_mul hk ws r, lk_mul hk, Int.mul_add]

theorem dp_le {t : Int} (ht : 0 ≤ t) : ∀ (ws : List Int) (c : Int × Int) (r : List Bool), r.length = ws.length →
    min (ws.foldl (dpStep t) c).1 (ws.foldl (dpStep t) c).2 ≤ min (c.1 + (t * tog false r + looks ws r)) (c.2 + (t * tog true r + looks ws r))
  | [], c, r, hl => by
    have e0 : r = [] := List.length_eq_zero_iff.mp (by simpa using hl)
    subst e0
    simp [tog, looks]
  | w :: ws, c, [], hl => by simp at hl
  | w :: ws, c, b :: r, hl => by
    have ih := dp_le ht ws (dpStep t c w) r (by simpa using hl)
    have hd : ∀ p, t * tog p (b :: r) = t * neg1 p b + t * tog b r := fun p => by simp [tog, Int.mul_add]
    rw [List.foldl_cons]
    refine Int.le_trans ih ?_
    rw [hd, hd]
    simp only [dpStep, looks]
    cases b <;> simp [neg1, lk] <;> omega

theorem dp_ge {t : Int} (ht : 0 ≤ t) : ∀ (ws : List Int) (c : Int × Int), ∃ r : List Bool, r.length = ws.length ∧
    min (c.1 + (t * tog false r + looks ws r)) (c.2 + (t * tog true r + looks ws r)) ≤ min (ws.foldl (dpStep t) c).1 (ws.foldl (dpStep t) c).2
  | [], c => ⟨[], rfl, by simp [tog, looks]⟩
  | w :: ws, c => by
    obtain ⟨r, hl, hr⟩ := dp_ge ht ws (dpStep t c w)
    have hd : ∀ p b, t * tog p (b :: r) = t * neg1 p b + t * tog b r := fun p b => by simp [tog, Int.mul_add]
    rw [List.foldl_cons]
    by_cases h : (dpStep t c w).1 + (t * tog false r + looks ws r) ≤ (dpStep t c w).2 + (t * tog true r + looks ws r)
    · refine ⟨false :: r, by simp [hl], Int.le_trans ?_ hr⟩
      rw [hd, hd]
      simp only [dpStep, looks] at h ⊢
      simp [neg1, lk]; omega
    · refine ⟨true :: r, by simp [hl], Int.le_trans ?_ hr⟩
      rw [hd, hd]
      simp only [dpStep, looks] at h ⊢
      simp [neg1, lk]; omega

/-- no row costs less than the two costs' least -/
theorem solo_le {t : Int} (ht : 0 ≤ t) (start : Bool) (ws : List Int) (r : List Bool) (hl : r.length = ws.length) : solo start ws t ≤ t * tog start r + looks ws r := by
  have h := dp_le ht ws (dp0 start t) r hl
  unfold solo
  refine Int.le_trans h ?_
  cases start <;> simp [dp0] <;> omega
theorem tog_start {t : Int} (ht : 0 ≤ t) (r : List Bool) (p q : Bool) : t * tog p r ≤ t * tog q r + t := by
  have : tog p r ≤ tog q r + 1 := by
    cases r with
    | nil => simp [tog]
    | cons b r => cases p <;> cases q <;> cases b <;> simp [tog, neg1] <;> omega
  have h2 := Int.mul_le_mul_of_nonneg_left this ht
  rw [Int.mul_add] at h2
  omega
/-- and one row costs it -/
theorem solo_is {t : Int} (ht : 0 ≤ t) (start : Bool) (ws : List Int) : ∃ r : List Bool, r.length = ws.length ∧ t * tog start r + looks ws r ≤ solo start ws t := by
  obtain ⟨r, hl, hr⟩ := dp_ge ht ws (dp0 start t)
  refine ⟨r, hl, Int.le_trans ?_ hr⟩
  have a := tog_start ht r false true
  have b := tog_start ht r true false
  cases start <;> simp [dp0] <;> omega

/-! ### one patch: near the best at each price of a range -/
/-- c² a ≤ o² b, for a price t from a to b; m the root of 4 a b -/
theorem near_one {a b t k s m T L T' L' : Int} (ha : 1 ≤ a) (hat : a ≤ t) (htb : t ≤ b) (hk : 1 ≤ k) (hm : 0 ≤ m) (m1 : m * m ≤ 4 * a * b) (m2 : 4 * a * b < (m + 1) * (m + 1))
    (s1 : s * k ≤ m) (s2 : m + 1 ≤ (s + 1) * k) (hs : 0 ≤ s) (hT : 0 ≤ T) (hL : 0 ≤ L) (hT' : 0 ≤ T') (hL' : 0 ≤ L')
    (b1 : s * T + 2 * L ≤ s * T' + 2 * L') (b2 : (s + 1) * T + 2 * L ≤ (s + 1) * T' + 2 * L') :
    (t * T + k * L) * (t * T + k * L) * a ≤ (t * T' + k * L') * (t * T' + k * L') * b := by
  have sq : ∀ {x y : Int}, 0 ≤ x → x ≤ y → x * x ≤ y * y := fun h0 h => Int.mul_le_mul h h h0 (by omega)
  have t0 : 0 ≤ t := by omega
  have k0 : 0 ≤ k := by omega
  have c0 : 0 ≤ t * T + k * L := Int.add_nonneg (Int.mul_nonneg t0 hT) (Int.mul_nonneg k0 hL)
  have o0 : 0 ≤ t * T' + k * L' := Int.add_nonneg (Int.mul_nonneg t0 hT') (Int.mul_nonneg k0 hL')
  -- where the plan's row costs no more
  have easy : t * T + k * L ≤ t * T' + k * L' → (t * T + k * L) * (t * T + k * L) * a ≤ (t * T' + k * L') * (t * T' + k * L') * b := fun h => by
    refine Int.le_trans (Int.mul_le_mul_of_nonneg_right (sq c0 h) (by omega)) ?_
    exact Int.mul_le_mul_of_nonneg_left (by omega) (Int.mul_nonneg o0 o0)
  have kL : ∀ {x y : Int}, x ≤ y → k * x ≤ k * y := fun h => Int.mul_le_mul_of_nonneg_left h k0
  -- the looks, times 2 k, against the toggles, times m or m + 1
  by_cases c : T' ≤ T
  · -- more toggles: by the upper end
    have d0 : 0 ≤ T - T' := by omega
    have q1 : (s + 1) * (T - T') ≤ 2 * (L' - L) := by rw [Int.mul_sub]; omega
    have q2 := kL q1
    have q3 : (m + 1) * (T - T') ≤ (s + 1) * k * (T - T') := Int.mul_le_mul_of_nonneg_right s2 d0
    have q4 : (m + 1) * (T - T') ≤ 2 * (k * L') - 2 * (k * L) := by
      have e1 : k * ((s + 1) * (T - T')) = (s + 1) * k * (T - T') := by rw [← Int.mul_assoc, Int.mul_comm k]
      have e2 : k * (2 * (L' - L)) = 2 * (k * L') - 2 * (k * L) := by rw [Int.mul_left_comm, Int.mul_sub, Int.mul_sub]
      omega
    by_cases c2 : 2 * t ≤ m + 1
    · refine easy ?_
      have q5 : 2 * t * (T - T') ≤ (m + 1) * (T - T') := Int.mul_le_mul_of_nonneg_right c2 d0
      rw [Int.mul_sub, Int.mul_assoc, Int.mul_assoc] at q5
      omega
    · -- M c ≤ 2 t o, M = m + 1
      have M0 : 0 ≤ m + 1 := by omega
      have q5 : (m + 1) * T + 2 * (k * L) ≤ 2 * (t * T' + k * L') := by
        have q6 : (m + 1) * T' ≤ 2 * t * T' := Int.mul_le_mul_of_nonneg_right (by omega) hT'
        rw [Int.mul_sub] at q4
        rw [Int.mul_assoc] at q6
        omega
      have q7 : (m + 1) * (2 * (t * T + k * L)) ≤ 2 * t * (2 * (t * T' + k * L')) := by
        refine Int.le_trans ?_ (Int.mul_le_mul_of_nonneg_left q5 (by omega : (0 : Int) ≤ 2 * t))
        have e1 : (m + 1) * (2 * (t * T + k * L)) = 2 * t * ((m + 1) * T) + (m + 1) * (2 * (k * L)) := by
          rw [Int.mul_add 2, Int.mul_add (m + 1)]
          congr 1
          rw [Int.mul_left_comm, Int.mul_left_comm (m + 1) t, Int.mul_assoc]
        have e2 : 2 * t * ((m + 1) * T + 2 * (k * L)) = 2 * t * ((m + 1) * T) + 2 * t * (2 * (k * L)) := Int.mul_add ..
        have q8 : (m + 1) * (2 * (k * L)) ≤ 2 * t * (2 * (k * L)) := Int.mul_le_mul_of_nonneg_right (by omega) (by have := Int.mul_nonneg k0 hL; omega)
        omega
      have q9 : (m + 1) * (t * T + k * L) ≤ 2 * t * (t * T' + k * L') := by
        rw [Int.mul_left_comm] at q7
        rw [Int.mul_left_comm (2 * t)] at q7
        omega
      have q10 : (m + 1) * (t * T + k * L) ≤ 2 * b * (t * T' + k * L') := Int.le_trans q9 (Int.mul_le_mul_of_nonneg_right (by omega) o0)
      have q11 := sq (Int.mul_nonneg M0 c0) q10
      generalize t * T + k * L = C at *
      generalize t * T' + k * L' = O at *
      have e3 : (m + 1) * C * ((m + 1) * C) = (m + 1) * (m + 1) * (C * C) := by ac_rfl
      have e4 : 2 * b * O * (2 * b * O) = 4 * b * (O * O * b) := by
        rw [show (4 : Int) = 2 * 2 from rfl]; ac_rfl
      have q12 : 4 * a * b * (C * C) ≤ (m + 1) * (m + 1) * (C * C) := Int.mul_le_mul_of_nonneg_right (by omega) (Int.mul_nonneg c0 c0)
      have e5 : 4 * a * b * (C * C) = 4 * b * (C * C * a) := by
        rw [Int.mul_assoc 4 a b, Int.mul_comm a b, ← Int.mul_assoc 4 b a, Int.mul_assoc (4 * b), Int.mul_comm a]
      have q13 : 4 * b * (C * C * a) ≤ 4 * b * (O * O * b) := by omega
      exact Int.le_of_mul_le_mul_left q13 (by omega)
  · -- fewer toggles: by the lower end
    have d0 : 0 ≤ T' - T := by omega
    have q1 : 2 * (L - L') ≤ s * (T' - T) := by rw [Int.mul_sub s]; omega
    have q2 := kL q1
    have q3 : s * k * (T' - T) ≤ m * (T' - T) := Int.mul_le_mul_of_nonneg_right s1 d0
    have q4 : 2 * (k * L) - 2 * (k * L') ≤ m * (T' - T) := by
      have e1 : k * (s * (T' - T)) = s * k * (T' - T) := by rw [← Int.mul_assoc, Int.mul_comm k]
      have e2 : k * (2 * (L - L')) = 2 * (k * L) - 2 * (k * L') := by rw [Int.mul_left_comm, Int.mul_sub, Int.mul_sub]
      omega
    by_cases c2 : m ≤ 2 * t
    · refine easy ?_
      have q5 : m * (T' - T) ≤ 2 * t * (T' - T) := Int.mul_le_mul_of_nonneg_right c2 d0
      rw [Int.mul_sub (2 * t), Int.mul_assoc, Int.mul_assoc] at q5
      omega
    · -- 2 t c ≤ m o
      have q5 : 2 * (t * T + k * L) ≤ m * T' + 2 * (k * L') := by
        have q6 : 2 * t * T ≤ m * T := Int.mul_le_mul_of_nonneg_right (by omega) hT
        rw [Int.mul_sub] at q4
        rw [Int.mul_assoc] at q6
        omega
      have q7 : 2 * t * (2 * (t * T + k * L)) ≤ m * (2 * (t * T' + k * L')) := by
        refine Int.le_trans (Int.mul_le_mul_of_nonneg_left q5 (by omega : (0 : Int) ≤ 2 * t)) ?_
        have e1 : m * (2 * (t * T' + k * L')) = 2 * t * (m * T') + m * (2 * (k * L')) := by
          rw [Int.mul_add 2, Int.mul_add m]
          congr 1
          rw [Int.mul_left_comm, Int.mul_left_comm m t, Int.mul_assoc]
        have e2 : 2 * t * (m * T' + 2 * (k * L')) = 2 * t * (m * T') + 2 * t * (2 * (k * L')) := Int.mul_add ..
        have q8 : 2 * t * (2 * (k * L')) ≤ m * (2 * (k * L')) := Int.mul_le_mul_of_nonneg_right (by omega) (by have := Int.mul_nonneg k0 hL'; omega)
        omega
      have q9 : 2 * t * (t * T + k * L) ≤ m * (t * T' + k * L') := by
        rw [Int.mul_left_comm (2 * t)] at q7
        rw [Int.mul_left_comm m] at q7
        omega
      have q10 : 2 * a * (t * T + k * L) ≤ m * (t * T' + k * L') := Int.le_trans (Int.mul_le_mul_of_nonneg_right (by omega) c0) q9
      have q11 := sq (Int.mul_nonneg (by omega) c0) q10
      generalize t * T + k * L = C at *
      generalize t * T' + k * L' = O at *
      have e3 : m * O * (m * O) = m * m * (O * O) := by ac_rfl
      have e4 : 2 * a * C * (2 * a * C) = 4 * a * (C * C * a) := by
        rw [show (4 : Int) = 2 * 2 from rfl]; ac_rfl
      have q12 : m * m * (O * O) ≤ 4 * a * b * (O * O) := Int.mul_le_mul_of_nonneg_right m1 (Int.mul_nonneg o0 o0)
      have e5 : 4 * a * b * (O * O) = 4 * a * (O * O * b) := by
        rw [Int.mul_assoc (4 * a), Int.mul_comm b]
      have q13 : 4 * a * (C * C * a) ≤ 4 * a * (O * O * b) := by omega
      exact Int.le_of_mul_le_mul_left q13 (by omega)

/-- sums keep it -/
theorem near_add {a b c d o p : Int} (hb : 0 ≤ b) (ha : 0 ≤ a) (hc : 0 ≤ c) (hd : 0 ≤ d) (ho : 0 ≤ o) (hp : 0 ≤ p) (h1 : c * c * a ≤ o * o * b) (h2 : d * d * a ≤ p * p * b) : (c + d) * (c + d) * a ≤ (o + p) * (o + p) * b := by
  have cross : c * d * a ≤ o * p * b := by
    refine Int.not_lt.mp fun q => ?_
    have n1 : 0 ≤ o * p * b := Int.mul_nonneg (Int.mul_nonneg ho hp) hb
    have x1 : o * p * b * (o * p * b) < c * d * a * (c * d * a) := by
      refine Int.lt_of_le_of_lt (Int.mul_le_mul_of_nonneg_left (Int.le_of_lt q) n1) ?_
      exact Int.mul_lt_mul_of_pos_right q (by omega)
    have x2 : c * c * a * (d * d * a) ≤ o * o * b * (p * p * b) := Int.mul_le_mul h1 h2 (Int.mul_nonneg (Int.mul_nonneg hd hd) ha) (Int.mul_nonneg (Int.mul_nonneg ho ho) hb)
    have e1 : c * d * a * (c * d * a) = c * c * a * (d * d * a) := by ac_rfl
    have e2 : o * p * b * (o * p * b) = o * o * b * (p * p * b) := by ac_rfl
    omega
  have e1 : (c + d) * (c + d) * a = c * c * a + 2 * (c * d * a) + d * d * a := by
    rw [Int.add_mul, Int.mul_add, Int.mul_add, Int.add_mul, Int.add_mul, Int.add_mul, Int.mul_comm d c]; omega
  have e2 : (o + p) * (o + p) * b = o * o * b + 2 * (o * p * b) + p * p * b := by
    rw [Int.add_mul, Int.mul_add, Int.mul_add, Int.add_mul, Int.add_mul, Int.add_mul, Int.mul_comm p o]; omega
  omega
theorem near_mul {a b c o z : Int} (h1 : c * c * a ≤ o * o * b) : (z * c) * (z * c) * a ≤ (z * o) * (z * o) * b := by
  have e1 : (z * c) * (z * c) * a = z * z * (c * c * a) := by ac_rfl
  have e2 : (z * o) * (z * o) * b = z * z * (o * o * b) := by ac_rfl
  rw [e1, e2]
  refine Int.mul_le_mul_of_nonneg_left h1 ?_
  rcases Int.le_total 0 z with h | h
  · exact Int.mul_nonneg h h
  · have := Int.mul_nonneg (a := -z) (b := -z) (by omega) (by omega)
    rwa [Int.neg_mul_neg] at this
end LK
set_option maxHeartbeats 4000000
/-! Lists and tuples of ints; pure comprehensions; data. -/
namespace LK
open PySem PySem.Spec PyProof.Rows L2
/-- ints as values -/
abbrev iv (ns : List Int) : List V := ns.map V.int
abbrev bv (bs : List Bool) : List V := bs.map V.bl
theorem sl {K : PySem.W.Frag} {H : Hp} {a : Addr} {xs : List V} (h : H a = some (.lst xs)) : SqL K H a xs := .inl (.inl h)
theorem stp {K : PySem.W.Frag} {H : Hp} {a : Addr} {xs : List V} (h : H a = some (.tup xs)) : SqT K H a xs := .inl (.inl h)
theorem line : (sizeLine : Nat) = 16777216 := sizeLine_eq
/-! two lists side by side -/
inductive F2 {α β : Type} (R : α → β → Prop) : List α → List β → Prop
  | nil : F2 R [] []
  | cons {a b as bs} : R a b → F2 R as bs → F2 R (a :: as) (b :: bs)
namespace F2
variable {α β γ : Type} {R S : α → β → Prop}
theorem length {xs : List α} {ys : List β} (h : F2 R xs ys) : xs.length = ys.length := by
  induction h with
  | nil => rfl
  | cons _ _ ih => simp [ih]
theorem imp {xs : List α} {ys : List β} (h : F2 R xs ys) (k : ∀ a b, a ∈ xs → R a b → S a b) : F2 S xs ys := by
  induction h with
  | nil => exact .nil
  | cons r t ih => exact .cons (k _ _ List.mem_cons_self r) (ih fun a b m => k a b (List.mem_cons_of_mem _ m))
theorem snoc {xs : List α} {ys : List β} {a : α} {b : β} (h : F2 R xs ys) (r : R a b) : F2 R (xs ++ [a]) (ys ++ [b]) := by
  induction h with
  | nil => exact .cons r .nil
  | cons r' _ ih => exact .cons r' ih
theorem get {xs : List α} {ys : List β} (h : F2 R xs ys) : ∀ {i : Nat} {x : α}, xs[i]? = some x → ∃ y, ys[i]? = some y ∧ R x y := by
  induction h with
  | nil => intro i x e; simp at e
  | cons r _ ih =>
    intro i x e
    cases i with
    | zero => simp at e; subst e; exact ⟨_, by simp, r⟩
    | succ i => simp at e; obtain ⟨y, q, r⟩ := ih e; exact ⟨y, by simpa using q, r⟩
theorem getR {xs : List α} {ys : List β} (h : F2 R xs ys) : ∀ {i : Nat} {y : β}, ys[i]? = some y → ∃ x, xs[i]? = some x ∧ R x y := by
  induction h with
  | nil => intro i x e; simp at e
  | cons r _ ih =>
    intro i x e
    cases i with
    | zero => simp at e; subst e; exact ⟨_, by simp, r⟩
    | succ i => simp at e; obtain ⟨y, q, r⟩ := ih e; exact ⟨y, by simpa using q, r⟩
theorem eqs {f : α → β} {xs : List α} {ys : List β} (h : F2 (fun a b => b = f a) xs ys) : ys = xs.map f := by
  induction h with
  | nil => rfl
  | cons r _ ih => simp [r, ih]
theorem ofMap {f : α → β} (xs : List α) (h : ∀ a, a ∈ xs → R a (f a)) : F2 R xs (xs.map f) := by
  induction xs with
  | nil => exact .nil
  | cons a xs ih => exact .cons (h a List.mem_cons_self) (ih fun b m => h b (List.mem_cons_of_mem _ m))
theorem mapL {f : γ → α} {xs : List γ} {ys : List β} (h : F2 (fun a b => R (f a) b) xs ys) : F2 R (xs.map f) ys := by
  induction h with
  | nil => exact .nil
  | cons r _ ih => exact .cons r ih
theorem unmapL {f : γ → α} : ∀ {xs : List γ} {ys : List β}, F2 R (xs.map f) ys → F2 (fun a b => R (f a) b) xs ys
  | [], _, .nil => .nil
  | _ :: _, _, .cons r t => .cons r (unmapL t)
theorem set {xs : List α} {ys : List β} {b : β} (h : F2 R xs ys) : ∀ {i : Nat} {x : α}, xs[i]? = some x → R x b → F2 R xs (ys.set i b) := by
  induction h with
  | nil => intro i x e; simp at e
  | @cons a b' as bs r t ih =>
    intro i x e q
    cases i with
    | zero => simp at e; subst e; exact .cons q t
    | succ i => simp at e; exact .cons r (ih e q)
theorem mem {xs : List α} {ys : List β} (h : F2 R xs ys) : ∀ {y : β}, y ∈ ys → ∃ x, x ∈ xs ∧ R x y := by
  induction h with
  | nil => intro y e; cases e
  | cons r _ ih =>
    intro y e
    rcases List.mem_cons.mp e with rfl | e
    · exact ⟨_, List.mem_cons_self, r⟩
    · obtain ⟨x, m, q⟩ := ih e; exact ⟨x, List.mem_cons_of_mem _ m, q⟩
theorem memL {xs : List α} {ys : List β} (h : F2 R xs ys) : ∀ {x : α}, x ∈ xs → ∃ y, y ∈ ys ∧ R x y := by
  induction h with
  | nil => intro y e; cases e
  | cons r _ ih =>
    intro y e
    rcases List.mem_cons.mp e with rfl | e
    · exact ⟨_, List.mem_cons_self, r⟩
    · obtain ⟨x, m, q⟩ := ih e; exact ⟨x, List.mem_cons_of_mem _ m, q⟩
theorem getI {ws : List Int} {i : Nat} {x : V} (h : (ws.map V.int)[i]? = some x) : ∃ w, ws[i]? = some w ∧ x = .int w := by
  rw [List.getElem?_map] at h
  cases e : ws[i]? with
  | none => rw [e] at h; cases h
  | some w => rw [e] at h; exact ⟨w, rfl, (Option.some.inj h).symm⟩
end F2
/-! ### items -/
theorem atI_int {ns : List Int} {j : Nat} {n : Int} (h : ns[j]? = some n) {i : Int} (e : i = (j : Int)) : atI (iv ns) i = some (.int n) := by
  subst e
  exact atI_nat (by simp [h])
theorem atI_nn {α : Type} {xs : List α} {i : Int} {v : α} (h0 : 0 ≤ i) (h : xs[i.toNat]? = some v) : atI xs i = some v := by
  have := atI_nat h
  rwa [Int.toNat_of_nonneg h0] at this
theorem atI_ge {α : Type} {xs : List α} {i : Int} {v : α} (h0 : 0 ≤ i) (h : atI xs i = some v) : xs[i.toNat]? = some v := by
  obtain ⟨j, h1, h2, h3, h4, h5⟩ := atI_get h
  have e : i = ((i.toNat : Nat) : Int) := (Int.toNat_of_nonneg h0).symm
  have hl : i.toNat < xs.length := by omega
  have q := atI_nat (xs := xs) (j := i.toNat) (v := xs[i.toNat]) (by simp [hl])
  rw [← e, h] at q
  rw [List.getElem?_eq_getElem hl]
  exact q.symm
theorem inV_int (x : Int) (ns : List Int) : inV (.int x) (iv ns) = decide (x ∈ ns) := by
  have : ∀ y : Int, eqV (.int y) (.int x) = decide (x = y) := fun y => by
    simp only [eqV]
    first
      | (by_cases e : x = y
         · subst e; simp
         · have e2 : y ≠ x := fun z => e z.symm
           simp [e, e2])
      | (simp [eq_comm])
  unfold inV
  rw [List.any_map]
  induction ns with
  | nil => simp
  | cons n ns ih =>
    rw [List.any_cons, ih]
    show (eqV (.int n) (.int x) || _) = _
    rw [this]
    by_cases e : x = n <;> simp [e]
theorem flat_iv (ns : List Int) : (iv ns).all flatV = true := by
  rw [List.all_eq_true]
  intro v hv
  obtain ⟨n, _, rfl⟩ := List.mem_map.mp hv
  rfl
section
variable {K : PySem.W.Frag} {H : Hp} {Q : VK} {p : Addr} {x : Int} {ns : List Int} {neg : Bool} {xs : List V} {σ : L2.St} {t : TA} {y : V} {ta : TE}
theorem rd_inL (hl : SqL K H p (iv ns)) (h : Q (.bl (if neg then !decide (x ∈ ns) else decide (x ∈ ns))) H) : rIn K neg (.int x) (.ref p) H Q := ⟨p, _, rfl, .inl hl, rfl, flat_iv _, by rw [inV_int]; exact h⟩
theorem rd_inT (hl : SqT K H p (iv ns)) (h : Q (.bl (if neg then !decide (x ∈ ns) else decide (x ∈ ns))) H) : rIn K neg (.int x) (.ref p) H Q := ⟨p, _, rfl, .inr hl, rfl, flat_iv _, by rw [inV_int]; exact h⟩
theorem rd_bm {T : String} {r : V → List V → Hp → VK → Prop} (h : ta σ H fun x H1 => tyV K T x H1 ∧ t σ H1 fun xs H2 => r x xs H2 Q) : tBM K T r ta t σ H Q := h
theorem rd_tyL {A : Prop} (hp : H p = some (.lst xs)) (h : A) : tyV K "list" (.ref p) H ∧ A := ⟨.inl ⟨rfl, xs, sl hp⟩, h⟩
theorem rd_push (hp : H p = some (.lst xs)) (hz : xs.length < 10000000) (h : Q .non (upd H p (.lst (xs ++ [y])))) : rAppend (.ref p) [y] H Q := ⟨p, xs, y, rfl, rfl, hp, by rw [line]; omega, h⟩
theorem rd_mod {a b : Int} (hc : 0 < b) (h : Q (.int (a % b)) H) : rI (fun _ j => 0 < j) (fun i j => .int (i % j)) (.int a) (.int b) H Q := ⟨a, b, rfl, rfl, hc, h⟩
theorem rd_div {a b : Int} (hc : 0 < b) (hb : b < 2 ^ 200) (h : Q (.int (a / b)) H) : rI CDivW (fun i j => .int (i / j)) (.int a) (.int b) H Q := ⟨a, b, rfl, rfl, wide_div (b := 200) hc (by omega) (by omega) (by omega), h⟩
theorem rd_mul {a b : Int} (ha : -2 ^ 200 < a ∧ a < 2 ^ 200) (hb : -2 ^ 200 < b ∧ b < 2 ^ 200) (h : Q (.int (a * b)) H) : rI CMulW (fun i j => .int (i * j)) (.int a) (.int b) H Q := ⟨a, b, rfl, rfl, wide_mul (a := 200) (b := 200) (by omega) (by omega) (by omega) (by omega) (by omega), h⟩
theorem rd_shl {b : Int} (h0 : 0 ≤ b) (hb : b < 1000) (h : Q (.int (2 ^ b.toNat)) H) : rI CPow (fun i j => .int (i * 2 ^ j.toNat)) (.int 1) (.int b) H Q := ⟨1, b, rfl, rfl, ⟨h0, by omega, by decide⟩, by show Q (.int (1 * 2 ^ b.toNat)) H; rw [Int.one_mul]; exact h⟩
theorem rd_shr {a b : Int} (h0 : 0 ≤ b) (h : Q (.int (a / 2 ^ b.toNat)) H) : rI (fun _ j => 0 ≤ j) (fun i j => .int (i / 2 ^ j.toNat)) (.int a) (.int b) H Q := ⟨a, b, rfl, rfl, h0, h⟩
theorem rd_for {wi : TI} {g : TG} {tb : TS} {D : Ends} (h : wi σ H fun J H1 => ∃ W : Nat → Nat → L2.St → Hp → Prop, (∃ m, W 0 m σ H1) ∧ ∀ i m σ H, W i m σ H →
  (J.stop i H ∧ D.nx σ H) ∨ (J.go i H ∧ ∃ N : L2.St → Hp → Prop, (∀ σ' H', N σ' H' → ∃ m', m' < m ∧ W (i + 1) m' σ' H') ∧ ∀ x H', J.yld i H x H' → g x σ H' fun σ2 H2 => tb { D with nx := N, ct := N, bk := D.nx } σ2 H2)) : tFor wi g tb D σ H := h
theorem rd_r1 {R : It → Hp → Prop} {j : Int} (h0 : 0 ≤ j) (h1 : j < 2 ^ 40) (e : ta σ H fun v H1 => v = .int j ∧ R (Itr 0 j.toNat) H1) (mono : ∀ Q Q' : VK, (∀ v H, Q v H → Q' v H) → ta σ H Q → ta σ H Q') : iRng1 (tCons ta tNil) σ H R := by
  refine mono _ _ (fun v H1 q => ?_) e
  exact ⟨j, by rw [q.1], by omega, by omega, q.2⟩
end
/-! ### a comprehension that leaves what was as it was -/
theorem iteR {b : Bool} {A B C D : Prop} (h1 : A → C) (h2 : B → D) (h : if b = true then A else B) : if b = true then C else D := by
  cases b
  · exact h2 h
  · exact h1 h
/-- said of what is apart from D -/
def Ap (D : Addr) (P : Hp → Prop) (H : Hp) : Prop := ∃ G, Same G H ∧ G D = none ∧ P G
theorem Ap.mono {D : Addr} {P : Hp → Prop} {H H' : Hp} (h : Ap D P H) (s : Same H H') : Ap D P H' := by
  obtain ⟨G, a, b, c⟩ := h
  exact ⟨G, a.trans s, b, c⟩
theorem Ap.upd {D : Addr} {P : Hp → Prop} {H : Hp} {o : HO} (h : Ap D P H) : Ap D P (upd H D o) := by
  obtain ⟨G, a, b, c⟩ := h
  exact ⟨G, Same.upd a b, b, c⟩
theorem Ap.of {D : Addr} {P : Hp → Prop} {H : Hp} (h : Ap D P H) (st : ∀ H H', Same H H' → P H → P H') : P H := by
  obtain ⟨G, a, b, c⟩ := h
  exact st _ _ a c
theorem Ap.pure {D : Addr} {P : Hp → Prop} {H : Hp} (h : P fun _ => none) : Ap D P H := ⟨fun _ => none, fun _ _ e => (by cases e), rfl, h⟩
/-- over a range: the kept turns' items, each as P says -/
theorem lcR {lo : Int} {n : Nat} {g : TG} {tt : TT} {te : TE} {vs : List Nat} {σ : L2.St} {H1 : Hp} {D : Addr} {Qd : Hp → Prop} (keep : Nat → Bool) (P : Nat → V → Hp → Prop)
    (hD : H1 D = none) (hn : n < 1000000) (st : ∀ i y H H', Same H H' → P i y H → P i y H')
    (hs : ∀ i H, i < n → Same H1 H → H D ≠ none → ∀ (R1 : VK) (R0 : Hp → Prop), (keep i = true → ∀ y H', Same H H' → Ap D (P i y) H' → R1 y H') → (keep i = false → ∀ H', Same H H' → R0 H') →
      g (.int (lo + i)) (wipe σ vs) H fun σ2 H2 => wipe σ2 vs = wipe σ vs ∧ tt σ2 H2 fun b H3 => if b = true then te σ2 H3 R1 else R0 H3)
    (hd : ∀ H ys, Same H1 H → H D = some (.lst ys) → F2 (fun i y => P i y H) ((List.range n).filter keep) ys → Qd H) :
    ∃ W : Nat → Nat → Hp → Prop, (∃ m, W 0 m (upd H1 D (.lst []))) ∧ ∀ i m H, W i m H →
      ((Itr lo n).stop i H ∧ Qd H) ∨ ((Itr lo n).go i H ∧ ∃ Nx : Hp → Prop, (∀ H', Nx H' → ∃ m', m' < m ∧ W (i + 1) m' H') ∧ ∀ x H', (Itr lo n).yld i H x H' → g x (wipe σ vs) H' fun σ2 H2 => wipe σ2 vs = wipe σ vs ∧ tt σ2 H2 fun b H3 =>
        if b = true then te σ2 H3 fun y H4 => ∃ acc, H4 D = some (.lst acc) ∧ acc.length < sizeLine ∧ Nx (upd H4 D (.lst (acc ++ [y]))) else Nx H3) := by
  refine lc_range (fun i H => Same H1 H ∧ ∃ ys, H D = some (.lst ys) ∧ F2 (fun i y => Ap D (P i y) H) ((List.range i).filter keep) ys) ⟨Same.new hD, [], upd_same .., .nil⟩ (fun i H hi ⟨s, ys, h1, h2⟩ => ?_) (fun H ⟨s, ys, h1, h2⟩ => hd H ys s h1 (h2.imp fun a b _ q => q.of (st a b)))
  have hl : ys.length ≤ i := by
    rw [← h2.length]
    exact Nat.le_trans (List.length_filter_le _ _) (by simp)
  refine hs i H hi s (by rw [h1]; exact fun z => by cases z) _ _ (fun k y H' s' p => ⟨ys, s' _ _ h1, by rw [line]; omega, Same.upd (s.trans s') hD, _, upd_same .., ?_⟩) (fun k H' s' => ⟨s.trans s', ys, s' _ _ h1, ?_⟩)
  · rw [List.range_succ, List.filter_append]
    have e : List.filter keep [i] = [i] := by simp [k]
    rw [e]
    exact F2.snoc (h2.imp fun a b _ q => (q.mono s').upd) p.upd
  · rw [List.range_succ, List.filter_append]
    have e : List.filter keep [i] = [] := by simp [k]
    rw [e, List.append_nil]
    exact h2.imp fun a b _ q => q.mono s'
theorem take_snoc {α : Type} {xs : List α} {i : Nat} {x : α} (h : xs[i]? = some x) : xs.take (i + 1) = xs.take i ++ [x] := by
  obtain ⟨hl, e⟩ := List.getElem?_eq_some_iff.mp h
  rw [List.take_succ, h]
  rfl
/-- over a list: the kept items' items -/
theorem lcL {K : PySem.W.Frag} {a : Addr} {xs : List V} {g : TG} {tt : TT} {te : TE} {vs : List Nat} {σ : L2.St} {H1 : Hp} {D : Addr} {Qd : Hp → Prop} (keep : V → Bool) (P : V → V → Hp → Prop)
    (ha : SqL K H1 a xs) (hD : H1 D = none) (hn : xs.length < 1000000) (st : ∀ i y H H', Same H H' → P i y H → P i y H')
    (hs : ∀ x H, x ∈ xs → Same H1 H → H D ≠ none → ∀ (R1 : VK) (R0 : Hp → Prop), (keep x = true → ∀ y H', Same H H' → Ap D (P x y) H' → R1 y H') → (keep x = false → ∀ H', Same H H' → R0 H') →
      g x (wipe σ vs) H fun σ2 H2 => wipe σ2 vs = wipe σ vs ∧ tt σ2 H2 fun b H3 => if b = true then te σ2 H3 R1 else R0 H3)
    (hd : ∀ H ys, Same H1 H → H D = some (.lst ys) → F2 (fun i y => P i y H) (xs.filter keep) ys → Qd H) :
    ∃ W : Nat → Nat → Hp → Prop, (∃ m, W 0 m (upd H1 D (.lst []))) ∧ ∀ i m H, W i m H →
      ((Itl K a).stop i H ∧ Qd H) ∨ ((Itl K a).go i H ∧ ∃ Nx : Hp → Prop, (∀ H', Nx H' → ∃ m', m' < m ∧ W (i + 1) m' H') ∧ ∀ x H', (Itl K a).yld i H x H' → g x (wipe σ vs) H' fun σ2 H2 => wipe σ2 vs = wipe σ vs ∧ tt σ2 H2 fun b H3 =>
        if b = true then te σ2 H3 fun y H4 => ∃ acc, H4 D = some (.lst acc) ∧ acc.length < sizeLine ∧ Nx (upd H4 D (.lst (acc ++ [y]))) else Nx H3) := by
  refine lc_list (xs := xs) (fun i H => Same H1 H ∧ ∃ ys, H D = some (.lst ys) ∧ F2 (fun i y => Ap D (P i y) H) ((xs.take i).filter keep) ys) ⟨Same.new hD, [], upd_same .., by simpa using F2.nil⟩ (fun i H _ ⟨s, _⟩ => s.seq ha) (fun i x H hx ⟨s, ys, h1, h2⟩ => ?_)
    (fun H ⟨s, ys, h1, h2⟩ => hd H ys s h1 (by rw [List.take_length] at h2; exact h2.imp fun a b _ q => q.of (st a b)))
  have hi : i < xs.length := (List.getElem?_eq_some_iff.mp hx).1
  have hl : ys.length ≤ i := by
    rw [← h2.length]
    exact Nat.le_trans (List.length_filter_le _ _) (by simp; omega)
  refine hs x H (List.mem_of_getElem? hx) s (by rw [h1]; exact fun z => by cases z) _ _ (fun k y H' s' p => ⟨ys, s' _ _ h1, by rw [line]; omega, Same.upd (s.trans s') hD, _, upd_same .., ?_⟩) (fun k H' s' => ⟨s.trans s', ys, s' _ _ h1, ?_⟩)
  · rw [take_snoc hx, List.filter_append]
    have e : List.filter keep [x] = [x] := by simp [k]
    rw [e]
    exact F2.snoc (h2.imp fun a b _ q => (q.mono s').upd) p.upd
  · rw [take_snoc hx, List.filter_append]
    have e : List.filter keep [x] = [] := by simp [k]
    rw [e, List.append_nil]
    exact h2.imp fun a b _ q => q.mono s'
/-- over a list of ints: the kept ones -/
theorem lcI {K : PySem.W.Frag} {a : Addr} {ns : List Int} {g : TG} {tt : TT} {te : TE} {vs : List Nat} {σ : L2.St} {H1 : Hp} {D : Addr} {Qd : Hp → Prop} (keep : Int → Bool) (f : Int → V)
    (ha : SqL K H1 a (iv ns)) (hD : H1 D = none) (hn : ns.length < 1000000)
    (hs : ∀ x H, x ∈ ns → Same H1 H → ∀ (R1 : VK) (R0 : Hp → Prop), (keep x = true → ∀ H', Same H H' → R1 (f x) H') → (keep x = false → ∀ H', Same H H' → R0 H') →
      g (.int x) (wipe σ vs) H fun σ2 H2 => wipe σ2 vs = wipe σ vs ∧ tt σ2 H2 fun b H3 => if b = true then te σ2 H3 R1 else R0 H3)
    (hd : ∀ H, Same H1 H → H D = some (.lst ((ns.filter keep).map f)) → Qd H) :
    ∃ W : Nat → Nat → Hp → Prop, (∃ m, W 0 m (upd H1 D (.lst []))) ∧ ∀ i m H, W i m H →
      ((Itl K a).stop i H ∧ Qd H) ∨ ((Itl K a).go i H ∧ ∃ Nx : Hp → Prop, (∀ H', Nx H' → ∃ m', m' < m ∧ W (i + 1) m' H') ∧ ∀ x H', (Itl K a).yld i H x H' → g x (wipe σ vs) H' fun σ2 H2 => wipe σ2 vs = wipe σ vs ∧ tt σ2 H2 fun b H3 =>
        if b = true then te σ2 H3 fun y H4 => ∃ acc, H4 D = some (.lst acc) ∧ acc.length < sizeLine ∧ Nx (upd H4 D (.lst (acc ++ [y]))) else Nx H3) := by
  refine lcL (fun v => match v with | .int n => keep n | _ => false) (fun v y _ => ∃ n, v = .int n ∧ y = f n) ha hD (by simpa using hn) (fun _ _ _ _ _ q => q) (fun x H hx s _ R1 R0 r1 r0 => ?_) (fun H ys s h1 h2 => hd H s ?_)
  · obtain ⟨n, hn, rfl⟩ := List.mem_map.mp hx
    exact hs n H hn s R1 R0 (fun k H' s' => r1 k _ H' s' (.pure ⟨n, rfl, rfl⟩)) r0
  · rw [h1]
    have e : (iv ns).filter (fun v => match v with | .int n => keep n | _ => false) = iv (ns.filter keep) := by
      simp only [iv, List.filter_map]
      rfl
    rw [e] at h2
    rw [F2.eqs (h2.unmapL.imp (S := fun a b => b = f a) fun a b _ ⟨n, e, q⟩ => by cases e; exact q)]
/-- over a range: the kept numbers' values -/
theorem lcRv {lo : Int} {n : Nat} {g : TG} {tt : TT} {te : TE} {vs : List Nat} {σ : L2.St} {H1 : Hp} {D : Addr} {Qd : Hp → Prop} (keep : Nat → Bool) (f : Nat → V)
    (hD : H1 D = none) (hn : n < 1000000)
    (hs : ∀ i H, i < n → Same H1 H → ∀ (R1 : VK) (R0 : Hp → Prop), (keep i = true → ∀ H', Same H H' → R1 (f i) H') → (keep i = false → ∀ H', Same H H' → R0 H') →
      g (.int (lo + i)) (wipe σ vs) H fun σ2 H2 => wipe σ2 vs = wipe σ vs ∧ tt σ2 H2 fun b H3 => if b = true then te σ2 H3 R1 else R0 H3)
    (hd : ∀ H, Same H1 H → H D = some (.lst (((List.range n).filter keep).map f)) → Qd H) :
    ∃ W : Nat → Nat → Hp → Prop, (∃ m, W 0 m (upd H1 D (.lst []))) ∧ ∀ i m H, W i m H →
      ((Itr lo n).stop i H ∧ Qd H) ∨ ((Itr lo n).go i H ∧ ∃ Nx : Hp → Prop, (∀ H', Nx H' → ∃ m', m' < m ∧ W (i + 1) m' H') ∧ ∀ x H', (Itr lo n).yld i H x H' → g x (wipe σ vs) H' fun σ2 H2 => wipe σ2 vs = wipe σ vs ∧ tt σ2 H2 fun b H3 =>
        if b = true then te σ2 H3 fun y H4 => ∃ acc, H4 D = some (.lst acc) ∧ acc.length < sizeLine ∧ Nx (upd H4 D (.lst (acc ++ [y]))) else Nx H3) :=
  lcR keep (fun i y _ => y = f i) hD hn (fun _ _ _ _ _ q => q) (fun i H hi s _ R1 R0 r1 r0 => hs i H hi s R1 R0 (fun k H' s' => r1 k _ H' s' (.pure rfl)) r0) fun H ys s h1 h2 => hd H s (by rw [h1, h2.eqs])
theorem rd_lc {wi : TI} {g : TG} {tt : TT} {te : TE} {vs : List Nat} {σ : L2.St} {H : Hp} {Q : VK} (h : wi σ H fun J H1 => ∀ D, H1 D = none → ∃ W : Nat → Nat → Hp → Prop, (∃ m, W 0 m (upd H1 D (.lst []))) ∧ ∀ i m H, W i m H →
  (J.stop i H ∧ Q (.ref D) H) ∨ (J.go i H ∧ ∃ Nx : Hp → Prop, (∀ H', Nx H' → ∃ m', m' < m ∧ W (i + 1) m' H') ∧ ∀ x H', J.yld i H x H' → g x (wipe σ vs) H' fun σ2 H2 => wipe σ2 vs = wipe σ vs ∧ tt σ2 H2 fun b H3 =>
    if b = true then te σ2 H3 fun y H4 => ∃ acc, H4 D = some (.lst acc) ∧ acc.length < sizeLine ∧ Nx (upd H4 D (.lst (acc ++ [y]))) else Nx H3)) : tLc wi g tt te vs σ H Q := h
theorem rd_iL' {K : PySem.W.Frag} {te : TE} {σ : L2.St} {H : Hp} {R : It → Hp → Prop} (h : te σ H fun x H1 => ∃ a, x = .ref a ∧ (∃ xs, SqL K H1 a xs) ∧ R (Itl K a) H1) : iList K te σ H R := h
theorem rd_iT' {K : PySem.W.Frag} {te : TE} {σ : L2.St} {H : Hp} {R : It → Hp → Prop} (h : te σ H fun x H1 => ∃ a, x = .ref a ∧ (∃ xs, SqT K H1 a xs) ∧ R (Itt K a) H1) : iTup K te σ H R := h
theorem rd_itL {K : PySem.W.Frag} {a : Addr} {xs : List V} {H : Hp} {R : Prop} (h : SqL K H a xs) (r : R) : ∃ b, V.ref a = .ref b ∧ (∃ xs, SqL K H b xs) ∧ R := ⟨a, rfl, ⟨xs, h⟩, r⟩
theorem keep_upd {H : Hp} {p q : Addr} {o o' : HO} (hq : H q = none) (h : H p = some o) : upd H q o' p = some o := by
  rw [upd_ne (ne_of_none h hq)]; exact h
theorem same_app {H H' : Hp} {p : Addr} {o : HO} (s : Same H H') (h : H p = some o) : H' p = some o := s _ _ h
theorem upd_other {H : Hp} {p q : Addr} {o o' : HO} (hq : p ≠ q) (h : H p = some o) : upd H q o' p = some o := by
  rw [upd_ne hq]; exact h
theorem rd_ifxV {c : Bool} {x y : V} {ta tb : TE} {σ : L2.St} {H : Hp} {Q : VK} (ha : ∀ Q : VK, Q x H → ta σ H Q) (hb : ∀ Q : VK, Q y H → tb σ H Q) (h : Q (if c = true then x else y) H) : if c = true then ta σ H Q else tb σ H Q := by
  cases c
  · exact hb Q h
  · exact ha Q h
theorem ll {n : Nat} (h : n ≤ 10000000) : n ≤ sizeLine := by rw [line]; omega
theorem rd_nm {i : Nat} {v : V} {σ : L2.St} {H : Hp} {Q : L2.St → Hp → Prop} (h : Q (σ.set i (some v)) H) : gName i v σ H Q := h
theorem rd_callN {n m : Nat} {sp : Sp} {gV : List V → List V → List V} {E : XK} {t tk : TA} {σ : L2.St} {H : Hp} {Q : VK} (h : t σ H fun vs H1 => tk σ H1 fun zs H2 => vs.length = n ∧ zs.length = m ∧ sp (gV vs zs) H2 Q E) : tCallN n m sp gV E t tk σ H Q := h
section
variable {σ : L2.St} {H : Hp} {Q : VK} {te : TE} {ta : TA} {R : It → Hp → Prop}
theorem rd_rev {K : PySem.W.Frag} (h : te σ H fun x H1 => ∃ a xs, x = .ref a ∧ SqL K H1 a xs ∧ ∀ p, H1 p = none → Q (.ref p) (upd H1 p (.lst xs.reverse))) : tRevL K te σ H Q := h
def rg1 (R : It → Hp → Prop) : List V → Hp → Prop := fun vs H1 => ∃ j : Int, vs = [.int j] ∧ -(2 ^ 62) ≤ j ∧ j < 2 ^ 62 ∧ R (Itr 0 j.toNat) H1
def rg2 (R : It → Hp → Prop) : List V → Hp → Prop := fun vs H1 => ∃ i j : Int, vs = [.int i, .int j] ∧ (-(2 ^ 62) ≤ i ∧ i < 2 ^ 62 ∧ -(2 ^ 62) ≤ j ∧ j < 2 ^ 62) ∧ R (Itr i (j - i).toNat) H1
theorem rd_rg1 (h : ta σ H (rg1 R)) : iRng1 ta σ H R := h
theorem rd_rg2 (h : ta σ H (rg2 R)) : iRng2 ta σ H R := h
theorem rg1N {j : Int} (n : Nat) (e : j = n) (hn : n < 1000000) (h : R (Itr 0 n) H) : rg1 R [.int j] H := ⟨j, rfl, by omega, by omega, by subst e; rw [Int.toNat_natCast]; exact h⟩
theorem rg2N {i j : Int} (n : Nat) (e : j = i + n) (h0 : 0 ≤ i) (hi : i < 1000000) (hn : n < 1000000) (h : R (Itr i n) H) : rg2 R [.int i, .int j] H := ⟨i, j, rfl, by omega, by
  have q : (j - i).toNat = n := by omega
  rw [q]; exact h⟩
end
theorem filter_tt {α : Type} (xs : List α) : xs.filter (fun _ => true) = xs := List.filter_eq_self.mpr fun _ _ => rfl
end LK
set_option maxHeartbeats 4000000
/-! What lies in the heap. -/
namespace LK
open PySem PySem.Spec PyProof.Rows L2
def IL (H : Hp) (v : V) (ns : List Int) : Prop := ∃ a, v = .ref a ∧ H a = some (.lst (iv ns))
def IT (H : Hp) (v : V) (ns : List Int) : Prop := ∃ a, v = .ref a ∧ H a = some (.tup (iv ns))
def BL (H : Hp) (v : V) (bs : List Bool) : Prop := ∃ a, v = .ref a ∧ H a = some (.lst (bv bs))
def LL {α : Type} (R : Hp → V → α → Prop) (H : Hp) (v : V) (ds : List α) : Prop := ∃ a xs, v = .ref a ∧ H a = some (.lst xs) ∧ F2 (R H) xs ds
def Rq (H : Hp) (v : V) (r : List Int × Int) : Prop := ∃ a b, v = .ref a ∧ H a = some (.tup [.ref b, .int r.2]) ∧ H b = some (.tup (iv r.1))
/-- kept where what was stays -/
def Mono {α : Type} (R : Hp → V → α → Prop) : Prop := ∀ H H' v d, Same H H' → R H v d → R H' v d
theorem m_IL : Mono IL := fun H H' v d s ⟨a, e, h⟩ => ⟨a, e, s _ _ h⟩
theorem m_IT : Mono IT := fun H H' v d s ⟨a, e, h⟩ => ⟨a, e, s _ _ h⟩
theorem m_BL : Mono BL := fun H H' v d s ⟨a, e, h⟩ => ⟨a, e, s _ _ h⟩
theorem m_Rq : Mono Rq := fun H H' v d s ⟨a, b, e, h, h2⟩ => ⟨a, b, e, s _ _ h, s _ _ h2⟩
theorem m_LL {α : Type} {R : Hp → V → α → Prop} (m : Mono R) : Mono (LL R) := fun H H' v d s ⟨a, xs, e, h, f⟩ => ⟨a, xs, e, s _ _ h, f.imp fun x y _ q => m _ _ _ _ s q⟩
abbrev Row := LL Rq
abbrev Plan := LL IT
theorem m_Row : Mono Row := m_LL m_Rq
theorem m_Plan : Mono Plan := m_LL m_IT
/-- the votes of a patch -/
def votes (p : Int) (rs : List (List Int × Int)) : List Int := rs.map fun r => if p ∈ r.1 then r.2 else -r.2
theorem votes_length (p : Int) (rs : List (List Int × Int)) : (votes p rs).length = rs.length := by simp [votes]
theorem iteV {c : Bool} {x y : Int} : (if c = true then V.int x else V.int y) = .int (if c = true then x else y) := by cases c <;> rfl
/-! a list that a loop appends to: its items are said of what is apart from it -/
def Told {α : Type} (R : Hp → V → α → Prop) (q : Addr) (ds : List α) (H : Hp) : Prop := ∃ ys, H q = some (.lst ys) ∧ F2 (fun y d => Ap q (fun G => R G y d) H) ys ds
theorem Told.nil {α : Type} {R : Hp → V → α → Prop} {q : Addr} {H : Hp} (h : H q = some (.lst [])) : Told R q [] H := ⟨[], h, .nil⟩
theorem Told.mono {α : Type} {R : Hp → V → α → Prop} {q : Addr} {ds : List α} {H H' : Hp} (h : Told R q ds H) (s : Same H H') : Told R q ds H' := by
  obtain ⟨ys, a, b⟩ := h
  exact ⟨ys, s _ _ a, b.imp fun _ _ _ q => q.mono s⟩
theorem Told.end_ {α : Type} {R : Hp → V → α → Prop} {q : Addr} {ds : List α} {H : Hp} (h : Told R q ds H) (m : Mono R) : LL R H (.ref q) ds := by
  obtain ⟨ys, a, b⟩ := h
  exact ⟨q, ys, rfl, a, b.imp fun _ _ _ q => q.of fun _ _ s r => m _ _ _ _ s r⟩
theorem Told.push {α : Type} {R : Hp → V → α → Prop} {q : Addr} {ds : List α} {d : α} {H : Hp} {y : V} {Q : VK} (h : Told R q ds H) (hz : ds.length < 10000000) (a : Ap q (fun G => R G y d) H)
    (k : ∀ H', (∀ b o, b ≠ q → H b = some o → H' b = some o) → Told R q (ds ++ [d]) H' → Q .non H') : rAppend (.ref q) [y] H Q := by
  obtain ⟨ys, h1, h2⟩ := h
  refine rd_push h1 (by rw [h2.length]; exact hz) (k _ (fun b o hb e => by rw [upd_ne hb]; exact e) ⟨_, upd_same .., F2.snoc (h2.imp fun _ _ _ q => q.upd) a.upd⟩)
theorem Told.ty {α : Type} {R : Hp → V → α → Prop} {K : PySem.W.Frag} {q : Addr} {ds : List α} {H : Hp} {A : Prop} (h : Told R q ds H) (a : A) : tyV K "list" (.ref q) H ∧ A := by
  obtain ⟨ys, h1, h2⟩ := h
  exact rd_tyL h1 a
theorem Same.of_ne {H0 H H' : Hp} {q : Addr} (s : Same H0 H) (hq : H0 q = none) (k : ∀ b o, b ≠ q → H b = some o → H' b = some o) : Same H0 H' := fun b o e => k b o (ne_of_none e hq) (s b o e)
end LK
set_option maxHeartbeats 4000000
/-! The rules whose readings name the fragment, at a fragment K. -/
namespace LK
open PySem PySem.Spec PyProof.Rows L2
section
variable {X : Cx} {K : PySem.W.Frag}
theorem ix_ltK (e : X.K = K) : IxR X (rIxQ K) := e ▸ ix_lt
theorem k_lenK (e : X.K = K) : CallR X (.builtin "len") (rLenS K) := e ▸ k_len
theorem k_listK (e : X.K = K) : CallR X (.type "list") (rList K) := e ▸ k_list
theorem k_tupK (e : X.K = K) : CallR X (.type "tuple") (rTupL K) := e ▸ k_tup
theorem k_isiK (e : X.K = K) : CallR X (.builtin "isinstance") (rIsi K) := e ▸ k_isi
theorem k_minLK (hc : X.calm = true) (e : X.K = K) : CallR X (.builtin "min") (rMinL K) := e ▸ k_minL hc
theorem k_maxLK (hc : X.calm = true) (e : X.K = K) : CallR X (.builtin "max") (rMaxL K) := e ▸ k_maxL hc
theorem op_inK (e : X.K = K) : OpR X (compareOp .In) (rIn K false) := e ▸ op_in_seq
theorem op_notInK (e : X.K = K) : OpR X (compareOp .NotIn) (rIn K true) := e ▸ op_notIn_seq
theorem sl_listK (e : X.K = K) : SlR X (rSlL K) := e ▸ sl_list
theorem pi_listK {tg l : Expr} {tl : TE} (e : X.K = K) (hl : PE X l tl) : PI X tg l (iList K tl) := e ▸ pi_list hl
theorem pi_tupK {tg l : Expr} {tl : TE} (e : X.K = K) (hl : PE X l tl) : PI X tg l (iTup K tl) := e ▸ pi_tup hl
theorem pg_tupK {es : List Expr} {k : Nat} {t : TGs} {n : Nat} {pos : Pos} (e : X.K = K) (hc : X.calm = true) (h : PGs X es t)
    (hn : (assignEach es X.env).length = n := by rfl) (hst : (assignEach es X.env).findIdx? (·.1) = none := by rfl) : PG X (.Tuple es k pos) (gTup K n t) := e ▸ pg_tup hc h hn hst
theorem pe_revLK {e : Expr} {te : TE} {k : Nat} {p1 p2 p3 pos : Pos} (q : X.K = K) (he : PE X e te) : PE X (.Subscript e (.Slice none none (some (.UnaryOp .USub (.Constant (.int 1) k p1) p2)) p3) pos) (tRevL K te) := q ▸ pe_revL he
theorem pe_fldK {e : Expr} {f : Str} {pos : Pos} {ta : TE} (q : X.K = K) (he : PE X e ta) (hb : attributeBase e f X.env (eval e X.env) = eval e X.env) : PE X (.Attribute e f pos) (tFld K ta f) := q ▸ pe_fld he hb
theorem ps_fldK {o value : Expr} {f : Str} {pos pos' : Pos} {ta tv : TE} (q : X.K = K) (ha : PE X o ta) (hv : PE X value tv) (hs : swapsWith value (some (.Attribute o f pos')) pos.line X.env = pure false) : PS X (.Assign [.Attribute o f pos'] value pos) (sFld K ta tv f) := q ▸ ps_fld ha hv hs
theorem pe_appK {o e : Expr} {to : TE} {t : TA} {apos cpos : Pos} (q : X.K = K) (ho : PE X o to) (ha : PA X [e] t)
    (hbase : attributeBase o "append" X.env (eval o X.env) = eval o X.env := by rfl)
    (hfew : ((backTo cpos (starEach [e] X.env)).all (fun x => !x.1) && (backToKw cpos (keywordEach [] X.env)).all (fun x => x.1.isSome)
      && decide (([e] : List Expr).length + ([] : List Keyword).length + (if ([] : List Keyword).isEmpty then 0 else 1) < 30)) = true := by rfl)
    (hline : (apos.endLine == cpos.line) = true := by rfl) (hs : starEach [e] X.env = (false, eval e X.env) :: starEach [] X.env := by rfl) (hplain : (backTo cpos (starEach [] X.env)).any (·.1) = false := by rfl) :
    PE X (.Call (.Attribute o "append" apos) [e] [] cpos) (tBM K "list" rAppend to t) := q ▸ pe_bm PySem.F.plainAttrs_list PySem.F.slot_list_append PySem.F.type_list_append mt_append ho ha hbase hfew hline hs hplain
end
section
variable {K : PySem.W.Frag} {σ : L2.St} {H : Hp} {Q : VK} {ta tv te : TE} {t : TA}
/-- a tuple of two taken apart -/
theorem rd_gtup {n : Nat} {g : TGs} {a : Addr} {xs : List V} {R : L2.St → Hp → Prop} (h : SqT K H a xs) (hn : xs.length = n) (q : g xs σ H R) : gTup K n g (.ref a) σ H R := ⟨a, xs, rfl, h, hn, q⟩
theorem rd_fld {f : Str} (h : ta σ H fun x H1 => ∃ a C dx fs v, x = .ref a ∧ H1 a = some (.ins C dx fs) ∧ Cls K C ∧ NoAttr K C f ∧ fs.lookup f = some v ∧ Q v H1) : tFld K ta f σ H Q := h
theorem rd_meth {C : Addr} {m : Str} {sp : Sp} {dvs : List V} {E : XK} (h : ta σ H fun x H1 => ∃ a dx fs, x = .ref a ∧ H1 a = some (.ins C dx fs) ∧ fs.lookup m = none ∧ t σ H1 fun vs H2 => sp (x :: (vs ++ dvs)) H2 Q E) : tMeth C m sp dvs E ta t σ H Q := h
theorem rd_slL {p : Addr} {xs : List V} {lo hi : Option Int} (h : SqL K H p xs) (q : ∀ r, H r = none → Q (.ref r) (upd H r (.lst (cutV xs lo hi)))) : rSlL K (.ref p) lo hi H Q := ⟨p, xs, rfl, h, q⟩
end
theorem rd_yes {σ : L2.St} {H : Hp} {Q : Bool → Hp → Prop} (h : Q true H) : tYes σ H Q := h
theorem rd_tt {A B : Prop} (h : A) : if true = true then A else B := h
theorem rd_ff {A B : Prop} (h : B) : if false = true then A else B := h
theorem rd_gnil {σ : L2.St} {H : Hp} {Q : L2.St → Hp → Prop} (h : Q σ H) : gNil [] σ H Q := ⟨rfl, h⟩
theorem rd_gcons {σ : L2.St} {H : Hp} {Q : L2.St → Hp → Prop} {t : TG} {u : TGs} {v : V} {r : List V} (h : t v σ H fun σ' H' => u r σ' H' Q) : gCons t u (v :: r) σ H Q := ⟨v, r, rfl, h⟩
/-- over a list of data: the kept ones' items -/
theorem lcD {α : Type} {K : PySem.W.Frag} {a : Addr} {xs : List V} {ds : List α} {R : V → α → Prop} {g : TG} {tt : TT} {te : TE} {vs : List Nat} {σ : L2.St} {H1 : Hp} {D : Addr} {Qd : Hp → Prop} (keep : α → Bool) (P : α → V → Hp → Prop)
    (ha : SqL K H1 a xs) (hx : F2 R xs ds) (hD : H1 D = none) (hn : ds.length < 1000000) (st : ∀ i y H H', Same H H' → P i y H → P i y H')
    (hs : ∀ x d H, R x d → d ∈ ds → Same H1 H → H D ≠ none → ∀ (R1 : VK) (R0 : Hp → Prop), (keep d = true → ∀ y H', Same H H' → Ap D (P d y) H' → R1 y H') → (keep d = false → ∀ H', Same H H' → R0 H') →
      g x (wipe σ vs) H fun σ2 H2 => wipe σ2 vs = wipe σ vs ∧ tt σ2 H2 fun b H3 => if b = true then te σ2 H3 R1 else R0 H3)
    (hd : ∀ H ys, Same H1 H → H D = some (.lst ys) → F2 (fun d y => P d y H) (ds.filter keep) ys → Qd H) :
    ∃ W : Nat → Nat → Hp → Prop, (∃ m, W 0 m (upd H1 D (.lst []))) ∧ ∀ i m H, W i m H →
      ((Itl K a).stop i H ∧ Qd H) ∨ ((Itl K a).go i H ∧ ∃ Nx : Hp → Prop, (∀ H', Nx H' → ∃ m', m' < m ∧ W (i + 1) m' H') ∧ ∀ x H', (Itl K a).yld i H x H' → g x (wipe σ vs) H' fun σ2 H2 => wipe σ2 vs = wipe σ vs ∧ tt σ2 H2 fun b H3 =>
        if b = true then te σ2 H3 fun y H4 => ∃ acc, H4 D = some (.lst acc) ∧ acc.length < sizeLine ∧ Nx (upd H4 D (.lst (acc ++ [y]))) else Nx H3) := by
  refine lc_list (xs := xs) (fun i H => Same H1 H ∧ ∃ ys, H D = some (.lst ys) ∧ F2 (fun d y => Ap D (P d y) H) ((ds.take i).filter keep) ys) ⟨Same.new hD, [], upd_same .., by simpa using F2.nil⟩ (fun i H _ ⟨s, _⟩ => s.seq ha) (fun i x H hxi ⟨s, ys, h1, h2⟩ => ?_)
    (fun H ⟨s, ys, h1, h2⟩ => hd H ys s h1 (by rw [hx.length, List.take_length] at h2; exact h2.imp fun a b _ q => q.of (st a b)))
  obtain ⟨d, hdi, rd⟩ := hx.get hxi
  have hi : i < ds.length := (List.getElem?_eq_some_iff.mp hdi).1
  have hl : ys.length ≤ i := by
    rw [← h2.length]
    exact Nat.le_trans (List.length_filter_le _ _) (by simp; omega)
  refine hs x d H rd (List.mem_of_getElem? hdi) s (by rw [h1]; exact fun z => by cases z) _ _ (fun k y H' s' p => ⟨ys, s' _ _ h1, by rw [line]; omega, Same.upd (s.trans s') hD, _, upd_same .., ?_⟩) (fun k H' s' => ⟨s.trans s', ys, s' _ _ h1, ?_⟩)
  · rw [take_snoc hdi, List.filter_append]
    have e : List.filter keep [d] = [d] := by simp [k]
    rw [e]
    exact F2.snoc (h2.imp fun a b _ q => (q.mono s').upd) p.upd
  · rw [take_snoc hdi, List.filter_append]
    have e : List.filter keep [d] = [] := by simp [k]
    rw [e, List.append_nil]
    exact h2.imp fun a b _ q => q.mono s'
/-- .. to plain values -/
theorem lcDv {α : Type} {K : PySem.W.Frag} {a : Addr} {xs : List V} {ds : List α} {R : V → α → Prop} {g : TG} {tt : TT} {te : TE} {vs : List Nat} {σ : L2.St} {H1 : Hp} {D : Addr} {Qd : Hp → Prop} (keep : α → Bool) (f : α → V)
    (ha : SqL K H1 a xs) (hx : F2 R xs ds) (hD : H1 D = none) (hn : ds.length < 1000000)
    (hs : ∀ x d H, R x d → d ∈ ds → Same H1 H → ∀ (R1 : VK) (R0 : Hp → Prop), (keep d = true → ∀ H', Same H H' → R1 (f d) H') → (keep d = false → ∀ H', Same H H' → R0 H') →
      g x (wipe σ vs) H fun σ2 H2 => wipe σ2 vs = wipe σ vs ∧ tt σ2 H2 fun b H3 => if b = true then te σ2 H3 R1 else R0 H3)
    (hd : ∀ H, Same H1 H → H D = some (.lst ((ds.filter keep).map f)) → Qd H) :
    ∃ W : Nat → Nat → Hp → Prop, (∃ m, W 0 m (upd H1 D (.lst []))) ∧ ∀ i m H, W i m H →
      ((Itl K a).stop i H ∧ Qd H) ∨ ((Itl K a).go i H ∧ ∃ Nx : Hp → Prop, (∀ H', Nx H' → ∃ m', m' < m ∧ W (i + 1) m' H') ∧ ∀ x H', (Itl K a).yld i H x H' → g x (wipe σ vs) H' fun σ2 H2 => wipe σ2 vs = wipe σ vs ∧ tt σ2 H2 fun b H3 =>
        if b = true then te σ2 H3 fun y H4 => ∃ acc, H4 D = some (.lst acc) ∧ acc.length < sizeLine ∧ Nx (upd H4 D (.lst (acc ++ [y]))) else Nx H3) :=
  lcD keep (fun d y _ => y = f d) ha hx hD hn (fun _ _ _ _ _ q => q) (fun x d H r hm s _ R1 R0 r1 r0 => hs x d H r hm s R1 R0 (fun k H' s' => r1 k _ H' s' (.pure rfl)) r0) fun H ys s h1 h2 => hd H s (by rw [h1, h2.eqs])
theorem Ap.one {q l : Addr} {o : HO} {H : Hp} {P : Hp → Prop} (hne : l ≠ q) (hp : P (L2.upd (fun _ => none) l o)) : Ap q P (L2.upd H l o) := by
  refine ⟨L2.upd (fun _ => none) l o, fun b u hb => ?_, ?_, hp⟩
  · by_cases c : b = l
    · subst c
      rw [upd_same] at hb ⊢
      exact hb
    · rw [upd_ne c] at hb; cases hb
  · rw [upd_ne (Ne.symm hne)]
theorem Told.ne {α : Type} {R : Hp → V → α → Prop} {q l : Addr} {ds : List α} {H : Hp} (h : Told R q ds H) (hl : H l = none) : l ≠ q := fun z => by
  obtain ⟨ys, hy, _⟩ := h
  rw [← z, hl] at hy; cases hy
def rg3 (R : It → Hp → Prop) : List V → Hp → Prop := fun vs H1 => ∃ (i j c : Int) (n : Nat), vs = [.int i, .int j, .int c] ∧ RgC i j c n ∧ R (Itc i c n) H1
theorem rd_rg3 {σ : L2.St} {H : Hp} {ta : TA} {R : It → Hp → Prop} (h : ta σ H (rg3 R)) : iRng3 ta σ H R := h
theorem rg3N {R : It → Hp → Prop} {H : Hp} {i : Int} (n : Nat) (e : i = n - 1) (hn : n < 1000000) (h : R (Itc i (-1) n) H) : rg3 R [.int i, .int (-1), .int (-1)] H := ⟨i, -1, -1, n, rfl, by
  have q := RgC.neg (i := i) (j := -1) (by omega) (by omega) (by omega) (by omega)
  rwa [show (i - -1).toNat = n by omega] at q, h⟩
theorem rd_nt {A B : Prop} (h : A) : if (!false) = true then A else B := h
theorem rd_nf {A B : Prop} (h : B) : if (!true) = true then A else B := h
theorem Same.seqT {K : PySem.W.Frag} {H H' : Hp} {a : Addr} {xs : List V} (e : Same H H') (h : SqT K H a xs) : SqT K H' a xs := by
  rcases h with (h | ⟨o, h⟩) | h
  · exact .inl (.inl (e _ _ h))
  · exact .inl (.inr ⟨o, e _ _ h⟩)
  · exact .inr h
theorem F2.ints (ns : List Int) : F2 (fun v n => v = V.int n) (iv ns) ns := by
  induction ns with
  | nil => exact .nil
  | cons n ns ih => exact .cons rfl ih
/-- over a tuple of data: the kept ones' items -/
theorem lcDT {α : Type} {K : PySem.W.Frag} {a : Addr} {xs : List V} {ds : List α} {R : V → α → Prop} {g : TG} {tt : TT} {te : TE} {vs : List Nat} {σ : L2.St} {H1 : Hp} {D : Addr} {Qd : Hp → Prop} (keep : α → Bool) (P : α → V → Hp → Prop)
    (ha : SqT K H1 a xs) (hx : F2 R xs ds) (hD : H1 D = none) (hn : ds.length < 1000000) (st : ∀ i y H H', Same H H' → P i y H → P i y H')
    (hs : ∀ x d H, R x d → d ∈ ds → Same H1 H → H D ≠ none → ∀ (R1 : VK) (R0 : Hp → Prop), (keep d = true → ∀ y H', Same H H' → Ap D (P d y) H' → R1 y H') → (keep d = false → ∀ H', Same H H' → R0 H') →
      g x (wipe σ vs) H fun σ2 H2 => wipe σ2 vs = wipe σ vs ∧ tt σ2 H2 fun b H3 => if b = true then te σ2 H3 R1 else R0 H3)
    (hd : ∀ H ys, Same H1 H → H D = some (.lst ys) → F2 (fun d y => P d y H) (ds.filter keep) ys → Qd H) :
    ∃ W : Nat → Nat → Hp → Prop, (∃ m, W 0 m (upd H1 D (.lst []))) ∧ ∀ i m H, W i m H →
      ((Itt K a).stop i H ∧ Qd H) ∨ ((Itt K a).go i H ∧ ∃ Nx : Hp → Prop, (∀ H', Nx H' → ∃ m', m' < m ∧ W (i + 1) m' H') ∧ ∀ x H', (Itt K a).yld i H x H' → g x (wipe σ vs) H' fun σ2 H2 => wipe σ2 vs = wipe σ vs ∧ tt σ2 H2 fun b H3 =>
        if b = true then te σ2 H3 fun y H4 => ∃ acc, H4 D = some (.lst acc) ∧ acc.length < sizeLine ∧ Nx (upd H4 D (.lst (acc ++ [y]))) else Nx H3) := by
  refine lc_tup (xs := xs) (fun i H => Same H1 H ∧ ∃ ys, H D = some (.lst ys) ∧ F2 (fun d y => Ap D (P d y) H) ((ds.take i).filter keep) ys) ⟨Same.new hD, [], upd_same .., by simpa using F2.nil⟩ (fun i H _ ⟨s, _⟩ => Same.seqT s ha) (fun i x H hxi ⟨s, ys, h1, h2⟩ => ?_)
    (fun H ⟨s, ys, h1, h2⟩ => hd H ys s h1 (by rw [hx.length, List.take_length] at h2; exact h2.imp fun a b _ q => q.of (st a b)))
  obtain ⟨d, hdi, rd⟩ := hx.get hxi
  have hi : i < ds.length := (List.getElem?_eq_some_iff.mp hdi).1
  have hl : ys.length ≤ i := by
    rw [← h2.length]
    exact Nat.le_trans (List.length_filter_le _ _) (by simp; omega)
  refine hs x d H rd (List.mem_of_getElem? hdi) s (by rw [h1]; exact fun z => by cases z) _ _ (fun k y H' s' p => ⟨ys, s' _ _ h1, by rw [line]; omega, Same.upd (s.trans s') hD, _, upd_same .., ?_⟩) (fun k H' s' => ⟨s.trans s', ys, s' _ _ h1, ?_⟩)
  · rw [take_snoc hdi, List.filter_append]
    have e : List.filter keep [d] = [d] := by simp [k]
    rw [e]
    exact F2.snoc (h2.imp fun a b _ q => (q.mono s').upd) p.upd
  · rw [take_snoc hdi, List.filter_append]
    have e : List.filter keep [d] = [] := by simp [k]
    rw [e, List.append_nil]
    exact h2.imp fun a b _ q => q.mono s'
/-- .. tuple to plain values -/
theorem lcTv {α : Type} {K : PySem.W.Frag} {a : Addr} {xs : List V} {ds : List α} {R : V → α → Prop} {g : TG} {tt : TT} {te : TE} {vs : List Nat} {σ : L2.St} {H1 : Hp} {D : Addr} {Qd : Hp → Prop} (keep : α → Bool) (f : α → V)
    (ha : SqT K H1 a xs) (hx : F2 R xs ds) (hD : H1 D = none) (hn : ds.length < 1000000)
    (hs : ∀ x d H, R x d → d ∈ ds → Same H1 H → ∀ (R1 : VK) (R0 : Hp → Prop), (keep d = true → ∀ H', Same H H' → R1 (f d) H') → (keep d = false → ∀ H', Same H H' → R0 H') →
      g x (wipe σ vs) H fun σ2 H2 => wipe σ2 vs = wipe σ vs ∧ tt σ2 H2 fun b H3 => if b = true then te σ2 H3 R1 else R0 H3)
    (hd : ∀ H, Same H1 H → H D = some (.lst ((ds.filter keep).map f)) → Qd H) :
    ∃ W : Nat → Nat → Hp → Prop, (∃ m, W 0 m (upd H1 D (.lst []))) ∧ ∀ i m H, W i m H →
      ((Itt K a).stop i H ∧ Qd H) ∨ ((Itt K a).go i H ∧ ∃ Nx : Hp → Prop, (∀ H', Nx H' → ∃ m', m' < m ∧ W (i + 1) m' H') ∧ ∀ x H', (Itt K a).yld i H x H' → g x (wipe σ vs) H' fun σ2 H2 => wipe σ2 vs = wipe σ vs ∧ tt σ2 H2 fun b H3 =>
        if b = true then te σ2 H3 fun y H4 => ∃ acc, H4 D = some (.lst acc) ∧ acc.length < sizeLine ∧ Nx (upd H4 D (.lst (acc ++ [y]))) else Nx H3) :=
  lcDT keep (fun d y _ => y = f d) ha hx hD hn (fun _ _ _ _ _ q => q) (fun x d H r hm s _ R1 R0 r1 r0 => hs x d H r hm s R1 R0 (fun k H' s' => r1 k _ H' s' (.pure rfl)) r0) fun H ys s h1 h2 => hd H s (by rw [h1, h2.eqs])
theorem F2.flip {α β : Type} {R : α → β → Prop} {xs : List α} {ys : List β} (h : F2 R xs ys) : F2 (fun b a => R a b) ys xs := by
  induction h with
  | nil => exact .nil
  | cons r _ ih => exact .cons r ih
end LK
set_option maxHeartbeats 4000000
namespace LK
open PySem PySem.Spec PyProof.Rows L2
local macro_rules | `(tactic| walk_at "rd") => `(tactic| (repeat (first
  | with_reducible refine rd_seq ?_
  | with_reducible refine rd_asg ?_
  | with_reducible refine rd_ret ?_
  | with_reducible refine rd_drop ?_
  | with_reducible refine rd_if ?_
  | with_reducible refine rd_next ?_
  | ((with_reducible apply rd_var); (· exact rfl))
  | with_reducible refine rd_c ?_
  | with_reducible refine rd_op ?_
  | with_reducible refine rd_un ?_
  | with_reducible refine rd_I0 ?_
  | with_reducible refine rd_U ?_
  | with_reducible refine rd_eq ?_
  | with_reducible refine rd_ne ?_
  | with_reducible refine rd_neB ?_
  | with_reducible refine rd_asB ?_
  | with_reducible refine rd_test ?_
  | with_reducible refine rd_tB ?_
  | with_reducible refine rd_not ?_
  | with_reducible refine rd_and ?_
  | with_reducible refine rd_or ?_
  | with_reducible refine rd_andV ?_
  | with_reducible refine rd_orV ?_
  | with_reducible refine rd_notV ?_
  | with_reducible refine rd_ifx ?_
  | with_reducible refine rd_chain ?_
  | with_reducible refine rd_nil ?_
  | with_reducible refine rd_cons ?_
  | with_reducible refine rd_call ?_
  | with_reducible refine rd_cb ?_
  | with_reducible refine rd_lst ?_
  | with_reducible refine rd_tup ?_
  | with_reducible refine rd_min ?_
  | with_reducible refine rd_max ?_
  | with_reducible refine rd_abs ?_
  | with_reducible refine rd_int ?_
  | with_reducible refine rd_bm ?_
  | with_reducible refine rd_nt ?_
  | with_reducible refine rd_nf ?_
  | with_reducible refine rd_rg3 ?_
  | with_reducible refine rd_gnil ?_
  | with_reducible refine rd_gcons ?_
  | with_reducible refine rd_yes ?_
  | with_reducible refine rd_tt ?_
  | with_reducible refine rd_ff ?_
  | with_reducible refine rd_fld ?_
  | with_reducible refine rd_meth ?_
  | with_reducible refine rd_rev ?_
  | with_reducible refine rd_callN ?_
  | with_reducible refine rd_rg1 ?_
  | with_reducible refine rd_rg2 ?_
  | with_reducible refine rd_nm ?_
  | with_reducible refine rd_lc ?_
  | with_reducible refine rd_iL' ?_
  | with_reducible refine rd_iT' ?_)))
local macro_rules | `(tactic| walk_at "hp") => `(tactic| (first
  | assumption
  | exact upd_same ..
  | (refine keep_upd (by assumption) ?_; walk_at "hp")
  | (refine same_app (by assumption) ?_; walk_at "hp")))


section
variable {P : Program} {w : World} {K : PySem.W.Frag} {mg : Str → Option Value} {base : Heap}
def spClip : Sp := fun vs H Q _ => ∃ v t : Int, vs = [.int v, .int t] ∧ Q (.int (clip v t)) H
theorem c_clip (T : Txt P K mg) : Cal P w K mg base 1 "clip" spClip := by
  have S : FnScope ["value", "band"] ["value", "band"] (defScope (top 15)) := ⟨rfl, rfl, rfl, by decide +kernel, rfl, by decide +kernel, by decide +kernel⟩
  refine T.d_clip.cal S (fun _ _ _ _ _ _ us hl => match us, hl with | [_, _], _ => rfl) (fun vs H Q E ⟨v, t, e, h⟩ => by rw [e]; rfl) fun f cdv A outer s H vs Q E hr ⟨v, t, e, h⟩ => ?_
  subst e
  refine ⟨_, (pss_one (ps_ret (pe_callB (k_max2 rfl) (by rfl) T.b_max (by decide +kernel) (pa_cons (pe_un un_neg (pv 1)) (pa_cons (pe_callB (k_min2 rfl) (by rfl) T.b_min (by decide +kernel) (pa_cons (pv 1) (pa_cons (pv 0) pa_nil))) pa_nil))))), ?_⟩
  walk_at "rd"
  exact h

/-! ### counters -/
/-- what forward tells -/
def fw (t : Int) : Int → List Int → List Int
  | _, [] => []
  | D, w :: ws => (D + w) :: fw t (clip (D + w) t) ws
/-- the counter after -/
def fwD (t : Int) : Int → List Int → Int
  | D, [] => D
  | D, w :: ws => fwD t (clip (D + w) t) ws
theorem fw_snoc (t : Int) (w : Int) : ∀ (ws : List Int) (D : Int), fw t D (ws ++ [w]) = fw t D ws ++ [fwD t D ws + w] ∧ fwD t D (ws ++ [w]) = clip (fwD t D ws + w) t
  | [], D => ⟨rfl, rfl⟩
  | v :: ws, D => by
    obtain ⟨a, b⟩ := fw_snoc t w ws (clip (D + v) t)
    exact ⟨by simp only [List.cons_append, fw, fwD, a], by simp only [List.cons_append, fwD, b]⟩
theorem fw_length (t : Int) : ∀ (ws : List Int) (D : Int), (fw t D ws).length = ws.length
  | [], _ => rfl
  | _ :: ws, D => by simp [fw, fw_length t ws]
def spForward (K : PySem.W.Frag) : Sp := fun vs H Q _ => ∃ (st : Bool) (p : Addr) (ws : List Int) (t : Int), vs = [.bl st, .ref p, .int t] ∧ SqL K H p (iv ws) ∧ ws.length < 1000 ∧
  ∀ q H', Same H H' → H' q = some (.lst (iv (fw t (d0 st t) ws))) → H q = none → Q (.ref q) H'
theorem c_forward (T : Txt P K mg) : Cal P w K mg base 2 "forward" (spForward K) := by
  have S : FnScope ["start", "votes", "toggle", "counter", "told", "vote"] ["start", "votes", "toggle"] (defScope (top 27)) := ⟨rfl, rfl, rfl, by decide +kernel, rfl, by decide +kernel, by decide +kernel⟩
  refine T.d_forward.cal S (fun _ _ _ _ _ _ us hl => match us, hl with | [_, _, _], _ => rfl) (fun vs H Q E ⟨_, _, _, _, e, _⟩ => by rw [e]; rfl) fun f cdv A outer s H vs Q E hr ⟨st, p, ws, t, e, hp, hl, h⟩ => ?_
  subst e
  refine ⟨_, (pss_cons (ps_set (i := 3) S.nd rfl (Or.inl rfl) (pe_ifExp (pt_val (pv 0)) (pv 2) (pe_un un_neg (pv 2))))
      (pss_cons (ps_set (i := 4) S.nd rfl (Or.inl rfl) (pe_lst pa_nil))
      (pss_cons (ps_for PassesOwn.never rfl (pi_listK (K := K) rfl (pv 1)) (pg_name (i := 5) S.nd rfl (Or.inl rfl)) (pss_cons (ps_expr (pe_appK (K := K) rfl (pv 4) (pa_cons (pe_op op_add (pv 3) (pv 5)) pa_nil)))
      (pss_one (ps_set (i := 3) S.nd rfl (Or.inl rfl) (pe_c (c_clip T) hr (by decide) (by rfl) (pa_cons (pe_op op_add (pv 3) (pv 5)) (pa_cons (pv 2) pa_nil)))))))
      (pss_one (ps_ret (pv 4)))))), ?_⟩
  walk_at "rd"
  refine rd_ifxV (x := .int t) (y := .int (-t)) (fun Q q => by walk_at "rd"; exact q) (fun Q q => by walk_at "rd"; exact q) ?_
  have e0 : (if st = true then V.int t else V.int (-t)) = .int (d0 st t) := by cases st <;> rfl
  rw [e0]
  walk_at "rd"
  refine ⟨ll (by simp), fun q hq => ?_⟩
  walk_at "rd"
  refine rd_for ?_
  walk_at "rd"
  refine ⟨_, rfl, ⟨_, (Same.new hq).seq hp⟩, ?_⟩
  refine for_list (xs := iv ws) (fun i σ H' => ∃ x, σ = [some (.bl st), some (.ref p), some (.int t), some (.int (fwD t (d0 st t) (ws.take i))), some (.ref q), x] ∧ Same H H' ∧ H' q = some (.lst (iv (fw t (d0 st t) (ws.take i))))) ⟨_, rfl, Same.new hq, upd_same ..⟩ (fun i σ H' _ ⟨_, _, s, _⟩ => s.seq hp) ?_ ?_
  · rintro i x σ H' hx ⟨x0, rfl, s1, hq1⟩
    obtain ⟨wi, hw, rfl⟩ := F2.getI hx
    walk_at "rd"
    refine rd_tyL hq1 ?_
    walk_at "rd"
    refine rd_push hq1 (by simp [fw_length]; omega) ?_
    walk_at "rd"
    refine ⟨_, _, rfl, ?_⟩
    walk_at "rd"
    rw [take_snoc hw, (fw_snoc t wi _ _).1, (fw_snoc t wi _ _).2]
    refine ⟨_, rfl, Same.upd s1 hq, ?_⟩
    rw [upd_same]; simp
  · rintro σ H' ⟨x, rfl, s1, hq1⟩
    walk_at "rd"
    have e : (iv ws).length = ws.length := by simp
    rw [e, List.take_length] at hq1
    exact h _ _ s1 hq1 hq
/-- the backward numbers -/
def ubs (t : Int) : List Int → List Int
  | [] => [0]
  | w :: ws => clip (ub t ws + w) t :: ubs t ws
theorem ubs_head (t : Int) : ∀ ws : List Int, ∃ r, ubs t ws = ub t ws :: r
  | [] => ⟨[], rfl⟩
  | _ :: _ => ⟨_, rfl⟩
theorem ubs_length (t : Int) : ∀ ws : List Int, (ubs t ws).length = ws.length + 1
  | [] => rfl
  | _ :: ws => by simp [ubs, ubs_length t ws]
def spBackward (K : PySem.W.Frag) : Sp := fun vs H Q _ => ∃ (p : Addr) (ws : List Int) (t : Int), vs = [.ref p, .int t, .int 0] ∧ SqL K H p (iv ws) ∧ ws.length < 1000 ∧
  ∀ q H', Same H H' → H' q = some (.lst (iv (ubs t ws))) → H q = none → Q (.ref q) H'
theorem c_backward_last (T : Txt P K mg) : CalK P w K mg base 2 "backward" 2 ["last"] (fun vs zs => vs ++ zs) (spBackward K) := by
  have S : FnScope ["votes", "toggle", "last", "told", "vote"] ["votes", "toggle", "last"] (defScope (top 28)) := ⟨rfl, rfl, rfl, by decide +kernel, rfl, by decide +kernel, by decide +kernel⟩
  refine T.d_backward.calK S (by decide) (fun D doc pm an cdv ct us ws h1 h2 => by
    match us, h1, ws, h2 with | [_, _], _, [_], _ => rfl) (fun vs H Q E ⟨_, _, _, e, _⟩ => by rw [e]; rfl) fun f cdv A outer s H vs Q E hr ⟨p, ws, t, e, hp, hl, h⟩ => ?_
  subst e
  refine ⟨_, (pss_cons (ps_set (i := 3) S.nd rfl (Or.inl rfl) (pe_lst (pa_cons (pv 2) pa_nil)))
      (pss_cons (ps_for PassesOwn.never rfl (pi_listK (K := K) rfl (pe_revLK (K := K) rfl (pv 0))) (pg_name (i := 4) S.nd rfl (Or.inl rfl)) (pss_one (ps_expr (pe_appK (K := K) rfl (pv 3) (pa_cons (pe_c (c_clip T) hr (by decide) (by rfl) (pa_cons (pe_op op_add (pe_ix (ix_ltK (K := K) rfl) (pv 3) (pe_un un_neg pe_int) (fun _ _ => rfl)) (pv 4)) (pa_cons (pv 1) pa_nil))) pa_nil)))))
      (pss_one (ps_ret (pe_revLK (K := K) rfl (pv 3)))))), ?_⟩
  walk_at "rd"
  refine ⟨ll (by simp), fun q hq => ?_⟩
  walk_at "rd"
  refine rd_for ?_
  walk_at "rd"
  refine ⟨p, _, rfl, (Same.new hq).seq hp, fun r hr1 => ?_⟩
  have s2 : Same H (upd (upd H q (.lst [.int 0])) r (.lst (iv ws).reverse)) := (Same.new hq).trans (Same.new hr1)
  refine ⟨_, rfl, ⟨_, sl (upd_same ..)⟩, ?_⟩
  have er : (iv ws).reverse = iv ws.reverse := by simp
  rw [er] at s2 ⊢
  refine for_list (xs := iv ws.reverse) (fun i σ H' => ∃ x, σ = [some (.ref p), some (.int t), some (.int 0), some (.ref q), x] ∧ Same H H' ∧ H' r = some (.lst (iv ws.reverse)) ∧ H' q = some (.lst (iv (ubs t (ws.reverse.take i).reverse).reverse))) ⟨_, rfl, s2, upd_same .., keep_upd hr1 (upd_same ..)⟩ (fun i σ H' _ ⟨_, _, s, h1, _⟩ => sl h1) ?_ ?_
  · rintro i x σ H' hx ⟨x0, rfl, s1, hr2, hq1⟩
    obtain ⟨wi, hw, rfl⟩ := F2.getI hx
    have hi : i < ws.reverse.length := (List.getElem?_eq_some_iff.mp hw).1
    obtain ⟨rest, hh⟩ := ubs_head t (ws.reverse.take i).reverse
    have hlen := ubs_length t (ws.reverse.take i).reverse
    walk_at "rd"
    refine rd_tyL hq1 ?_
    walk_at "rd"
    refine rd_iL (v := .int (ub t (ws.reverse.take i).reverse)) (sl hq1) (by rw [hh, List.reverse_cons]; simp only [iv, List.map_append, List.map_cons, List.map_nil]; exact atI_last _ _) ?_
    walk_at "rd"
    refine ⟨_, _, rfl, ?_⟩
    walk_at "rd"
    refine rd_push hq1 (by simp [ubs_length]; omega) ?_
    walk_at "rd"
    refine ⟨_, rfl, Same.upd s1 hq, upd_other (ne_of_upd hr1) hr2, ?_⟩
    rw [take_snoc hw, List.reverse_append, upd_same]
    simp [ubs]
  · rintro σ H' ⟨x, rfl, s1, hr2, hq1⟩
    walk_at "rd"
    have e : (iv ws.reverse).length = ws.reverse.length := by simp
    rw [e, List.take_length, List.reverse_reverse] at hq1
    refine ⟨q, _, rfl, sl hq1, fun o ho => ?_⟩
    walk_at "rd"
    refine h _ _ (s1.trans (Same.new ho)) ?_ (s1.free ho)
    rw [upd_same]; simp
def sums (t : Int) : Int → List Int → List Int
  | _, [] => []
  | D, w :: ws => (D + w + ub t ws) :: sums t (clip (D + w) t) ws
theorem sums_length (t : Int) : ∀ (ws : List Int) (D : Int), (sums t D ws).length = ws.length
  | [], _ => rfl
  | _ :: ws, D => by simp [sums, sums_length t ws]
theorem sums_get (t : Int) : ∀ (ws : List Int) (D : Int) (i : Nat), i < ws.length → ∃ a b, (fw t D ws)[i]? = some a ∧ (ubs t ws)[i + 1]? = some b ∧ (sums t D ws)[i]? = some (a + b)
  | [], _, i, h => by simp at h
  | w :: ws, D, 0, _ => by
    obtain ⟨r, e⟩ := ubs_head t ws
    exact ⟨D + w, ub t ws, rfl, by simp only [ubs, e]; rfl, rfl⟩
  | w :: ws, D, i + 1, h => by
    obtain ⟨a, b, h1, h2, h3⟩ := sums_get t ws (clip (D + w) t) i (by simpa using h)
    exact ⟨a, b, by simpa [fw] using h1, by simpa [ubs] using h2, by simpa [sums] using h3⟩
def spSums (K : PySem.W.Frag) : Sp := fun vs H Q _ => ∃ (st : Bool) (p : Addr) (ws : List Int) (t : Int), vs = [.bl st, .ref p, .int t, .int 0] ∧ SqL K H p (iv ws) ∧ ws.length < 1000 ∧
  ∀ q H', Same H H' → H' q = some (.lst (iv (sums t (d0 st t) ws))) → H q = none → Q (.ref q) H'
theorem c_counter_sums (T : Txt P K mg) : Cal P w K mg base 3 "counter_sums" (spSums K) := by
  have S : FnScope ["start", "votes", "toggle", "last", "ahead", "behind", "index"] ["start", "votes", "toggle", "last"] (defScope (top 29)) := ⟨rfl, rfl, rfl, by decide +kernel, rfl, by decide +kernel, by decide +kernel⟩
  refine T.d_counter_sums.cal S (fun _ _ _ _ _ _ us hl => match us, hl with | [_, _, _, _], _ => rfl) (fun vs H Q E ⟨_, _, _, _, e, _⟩ => by rw [e]; rfl) fun f cdv A outer s H vs Q E hr ⟨st, p, ws, t, e, hp, hl, h⟩ => ?_
  subst e
  refine ⟨_, (pss_cons (ps_set (i := 4) S.nd rfl (Or.inr rfl) (pe_c (c_forward T) hr (by decide) (by rfl) (pa_cons (pv 0) (pa_cons (pv 1) (pa_cons (pv 2) pa_nil)))))
      (pss_cons (ps_set (i := 5) S.nd rfl (Or.inr rfl) (pe_cK (c_backward_last T) hr (by decide) (by rfl) passL (pa_cons (pv 1) (pa_cons (pv 2) pa_nil)) (pk_cons (pv 3) pk_nil)))
      (pss_one (ps_ret (pe_lc (own := [("index", 6)]) (by rfl) S.nd (pi_range1 (by rfl) T.b_range (pa_cons (pe_callB (k_lenK (K := K) rfl) (by rfl) T.b_len (by decide +kernel) (pa_cons (pv 4) pa_nil)) pa_nil)) (blkOk_by (own := [("index", 6)]) (by kernel_rfl)) (fun _ _ _ _ _ => (pg_name (i := 6) S.nd rfl (Or.inl rfl))) (fun _ _ _ _ _ => pts_nil) (fun _ _ _ _ _ => (pe_op op_add (pe_ix (ix_ltK (K := K) rfl) (pv 4) (pv 6) (fun _ _ => rfl)) (pe_ix (ix_ltK (K := K) rfl) (pv 5) (pe_op op_add (pv 6) pe_int) (fun _ _ => rfl))))))))), ?_⟩
  walk_at "rd"
  refine ⟨_, _, _, _, rfl, hp, hl, fun q H1 s1 h1 hq => ?_⟩
  walk_at "rd"
  refine ⟨rfl, rfl, _, _, _, rfl, s1.seq hp, hl, fun r H2 s2 h2 hr2 => ?_⟩
  have h12 := s2 _ _ h1
  walk_at "rd"
  refine rd_lenL (sl h12) ?_
  walk_at "rd"
  refine rg1N ws.length (by simp [fw_length]) (by omega) fun D hD => ?_
  refine lcRv (fun _ => true) (fun i => .int ((sums t (d0 st t) ws).getD i 0)) hD (by omega) (fun i H3 hi s3 R1 R0 r1 r0 => ?_) fun H3 s3 h3 => ?_
  · obtain ⟨a, b, e1, e2, e3⟩ := sums_get t ws (d0 st t) i hi
    walk_at "rd"
    refine ⟨rfl, ?_⟩
    walk_at "rd"
    refine rd_iL (sl (s3 _ _ h12)) (atI_int e1 (by omega)) ?_
    walk_at "rd"
    refine rd_iL (sl (s3 _ _ h2)) (atI_int e2 (by omega)) ?_
    walk_at "rd"
    have e4 : (sums t (d0 st t) ws).getD i 0 = a + b := by rw [List.getD_eq_getElem?_getD, e3]; rfl
    rw [e4] at r1
    exact r1 rfl _ (Same.refl _)
  · walk_at "rd"
    refine h _ _ ((s1.trans s2).trans s3) ?_ ((s1.trans s2).free hD)
    rw [h3, filter_tt]
    congr 2
    refine List.ext_getElem? fun i => ?_
    by_cases hi : i < ws.length
    · obtain ⟨a, b, e1, e2, e3⟩ := sums_get t ws (d0 st t) i hi
      simp [hi, e3]
    · simp [hi, sums_length, List.getElem?_eq_none]
end
end LK
set_option maxHeartbeats 4000000
namespace LK
open PySem PySem.Spec PyProof.Rows L2
local macro_rules | `(tactic| walk_at "rd") => `(tactic| (repeat (first
  | with_reducible refine rd_seq ?_
  | with_reducible refine rd_asg ?_
  | with_reducible refine rd_ret ?_
  | with_reducible refine rd_drop ?_
  | with_reducible refine rd_if ?_
  | with_reducible refine rd_next ?_
  | ((with_reducible apply rd_var); (· exact rfl))
  | with_reducible refine rd_c ?_
  | with_reducible refine rd_op ?_
  | with_reducible refine rd_un ?_
  | with_reducible refine rd_I0 ?_
  | with_reducible refine rd_U ?_
  | with_reducible refine rd_eq ?_
  | with_reducible refine rd_ne ?_
  | with_reducible refine rd_neB ?_
  | with_reducible refine rd_asB ?_
  | with_reducible refine rd_test ?_
  | with_reducible refine rd_tB ?_
  | with_reducible refine rd_not ?_
  | with_reducible refine rd_and ?_
  | with_reducible refine rd_or ?_
  | with_reducible refine rd_andV ?_
  | with_reducible refine rd_orV ?_
  | with_reducible refine rd_notV ?_
  | with_reducible refine rd_ifx ?_
  | with_reducible refine rd_chain ?_
  | with_reducible refine rd_nil ?_
  | with_reducible refine rd_cons ?_
  | with_reducible refine rd_call ?_
  | with_reducible refine rd_cb ?_
  | with_reducible refine rd_lst ?_
  | with_reducible refine rd_tup ?_
  | with_reducible refine rd_min ?_
  | with_reducible refine rd_max ?_
  | with_reducible refine rd_abs ?_
  | with_reducible refine rd_int ?_
  | with_reducible refine rd_bm ?_
  | with_reducible refine rd_nt ?_
  | with_reducible refine rd_nf ?_
  | with_reducible refine rd_rg3 ?_
  | with_reducible refine rd_gnil ?_
  | with_reducible refine rd_gcons ?_
  | with_reducible refine rd_yes ?_
  | with_reducible refine rd_tt ?_
  | with_reducible refine rd_ff ?_
  | with_reducible refine rd_fld ?_
  | with_reducible refine rd_meth ?_
  | with_reducible refine rd_rev ?_
  | with_reducible refine rd_callN ?_
  | with_reducible refine rd_rg1 ?_
  | with_reducible refine rd_rg2 ?_
  | with_reducible refine rd_nm ?_
  | with_reducible refine rd_lc ?_
  | with_reducible refine rd_iL' ?_
  | with_reducible refine rd_iT' ?_)))
local macro_rules | `(tactic| walk_at "hp") => `(tactic| (first
  | assumption
  | exact upd_same ..
  | (refine keep_upd (by assumption) ?_; walk_at "hp")
  | (refine same_app (by assumption) ?_; walk_at "hp")))


section
variable {P : Program} {w : World} {K : PySem.W.Frag} {mg : Str → Option Value} {base : Heap}
theorem sums_row (t : Int) : ∀ (ws : List Int) (D : Int), (sums t D ws).map (fun x => decide (0 < x)) = rowF t D ws
  | [], _ => rfl
  | w :: ws, D => by simp only [sums, rowF, List.map_cons, sums_row t ws]
def spRow (K : PySem.W.Frag) : Sp := fun vs H Q _ => ∃ (st : Bool) (p : Addr) (ws : List Int) (t : Int), vs = [.bl st, .ref p, .int t, .int 0] ∧ SqL K H p (iv ws) ∧ ws.length < 1000 ∧
  ∀ q H', Same H H' → H' q = some (.lst (bv (sides st ws t))) → H q = none → Q (.ref q) H'
theorem c_row_between (T : Txt P K mg) : Cal P w K mg base 4 "row_between" (spRow K) := by
  have S : FnScope ["start", "votes", "toggle", "last", "total"] ["start", "votes", "toggle", "last"] (defScope (top 30)) := ⟨rfl, rfl, rfl, by decide +kernel, rfl, by decide +kernel, by decide +kernel⟩
  refine T.d_row_between.cal S (fun _ _ _ _ _ _ us hl => match us, hl with | [_, _, _, _], _ => rfl) (fun vs H Q E ⟨_, _, _, _, e, _⟩ => by rw [e]; rfl) fun f cdv A outer s H vs Q E hr ⟨st, p, ws, t, e, hp, hl, h⟩ => ?_
  subst e
  refine ⟨_, (pss_one (ps_ret (pe_lc (own := [("total", 4)]) (by rfl) S.nd (pi_listK (K := K) rfl (pe_c (c_counter_sums T) hr (by decide) (by rfl) (pa_cons (pv 0) (pa_cons (pv 1) (pa_cons (pv 2) (pa_cons (pv 3) pa_nil)))))) (blkOk_by (own := [("total", 4)]) (by kernel_rfl)) (fun _ _ _ _ _ => (pg_name (i := 4) S.nd rfl (Or.inl rfl))) (fun _ _ _ _ _ => pts_nil) (fun _ _ _ _ _ => (pe_cmpR op_gt (pv 4) pe_int (nomark _)))))), ?_⟩
  walk_at "rd"
  refine ⟨_, _, _, _, rfl, hp, hl, fun q H1 s1 h1 hq => ?_⟩
  refine ⟨_, rfl, ⟨_, sl h1⟩, fun D hD => ?_⟩
  refine lcI (fun _ => true) (fun x => .bl (decide (0 < x))) (sl h1) hD (by rw [sums_length]; omega) (fun x H3 hx s3 R1 R0 r1 r0 => ?_) fun H3 s3 h3 => ?_
  · walk_at "rd"
    refine ⟨rfl, ?_⟩
    walk_at "rd"
    exact r1 rfl _ (Same.refl _)
  · walk_at "rd"
    refine h _ _ (s1.trans s3) ?_ (s1.free hD)
    rw [h3, filter_tt]
    congr 2
    unfold sides
    rw [← sums_row]
    simp
def spStretchRow (K : PySem.W.Frag) : Sp := fun vs H Q _ => ∃ (st : Bool) (p : Addr) (ws : List Int) (m : Int), vs = [.bl st, .ref p, .int m] ∧ SqL K H p (iv ws) ∧ ws.length < 1000 ∧ (∀ x ∈ ws, -2 ^ 100 < x ∧ x < 2 ^ 100) ∧ (-2 ^ 100 < m ∧ m < 2 ^ 100) ∧
  ∀ q H', Same H H' → H' q = some (.lst (bv (sides st (four ws) (2 * m + 1)))) → H q = none → Q (.ref q) H'
theorem c_stretch_row (T : Txt P K mg) : Cal P w K mg base 5 "stretch_row" (spStretchRow K) := by
  have S : FnScope ["start", "signed", "stretch", "entry"] ["start", "signed", "stretch"] (defScope (top 33)) := ⟨rfl, rfl, rfl, by decide +kernel, rfl, by decide +kernel, by decide +kernel⟩
  refine T.d_stretch_row.cal S (fun _ _ _ _ _ _ us hl => match us, hl with | [_, _, _], _ => rfl) (fun vs H Q E ⟨_, _, _, _, e, _⟩ => by rw [e]; rfl) fun f cdv A outer s H vs Q E hr ⟨st, p, ws, m, e, hp, hl, hb, hm, h⟩ => ?_
  subst e
  refine ⟨_, (pss_one (ps_ret (pe_c (c_row_between T) hr (by decide) (by rfl) (pa_cons (pv 0) (pa_cons (pe_lc (own := [("entry", 3)]) (by rfl) S.nd (pi_listK (K := K) rfl (pv 1)) (blkOk_by (own := [("entry", 3)]) (by kernel_rfl)) (fun _ _ _ _ _ => (pg_name (i := 3) S.nd rfl (Or.inl rfl))) (fun _ _ _ _ _ => pts_nil) (fun _ _ _ _ _ => (pe_op op_mulW pe_int (pv 3)))) (pa_cons (pe_op op_add (pe_op op_mulW pe_int (pv 2)) pe_int) (pa_cons pe_int pa_nil))))))), ?_⟩
  walk_at "rd"
  refine ⟨_, rfl, ⟨_, hp⟩, fun D hD => ?_⟩
  refine lcI (fun _ => true) (fun x => .int (4 * x)) hp hD (by omega) (fun x H3 hx s3 R1 R0 r1 r0 => ?_) fun H3 s3 h3 => ?_
  · walk_at "rd"
    refine ⟨rfl, ?_⟩
    walk_at "rd"
    have := hb x hx
    refine rd_mul (by omega) (by omega) ?_
    exact r1 rfl _ (Same.refl _)
  · have e3 : H3 D = some (.lst (iv (four ws))) := by
      rw [h3, filter_tt]
      congr 2
      unfold four
      simp
    walk_at "rd"
    refine rd_mul (by omega) (by omega) ?_
    walk_at "rd"
    refine ⟨_, _, _, _, rfl, sl e3, by unfold four; simpa using hl, fun q H4 s4 h4 hq => ?_⟩
    exact h _ _ (s3.trans s4) h4 (s3.free hq)
def spSigned (K : PySem.W.Frag) : Sp := fun vs H Q _ => ∃ (v : V) (rs : List (List Int × Int)) (n : Int), vs = [v, .int n] ∧ Row H v rs ∧ rs.length < 1000 ∧
  ∀ q H', Same H H' → H' q = some (.lst (iv (votes n rs))) → H q = none → Q (.ref q) H'
theorem c_signed_counts (T : Txt P K mg) : Cal P w K mg base 1 "signed_counts" (spSigned K) := by
  have S : FnScope ["requests", "number", "version", "count"] ["requests", "number"] (defScope (top 25)) := ⟨rfl, rfl, rfl, by decide +kernel, rfl, by decide +kernel, by decide +kernel⟩
  refine T.d_signed_counts.cal S (fun _ _ _ _ _ _ us hl => match us, hl with | [_, _], _ => rfl) (fun vs H Q E ⟨_, _, _, e, _⟩ => by rw [e]; rfl) fun f cdv A outer s H vs Q E hr ⟨v, rs, n, e, ⟨a, xs, ea, ha, hx⟩, hl, h⟩ => ?_
  subst e ea
  refine ⟨_, (pss_one (ps_ret (pe_lc (own := [("version", 2), ("count", 3)]) (by rfl) S.nd (pi_listK (K := K) rfl (pv 0)) (blkOk_by (own := [("version", 2), ("count", 3)]) (by kernel_rfl)) (fun _ _ _ _ _ => (pg_tupK (K := K) (n := 2) rfl rfl (pgs_cons (pg_name (i := 2) S.nd rfl (Or.inl rfl)) (pgs_cons (pg_name (i := 3) S.nd rfl (Or.inl rfl)) pgs_nil)))) (fun _ _ _ _ _ => pts_nil) (fun _ _ _ _ _ => (pe_ifExp (pt_cmpR (op_inK (K := K) rfl) (pv 1) (pv 2) (by rfl)) (pv 3) (pe_un un_neg (pv 3))))))), ?_⟩
  walk_at "rd"
  refine ⟨_, rfl, ⟨_, sl ha⟩, fun D hD => ?_⟩
  refine lcDv (fun _ => true) (fun r => .int (if n ∈ r.1 then r.2 else -r.2)) (sl ha) hx hD (by omega) (fun x r H3 ⟨a', b', ex, h1, h2⟩ _ s3 R1 R0 r1 r0 => ?_) fun H3 s3 h3 => ?_
  · subst ex
    refine rd_gtup (stp (s3 _ _ h1)) rfl ?_
    walk_at "rd"
    refine ⟨rfl, ?_⟩
    walk_at "rd"
    refine rd_inT (stp (s3 _ _ h2)) ?_
    walk_at "rd"
    refine rd_ifxV (x := .int r.2) (y := .int (-r.2)) (fun Q q => by walk_at "rd"; exact q) (fun Q q => by walk_at "rd"; exact q) ?_
    have r2 := r1 rfl H3 (Same.refl _)
    by_cases c : n ∈ r.1 <;> simpa [c] using r2
  · walk_at "rd"
    refine h _ _ s3 ?_ hD
    rw [h3, filter_tt]
    simp [votes]
/-- the homes that rows say -/
def homes (many : Nat) (R : List (List Bool)) : List (List Int) := (List.range many).map fun j => ((List.range R.length).filter fun i => (R.getD i []).getD j false).map fun (i : Nat) => (i : Int) + 1
theorem homes_length (many : Nat) (R : List (List Bool)) : (homes many R).length = many := by simp [homes]
def spHomes (K : PySem.W.Frag) : Sp := fun vs H Q _ => ∃ (many : Nat) (v : V) (R : List (List Bool)), vs = [.int many, v] ∧ LL BL H v R ∧ many < 1000 ∧ R.length < 1000 ∧ (∀ r ∈ R, r.length = many) ∧
  ∀ q H', Same H H' → Plan H' (.ref q) (homes many R) → H q = none → Q (.ref q) H'
theorem c_homes_of (T : Txt P K mg) : Cal P w K mg base 1 "homes_of" (spHomes K) := by
  have S : FnScope ["many", "rows", "told", "index", "place"] ["many", "rows"] (defScope (top 31)) := ⟨rfl, rfl, rfl, by decide +kernel, rfl, by decide +kernel, by decide +kernel⟩
  refine T.d_homes_of.cal S (fun _ _ _ _ _ _ us hl => match us, hl with | [_, _], _ => rfl) (fun vs H Q E ⟨_, _, _, e, _⟩ => by rw [e]; rfl) fun f cdv A outer s H vs Q E hr ⟨many, v, R, e, ⟨a, xs, ea, ha, hx⟩, hm, hR, hlen, h⟩ => ?_
  subst e ea
  refine ⟨_, (pss_cons (ps_set (i := 2) S.nd rfl (Or.inl rfl) (pe_lst pa_nil))
      (pss_cons (ps_for PassesOwn.never rfl (pi_range1 (by rfl) T.b_range (pa_cons (pv 0) pa_nil)) (pg_name (i := 3) S.nd rfl (Or.inr rfl)) (pss_one (ps_expr (pe_appK (K := K) rfl (pv 2) (pa_cons (pe_callTy (k_tupK (K := K) rfl) (by rfl) T.b_tuple (by decide +kernel) (pa_cons (pe_lc (own := [("place", 4)]) (by rfl) S.nd (pi_range1 (by rfl) T.b_range (pa_cons (pe_callB (k_lenK (K := K) rfl) (by rfl) T.b_len (by decide +kernel) (pa_cons (pv 1) pa_nil)) pa_nil)) (blkOk_by (own := [("place", 4)]) (by kernel_rfl)) (fun _ _ _ _ _ => (pg_name (i := 4) S.nd rfl (Or.inl rfl))) (fun _ _ _ _ _ => (pts_one (pt_val (pe_ix (ix_ltK (K := K) rfl) (pe_ix (ix_ltK (K := K) rfl) (pv 1) (pv 4) (fun _ _ => rfl)) (pv 3) (fun _ _ => rfl))))) (fun _ _ _ _ _ => (pe_op op_add (pv 4) pe_int))) pa_nil)) pa_nil)))))
      (pss_one (ps_ret (pv 2))))), ?_⟩
  walk_at "rd"
  refine ⟨ll (by simp), fun q hq => ?_⟩
  walk_at "rd"
  refine rd_for ?_
  walk_at "rd"
  refine rg1N many rfl (by omega) ?_
  refine for_range (fun i σ H' => ∃ x, σ = [some (.int many), some (.ref a), some (.ref q), x, none] ∧ Same H H' ∧ Told IT q ((homes many R).take i) H') ⟨_, rfl, Same.new hq, by simpa using Told.nil (upd_same ..)⟩ ?_ ?_
  · rintro i σ H' hi ⟨x0, rfl, s1, t1⟩
    walk_at "rd"
    refine t1.ty ?_
    walk_at "rd"
    refine rd_lenL (sl (s1 _ _ ha)) ?_
    walk_at "rd"
    refine rg1N R.length (by rw [hx.length]) (by omega) fun D hD => ?_
    refine lcRv (fun k => (R.getD k []).getD i false) (fun k => .int ((k : Int) + 1)) hD (by omega) (fun k H3 hk s3 R1 R0 r1 r0 => ?_) fun H3 s3 h3 => ?_
    · obtain ⟨x, hxk, br⟩ := hx.getR (List.getElem?_eq_getElem hk)
      obtain ⟨b, rfl, hb⟩ := br
      have hlk := hlen _ (List.getElem_mem hk)
      have ek : R.getD k [] = R[k] := by rw [List.getD_eq_getElem?_getD, List.getElem?_eq_getElem hk]; rfl
      have hik : i < R[k].length := by omega
      walk_at "rd"
      refine ⟨rfl, ?_⟩
      walk_at "rd"
      refine rd_iL (sl ((s1.trans s3) _ _ ha)) (atI_nn (by omega) (by rw [show (0 + (k : Int)).toNat = k by omega]; exact hxk)) ?_
      walk_at "rd"
      refine rd_iL (v := .bl R[k][i]) (sl ((s1.trans s3) _ _ hb)) (atI_nn (by omega) (by rw [show (0 + (i : Int)).toNat = i by omega]; simp [hik])) ?_
      have e2 : (R.getD k []).getD i false = R[k][i] := by rw [ek, List.getD_eq_getElem?_getD, List.getElem?_eq_getElem hik]; rfl
      rw [e2] at r1 r0
      walk_at "rd"
      refine rd_iteb (fun c => ?_) fun c => r0 c _ (Same.refl _)
      walk_at "rd"
      have e3 : (0 : Int) + (k : Int) + 1 = (k : Int) + 1 := by omega
      rw [e3]
      exact r1 c _ (Same.refl _)
    · walk_at "rd"
      refine rd_tupL (sl h3) fun l hl => ?_
      walk_at "rd"
      have hi2 : i < (homes many R).length := by rw [homes_length]; exact hi
      have hne : l ≠ q := fun z => by
        obtain ⟨ys, hy, _⟩ := t1
        have := s3 _ _ hy
        rw [← z, hl] at this; cases this
      refine ((t1.mono s3).mono (Same.new hl)).push (by simp; omega) (d := (homes many R)[i]) ⟨upd (fun _ => none) l (.tup (iv ((homes many R)[i]))), fun b o hb => ?_, ?_, l, rfl, upd_same ..⟩ fun H4 k4 t4 => ?_
      · by_cases c : b = l
        · subst c
          rw [upd_same] at hb ⊢
          rw [← hb]
          simp [homes, Function.comp_def]
        · rw [upd_ne c] at hb; cases hb
      · rw [upd_ne (Ne.symm hne)]
      · refine ⟨_, rfl, Same.of_ne ((s1.trans s3).trans (Same.new hl)) hq k4, ?_⟩
        rw [take_snoc (List.getElem?_eq_getElem hi2)]
        exact t4
  · rintro σ H' ⟨x, rfl, s1, t1⟩
    walk_at "rd"
    have e : (homes many R).take many = homes many R := List.take_of_length_le (by rw [homes_length]; exact Nat.le_refl _)
    rw [e] at t1
    exact h _ _ s1 (t1.end_ m_IT) hq
end
end LK
set_option maxHeartbeats 4000000
namespace LK
open PySem PySem.Spec PyProof.Rows L2
local macro_rules | `(tactic| walk_at "rd") => `(tactic| (repeat (first
  | with_reducible refine rd_seq ?_
  | with_reducible refine rd_asg ?_
  | with_reducible refine rd_ret ?_
  | with_reducible refine rd_drop ?_
  | with_reducible refine rd_if ?_
  | with_reducible refine rd_next ?_
  | ((with_reducible apply rd_var); (· exact rfl))
  | with_reducible refine rd_c ?_
  | with_reducible refine rd_op ?_
  | with_reducible refine rd_un ?_
  | with_reducible refine rd_I0 ?_
  | with_reducible refine rd_U ?_
  | with_reducible refine rd_eq ?_
  | with_reducible refine rd_ne ?_
  | with_reducible refine rd_neB ?_
  | with_reducible refine rd_asB ?_
  | with_reducible refine rd_test ?_
  | with_reducible refine rd_tB ?_
  | with_reducible refine rd_not ?_
  | with_reducible refine rd_and ?_
  | with_reducible refine rd_or ?_
  | with_reducible refine rd_andV ?_
  | with_reducible refine rd_orV ?_
  | with_reducible refine rd_notV ?_
  | with_reducible refine rd_ifx ?_
  | with_reducible refine rd_chain ?_
  | with_reducible refine rd_nil ?_
  | with_reducible refine rd_cons ?_
  | with_reducible refine rd_call ?_
  | with_reducible refine rd_cb ?_
  | with_reducible refine rd_lst ?_
  | with_reducible refine rd_tup ?_
  | with_reducible refine rd_min ?_
  | with_reducible refine rd_max ?_
  | with_reducible refine rd_abs ?_
  | with_reducible refine rd_int ?_
  | with_reducible refine rd_bm ?_
  | with_reducible refine rd_nt ?_
  | with_reducible refine rd_nf ?_
  | with_reducible refine rd_rg3 ?_
  | with_reducible refine rd_gnil ?_
  | with_reducible refine rd_gcons ?_
  | with_reducible refine rd_yes ?_
  | with_reducible refine rd_tt ?_
  | with_reducible refine rd_ff ?_
  | with_reducible refine rd_fld ?_
  | with_reducible refine rd_meth ?_
  | with_reducible refine rd_rev ?_
  | with_reducible refine rd_callN ?_
  | with_reducible refine rd_rg1 ?_
  | with_reducible refine rd_rg2 ?_
  | with_reducible refine rd_nm ?_
  | with_reducible refine rd_lc ?_
  | with_reducible refine rd_iL' ?_
  | with_reducible refine rd_iT' ?_)))
local macro_rules | `(tactic| walk_at "hp") => `(tactic| (first
  | assumption
  | exact upd_same ..
  | (refine keep_upd (by assumption) ?_; walk_at "hp")
  | (refine same_app (by assumption) ?_; walk_at "hp")))


section
variable {P : Program} {w : World} {K : PySem.W.Frag} {mg : Str → Option Value} {base : Heap}
/-! ### the root -/
def spRoot : Sp := fun vs H Q _ => ∃ z : Int, vs = [.int z] ∧ 0 ≤ z ∧ z < 2 ^ 92 - 1 ∧ ∀ m : Int, 0 ≤ m → m * m ≤ z → z < (m + 1) * (m + 1) → Q (.int m) H
theorem sq_le {a b : Int} (h0 : 0 ≤ a) (h : a ≤ b) : a * a ≤ b * b := Int.mul_le_mul h h h0 (by omega)
theorem c__law_root (T : Txt P K mg) : Cal P w K mg base 1 "_law_root" spRoot := by
  have S : FnScope ["_law_square", "_law_low", "_law_high", "_law_turn", "_law_middle"] ["_law_square"] (defScope (top 64)) := ⟨rfl, rfl, rfl, by decide +kernel, rfl, by decide +kernel, by decide +kernel⟩
  refine T.d__law_root.cal S (fun _ _ _ _ _ _ us hl => match us, hl with | [_], _ => rfl) (fun vs H Q E ⟨_, e, _⟩ => by rw [e]; rfl) fun f cdv A outer s H vs Q E hr ⟨z, e, h0, hb, h⟩ => ?_
  subst e
  refine ⟨_, (pss_cons (ps_set (i := 1) S.nd rfl (Or.inl rfl) pe_int)
      (pss_cons (ps_set (i := 2) S.nd rfl (Or.inl rfl) (pe_op op_add (pv 0) pe_int))
      (pss_cons (ps_for PassesOwn.never rfl (pi_range1 (by rfl) T.b_range (pa_cons pe_int pa_nil)) (pg_name (i := 3) S.nd rfl (Or.inl rfl)) (pss_cons (ps_set (i := 4) S.nd rfl (Or.inl rfl) (pe_op op_fdivW (pe_op op_add (pv 1) (pv 2)) pe_int))
      (pss_one (ps_if (pt_cmpR op_le (pe_op op_mulW (pv 4) (pv 4)) (pv 0) (nomark _)) (pss_one (ps_set (i := 1) S.nd rfl (Or.inl rfl) (pv 4))) (pss_one (ps_set (i := 2) S.nd rfl (Or.inl rfl) (pv 4)))))))
      (pss_one (ps_ret (pv 1)))))), ?_⟩
  walk_at "rd"
  refine rd_for ?_
  walk_at "rd"
  refine rg1N 92 rfl (by omega) ?_
  refine for_range (fun i σ H' => ∃ (lo hi : Int) (x y : Option V), σ = [some (.int z), some (.int lo), some (.int hi), x, y] ∧ H' = H ∧ 0 ≤ lo ∧ lo * lo ≤ z ∧ z < hi * hi ∧ lo < hi ∧ hi ≤ z + 1 ∧ (hi - lo - 1) * 2 ^ i ≤ z) ⟨_, _, _, _, rfl, rfl, Int.le_refl _, h0, ?_, by omega, by omega, by simp⟩ ?_ ?_
  · have h1 := sq_le (a := 1) (b := z + 1) (by omega) (by omega)
    have h2 : (z + 1) * (z + 1) = z * (z + 1) + (z + 1) := by rw [Int.add_mul, Int.one_mul]
    have h3 : 0 ≤ z * (z + 1) := Int.mul_nonneg h0 (by omega)
    omega
  · rintro i σ H' hi ⟨lo, hi', x, y, rfl, rfl, p0, p1, p2, p3, p4, p5⟩
    have hg : 0 ≤ hi' - lo - 1 := by omega
    walk_at "rd"
    refine rd_div (by omega) (by omega) ?_
    walk_at "rd"
    have hm1 : lo ≤ (lo + hi') / 2 := by omega
    have hm2 : (lo + hi') / 2 < hi' := by omega
    refine rd_mul (by omega) (by omega) ?_
    walk_at "rd"
    generalize hmid : (lo + hi') / 2 = mid at *
    have e2 : (2 : Int) ^ (i + 1) = 2 ^ i * 2 := Int.pow_succ ..
    have two : (0 : Int) < 2 ^ i := Int.pow_pos (by omega)
    have half : ∀ d : Int, 0 ≤ d → 2 * d ≤ hi' - lo - 1 → d * 2 ^ (i + 1) ≤ z := fun d d0 hd => by
      rw [e2, ← Int.mul_assoc, Int.mul_right_comm, Int.mul_comm d 2]
      exact Int.le_trans (Int.mul_le_mul_of_nonneg_right hd (Int.le_of_lt two)) p5
    refine rd_ite (fun c => ?_) fun c => ?_
    · walk_at "rd"
      exact ⟨_, _, _, _, rfl, rfl, by omega, c, p2, hm2, p4, half _ (by omega) (by omega)⟩
    · walk_at "rd"
      by_cases ce : mid = lo
      · exact absurd (ce ▸ p1) c
      · exact ⟨_, _, _, _, rfl, rfl, p0, p1, by omega, by omega, by omega, half _ (by omega) (by omega)⟩
  · rintro σ H' ⟨lo, hi', x, y, rfl, rfl, p0, p1, p2, p3, p4, p5⟩
    walk_at "rd"
    have e : hi' = lo + 1 := by
      have hg : 0 ≤ hi' - lo - 1 := by omega
      by_cases c : hi' - lo - 1 = 0
      · omega
      · have := Int.mul_le_mul_of_nonneg_right (show (1 : Int) ≤ hi' - lo - 1 by omega) (show (0 : Int) ≤ 2 ^ 92 by omega)
        omega
    subst e
    exact h lo p0 p1 p2
/-! ### the two costs of a patch -/
def spSolo (K : PySem.W.Frag) : Sp := fun vs H Q _ => ∃ (st : Bool) (p : Addr) (ws : List Int) (t : Int), vs = [.bl st, .ref p, .int t] ∧ SqL K H p (iv ws) ∧ Q (.int (solo st ws t)) H
theorem c__law_solo (T : Txt P K mg) : Cal P w K mg base 1 "_law_solo" (spSolo K) := by
  have S : FnScope ["_law_start", "_law_weights", "_law_price", "_law_off", "_law_on_side", "_law_weight", "_law_after_off", "_law_after_on"] ["_law_start", "_law_weights", "_law_price"] (defScope (top 53)) := ⟨rfl, rfl, rfl, by decide +kernel, rfl, by decide +kernel, by decide +kernel⟩
  refine T.d__law_solo.cal S (fun _ _ _ _ _ _ us hl => match us, hl with | [_, _, _], _ => rfl) (fun vs H Q E ⟨_, _, _, _, e, _⟩ => by rw [e]; rfl) fun f cdv A outer s H vs Q E hr ⟨st, p, ws, t, e, hp, h⟩ => ?_
  subst e
  refine ⟨_, (pss_cons (ps_set (i := 3) S.nd rfl (Or.inl rfl) (pe_ifExp (pt_val (pv 0)) (pv 2) pe_int))
      (pss_cons (ps_set (i := 4) S.nd rfl (Or.inl rfl) (pe_ifExp (pt_val (pv 0)) pe_int (pv 2)))
      (pss_cons (ps_for PassesOwn.never rfl (pi_listK (K := K) rfl (pv 1)) (pg_name (i := 5) S.nd rfl (Or.inl rfl)) (pss_cons (ps_set (i := 6) S.nd rfl (Or.inl rfl) (pe_op op_add (pe_callB (k_min2 rfl) (by rfl) T.b_min (by decide +kernel) (pa_cons (pv 3) (pa_cons (pe_op op_add (pv 4) (pv 2)) pa_nil))) (pe_callB (k_max2 rfl) (by rfl) T.b_max (by decide +kernel) (pa_cons pe_int (pa_cons (pv 5) pa_nil)))))
      (pss_cons (ps_set (i := 7) S.nd rfl (Or.inl rfl) (pe_op op_add (pe_callB (k_min2 rfl) (by rfl) T.b_min (by decide +kernel) (pa_cons (pv 4) (pa_cons (pe_op op_add (pv 3) (pv 2)) pa_nil))) (pe_callB (k_max2 rfl) (by rfl) T.b_max (by decide +kernel) (pa_cons pe_int (pa_cons (pe_op op_sub pe_int (pv 5)) pa_nil)))))
      (pss_cons (ps_set (i := 3) S.nd rfl (Or.inl rfl) (pv 6))
      (pss_one (ps_set (i := 4) S.nd rfl (Or.inl rfl) (pv 7)))))))
      (pss_one (ps_ret (pe_callB (k_min2 rfl) (by rfl) T.b_min (by decide +kernel) (pa_cons (pv 3) (pa_cons (pv 4) pa_nil)))))))), ?_⟩
  walk_at "rd"
  refine rd_ifxV (x := .int t) (y := .int 0) (fun Q q => by walk_at "rd"; exact q) (fun Q q => by walk_at "rd"; exact q) ?_
  rw [iteV]
  walk_at "rd"
  refine rd_ifxV (x := .int 0) (y := .int t) (fun Q q => by walk_at "rd"; exact q) (fun Q q => by walk_at "rd"; exact q) ?_
  rw [iteV]
  walk_at "rd"
  refine rd_for ?_
  walk_at "rd"
  refine ⟨_, rfl, ⟨_, hp⟩, ?_⟩
  refine for_list (xs := iv ws) (fun i σ H' => ∃ x y z, σ = [some (.bl st), some (.ref p), some (.int t), some (.int ((ws.take i).foldl (dpStep t) (dp0 st t)).1), some (.int ((ws.take i).foldl (dpStep t) (dp0 st t)).2), x, y, z] ∧ H' = H) ⟨_, _, _, rfl, rfl⟩ (fun i σ H' _ ⟨_, _, _, _, e⟩ => e ▸ hp) ?_ ?_
  · rintro i x σ H' hx ⟨x0, y0, z0, rfl, rfl⟩
    obtain ⟨wi, hw, rfl⟩ := F2.getI hx
    walk_at "rd"
    rw [take_snoc hw, List.foldl_append]
    exact ⟨_, _, _, rfl, rfl⟩
  · rintro σ H' ⟨x0, y0, z0, rfl, rfl⟩
    walk_at "rd"
    have e : (iv ws).length = ws.length := by simp
    rw [e, List.take_length]
    exact h
/-! ### the sides -/
theorem sums_at (t : Int) : ∀ (ws : List Int) (D : Int) (i : Nat) {a : Int}, (fw t D ws)[i]? = some a → (sums t D ws)[i]? = some (a + ub t (ws.drop (i + 1)))
  | [], _, i, a, h => by simp [fw] at h
  | w :: ws, D, 0, a, h => by
    simp [fw] at h
    subst h
    simp [sums]
  | w :: ws, D, i + 1, a, h => by
    simp only [fw, List.getElem?_cons_succ] at h
    simpa [sums] using sums_at t ws _ i h
theorem drop_at {α : Type} {xs : List α} {k : Nat} {x : α} (h : xs[k]? = some x) : xs.drop k = x :: xs.drop (k + 1) := by
  obtain ⟨hl, e⟩ := List.getElem?_eq_some_iff.mp h
  rw [← e]
  exact List.drop_eq_getElem_cons hl
def Pair2 (G : Hp) (v : V) (d : Int) : Prop := ∃ l h : Int, IL G v [l, h] ∧ l - h = d
def spSides (K : PySem.W.Frag) : Sp := fun vs H Q _ => ∃ (st : Bool) (p : Addr) (ws : List Int) (t : Int), vs = [.bl st, .ref p, .int t] ∧ SqL K H p (iv ws) ∧ ws.length < 1000 ∧ 0 ≤ t ∧
  ∀ q H', Same H H' → H' q = some (.lst (bv (sides st ws t))) → H q = none → Q (.ref q) H'
theorem c__law_sides (T : Txt P K mg) : Cal P w K mg base 1 "_law_sides" (spSides K) := by
  have S : FnScope ["_law_start", "_law_weights", "_law_price", "_law_low", "_law_high", "_law_ahead", "_law_weight", "_law_sides_here", "_law_place", "_law_after", "_law_stay", "_law_move"] ["_law_start", "_law_weights", "_law_price"] (defScope (top 62)) := ⟨rfl, rfl, rfl, by decide +kernel, rfl, by decide +kernel, by decide +kernel⟩
  refine T.d__law_sides.cal S (fun _ _ _ _ _ _ us hl => match us, hl with | [_, _, _], _ => rfl) (fun vs H Q E ⟨_, _, _, _, e, _⟩ => by rw [e]; rfl) fun f cdv A outer s H vs Q E hr ⟨st, p, ws, t, e, hp, hl, ht, h⟩ => ?_
  subst e
  refine ⟨_, (pss_cons (ps_set (i := 3) S.nd rfl (Or.inl rfl) (pe_ifExp (pt_val (pv 0)) (pv 2) pe_int))
      (pss_cons (ps_set (i := 4) S.nd rfl (Or.inl rfl) (pe_ifExp (pt_val (pv 0)) pe_int (pv 2)))
      (pss_cons (ps_set (i := 5) S.nd rfl (Or.inl rfl) (pe_lst pa_nil))
      (pss_cons (ps_for PassesOwn.never rfl (pi_listK (K := K) rfl (pv 1)) (pg_name (i := 6) S.nd rfl (Or.inl rfl)) (pss_cons (ps_set (i := 9) S.nd rfl (Or.inl rfl) (pe_op op_add (pe_callB (k_min2 rfl) (by rfl) T.b_min (by decide +kernel) (pa_cons (pv 3) (pa_cons (pe_op op_add (pv 4) (pv 2)) pa_nil))) (pe_callB (k_max2 rfl) (by rfl) T.b_max (by decide +kernel) (pa_cons pe_int (pa_cons (pv 6) pa_nil)))))
      (pss_cons (ps_set (i := 4) S.nd rfl (Or.inl rfl) (pe_op op_add (pe_callB (k_min2 rfl) (by rfl) T.b_min (by decide +kernel) (pa_cons (pv 4) (pa_cons (pe_op op_add (pv 3) (pv 2)) pa_nil))) (pe_callB (k_max2 rfl) (by rfl) T.b_max (by decide +kernel) (pa_cons pe_int (pa_cons (pe_op op_sub pe_int (pv 6)) pa_nil)))))
      (pss_cons (ps_set (i := 3) S.nd rfl (Or.inl rfl) (pv 9))
      (pss_one (ps_expr (pe_appK (K := K) rfl (pv 5) (pa_cons (pe_lst (pa_cons (pv 3) (pa_cons (pv 4) pa_nil))) pa_nil))))))))
      (pss_cons (ps_set (i := 3) S.nd rfl (Or.inl rfl) pe_int)
      (pss_cons (ps_set (i := 4) S.nd rfl (Or.inl rfl) pe_int)
      (pss_cons (ps_set (i := 7) S.nd rfl (Or.inl rfl) (pe_lst pa_nil))
      (pss_cons (ps_for PassesOwn.never rfl (pi_range3 (by rfl) T.b_range (pa_cons (pe_op op_sub (pe_callB (k_lenK (K := K) rfl) (by rfl) T.b_len (by decide +kernel) (pa_cons (pv 1) pa_nil)) pe_int) (pa_cons (pe_un un_neg pe_int) (pa_cons (pe_un un_neg pe_int) pa_nil)))) (pg_name (i := 8) S.nd rfl (Or.inl rfl)) (pss_cons (ps_expr (pe_appK (K := K) rfl (pv 7) (pa_cons (pe_cmpR op_gt (pe_op op_add (pe_ix (ix_ltK (K := K) rfl) (pe_ix (ix_ltK (K := K) rfl) (pv 5) (pv 8) (fun _ _ => rfl)) pe_int (fun _ _ => rfl)) (pv 3)) (pe_op op_add (pe_ix (ix_ltK (K := K) rfl) (pe_ix (ix_ltK (K := K) rfl) (pv 5) (pv 8) (fun _ _ => rfl)) pe_int (fun _ _ => rfl)) (pv 4)) (nomark _)) pa_nil)))
      (pss_cons (ps_set (i := 10) S.nd rfl (Or.inl rfl) (pe_op op_add (pe_callB (k_max2 rfl) (by rfl) T.b_max (by decide +kernel) (pa_cons pe_int (pa_cons (pe_ix (ix_ltK (K := K) rfl) (pv 1) (pv 8) (fun _ _ => rfl)) pa_nil))) (pv 3)))
      (pss_cons (ps_set (i := 11) S.nd rfl (Or.inl rfl) (pe_op op_add (pe_callB (k_max2 rfl) (by rfl) T.b_max (by decide +kernel) (pa_cons pe_int (pa_cons (pe_op op_sub pe_int (pe_ix (ix_ltK (K := K) rfl) (pv 1) (pv 8) (fun _ _ => rfl))) pa_nil))) (pv 4)))
      (pss_cons (ps_set (i := 3) S.nd rfl (Or.inl rfl) (pe_callB (k_min2 rfl) (by rfl) T.b_min (by decide +kernel) (pa_cons (pv 10) (pa_cons (pe_op op_add (pv 2) (pv 11)) pa_nil))))
      (pss_one (ps_set (i := 4) S.nd rfl (Or.inl rfl) (pe_callB (k_min2 rfl) (by rfl) T.b_min (by decide +kernel) (pa_cons (pv 11) (pa_cons (pe_op op_add (pv 2) (pv 10)) pa_nil))))))))))
      (pss_one (ps_ret (pe_revLK (K := K) rfl (pv 7)))))))))))), ?_⟩
  walk_at "rd"
  refine rd_ifxV (x := .int t) (y := .int 0) (fun Q q => by walk_at "rd"; exact q) (fun Q q => by walk_at "rd"; exact q) ?_
  rw [iteV]
  walk_at "rd"
  refine rd_ifxV (x := .int 0) (y := .int t) (fun Q q => by walk_at "rd"; exact q) (fun Q q => by walk_at "rd"; exact q) ?_
  rw [iteV]
  walk_at "rd"
  refine ⟨ll (by simp), fun q hq => ?_⟩
  walk_at "rd"
  refine rd_for ?_
  walk_at "rd"
  refine ⟨_, rfl, ⟨_, (Same.new hq).seq hp⟩, ?_⟩
  refine for_list (xs := iv ws) (fun i σ H' => ∃ (lo hi : Int) (x y : Option V), σ = [some (.bl st), some (.ref p), some (.int t), some (.int lo), some (.int hi), some (.ref q), x, none, none, y, none, none] ∧ Same H H' ∧ clip (lo - hi) t = fwD t (d0 st t) (ws.take i) ∧ Told Pair2 q ((fw t (d0 st t) ws).take i) H')
    ⟨_, _, _, _, rfl, Same.new hq, ?_, by simpa using Told.nil (upd_same ..)⟩ (fun i σ H' _ ⟨_, _, _, _, _, s, _⟩ => s.seq hp) ?_ ?_
  · cases st <;> simp [clip, d0, fwD] <;> omega
  · rintro i x σ H' hx ⟨lo, hi, x0, y0, rfl, s1, hc, t1⟩
    obtain ⟨wi, hw, rfl⟩ := F2.getI hx
    have hi' : i < ws.length := (List.getElem?_eq_some_iff.mp hw).1
    walk_at "rd"
    refine t1.ty ?_
    walk_at "rd"
    refine ⟨ll (by simp), fun l hl' => ?_⟩
    walk_at "rd"
    have hfw : (fw t (d0 st t) ws)[i]? = some (fwD t (d0 st t) (ws.take i) + wi) := by
      have e1 : ws = ws.take i ++ (wi :: ws.drop (i + 1)) := by rw [← drop_at hw, List.take_append_drop]
      have gen : ∀ (l r : List Int) (D : Int), (fw t D (l ++ wi :: r))[l.length]? = some (fwD t D l + wi) := fun l => by
        induction l with
        | nil => intro r D; rfl
        | cons a l ih => intro r D; simpa [fw, fwD] using ih r _
      have := gen (ws.take i) (ws.drop (i + 1)) (d0 st t)
      rw [← e1] at this
      rw [show (ws.take i).length = i by simp; omega] at this
      exact this
    refine (t1.mono (Same.new hl')).push (by simp; omega) (d := fwD t (d0 st t) (ws.take i) + wi) (.one (t1.ne hl') ⟨_, _, ⟨l, rfl, upd_same ..⟩, ?_⟩) fun H4 k4 t4 => ?_
    · rw [← hc]; unfold clip; omega
    · refine ⟨_, _, _, _, rfl, Same.of_ne (s1.trans (Same.new hl')) hq k4, ?_, ?_⟩
      · rw [take_snoc hw, (fw_snoc t wi _ _).2, ← hc]
        congr 1
        unfold clip; omega
      · rw [take_snoc hfw]
        exact t4
  · rintro σ H' ⟨lo, hi, x0, y0, rfl, s1, hc, t1⟩
    have e0 : (iv ws).length = ws.length := by simp
    rw [e0, List.take_of_length_le (by rw [fw_length]; exact Nat.le_refl _)] at t1
    walk_at "rd"
    refine ⟨ll (by simp), fun r hr1 => ?_⟩
    walk_at "rd"
    refine rd_for ?_
    walk_at "rd"
    refine rd_lenL ((s1.trans (Same.new hr1)).seq hp) ?_
    walk_at "rd"
    refine rg3N ws.length (by rw [e0]) (by omega) ?_
    have t2 := t1.mono (Same.new hr1 (o := .lst []))
    obtain ⟨ys, hy1, hy2⟩ := t2
    have hrq := t1.ne hr1
    have sl0 : (sides st ws t).length = ws.length := sides_length _ _ _
    refine for_rangeC (fun i σ H4 => ∃ (lo hi : Int) (a b c d e : Option V), σ = [some (.bl st), some (.ref p), some (.int t), some (.int lo), some (.int hi), some (.ref q), a, some (.ref r), b, c, d, e] ∧ (∀ b o, b ≠ r → upd H' r (.lst []) b = some o → H4 b = some o) ∧
      lo - hi = ub t (ws.drop (ws.length - i)) ∧ H4 r = some (.lst (bv ((sides st ws t).drop (ws.length - i)).reverse))) ⟨_, _, _, _, _, _, _, rfl, fun b o _ h => h, by simp [ub], by rw [upd_same]; simp [← sl0]⟩ ?_ ?_
    · rintro i σ H4 hi ⟨lo, hi', a, b, c, d, e, rfl, k4, hd, h4⟩
      obtain ⟨k, ek⟩ : ∃ k, ws.length - i = k + 1 := ⟨ws.length - i - 1, by omega⟩
      have hk : k < ws.length := by omega
      have eki : ws.length - (i + 1) = k := by omega
      have hpl : (ws.length : Int) - 1 + (i : Int) * -1 = (k : Int) := by omega
      have hwk : ws[k]? = some ws[k] := List.getElem?_eq_getElem hk
      have hfk : (fw t (d0 st t) ws)[k]? = some ((fw t (d0 st t) ws)[k]'(by rw [fw_length]; exact hk)) := List.getElem?_eq_getElem _
      generalize (fw t (d0 st t) ws)[k]'(by rw [fw_length]; exact hk) = fk at hfk
      have hsk := sums_at t ws (d0 st t) k hfk
      obtain ⟨y, hyk, ⟨G, g1, g2, l, hh, ⟨z, rfl, hz⟩, hlh⟩⟩ := hy2.getR hfk
      have hq4 : H4 q = some (.lst ys) := k4 _ _ (Ne.symm hrq) hy1
      have hz4 : H4 z = some (.lst (iv [l, hh])) := k4 _ _ (fun e => by
        have := g1 _ _ hz
        rw [e, upd_same] at this
        cases this) (g1 _ _ hz)
      have s4 : Same H H4 := Same.of_ne s1 (s1.free hr1) fun b o hb e => k4 b o hb (by rw [upd_ne hb]; exact e)
      have hrow : (sides st ws t)[k]? = some (decide (0 < fk + ub t (ws.drop (k + 1)))) := by
        unfold sides; rw [← sums_row, List.getElem?_map, hsk]; rfl
      walk_at "rd"
      refine rd_tyL h4 ?_
      walk_at "rd"
      rw [e0, hpl]
      refine rd_iL (sl hq4) (atI_nat hyk) ?_
      walk_at "rd"
      refine rd_iL (v := .int l) (sl hz4) (by rfl) ?_
      walk_at "rd"
      refine rd_iL (sl hq4) (atI_nat hyk) ?_
      walk_at "rd"
      refine rd_iL (v := .int hh) (sl hz4) (by rfl) ?_
      walk_at "rd"
      refine rd_push h4 (by simp; omega) ?_
      walk_at "rd"
      have s5 : ∀ o, Same H (upd H4 r o) := fun o => Same.upd s4 (s1.free hr1)
      refine rd_iL ((s5 _).seq hp) (atI_int hwk rfl) ?_
      walk_at "rd"
      refine rd_iL ((s5 _).seq hp) (atI_int hwk rfl) ?_
      walk_at "rd"
      rw [ek] at hd h4
      refine ⟨_, _, _, _, _, _, _, rfl, fun b o hb e => by rw [upd_ne hb]; exact k4 b o hb e, ?_, ?_⟩
      · rw [eki, drop_at hwk]
        simp only [ub]
        rw [← hd]
        unfold clip; omega
      · rw [upd_same, eki, drop_at hrow]
        have e7 : decide (hh + hi' < l + lo) = decide (0 < fk + ub t (ws.drop (k + 1))) := by
          congr 1; apply propext; omega
        rw [e7, ek]
        simp
    · rintro σ H4 ⟨lo, hi', a, b, c, d, e, rfl, k4, hd, h4⟩
      have s4 : Same H H4 := Same.of_ne s1 (s1.free hr1) fun b o hb e => k4 b o hb (by rw [upd_ne hb]; exact e)
      walk_at "rd"
      refine ⟨r, _, rfl, sl h4, fun u hu => ?_⟩
      refine h _ _ (s4.trans (Same.new hu)) ?_ (s4.free hu)
      rw [upd_same]
      simp
end
end LK
set_option maxHeartbeats 4000000
namespace LK
open PySem PySem.Spec PyProof.Rows L2
local macro_rules | `(tactic| walk_at "rd") => `(tactic| (repeat (first
  | with_reducible refine rd_seq ?_
  | with_reducible refine rd_asg ?_
  | with_reducible refine rd_ret ?_
  | with_reducible refine rd_drop ?_
  | with_reducible refine rd_if ?_
  | with_reducible refine rd_next ?_
  | ((with_reducible apply rd_var); (· exact rfl))
  | with_reducible refine rd_c ?_
  | with_reducible refine rd_op ?_
  | with_reducible refine rd_un ?_
  | with_reducible refine rd_I0 ?_
  | with_reducible refine rd_U ?_
  | with_reducible refine rd_eq ?_
  | with_reducible refine rd_ne ?_
  | with_reducible refine rd_neB ?_
  | with_reducible refine rd_asB ?_
  | with_reducible refine rd_test ?_
  | with_reducible refine rd_tB ?_
  | with_reducible refine rd_not ?_
  | with_reducible refine rd_and ?_
  | with_reducible refine rd_or ?_
  | with_reducible refine rd_andV ?_
  | with_reducible refine rd_orV ?_
  | with_reducible refine rd_notV ?_
  | with_reducible refine rd_ifx ?_
  | with_reducible refine rd_chain ?_
  | with_reducible refine rd_nil ?_
  | with_reducible refine rd_cons ?_
  | with_reducible refine rd_call ?_
  | with_reducible refine rd_cb ?_
  | with_reducible refine rd_lst ?_
  | with_reducible refine rd_tup ?_
  | with_reducible refine rd_min ?_
  | with_reducible refine rd_max ?_
  | with_reducible refine rd_abs ?_
  | with_reducible refine rd_int ?_
  | with_reducible refine rd_bm ?_
  | with_reducible refine rd_nt ?_
  | with_reducible refine rd_nf ?_
  | with_reducible refine rd_rg3 ?_
  | with_reducible refine rd_gnil ?_
  | with_reducible refine rd_gcons ?_
  | with_reducible refine rd_yes ?_
  | with_reducible refine rd_tt ?_
  | with_reducible refine rd_ff ?_
  | with_reducible refine rd_fld ?_
  | with_reducible refine rd_meth ?_
  | with_reducible refine rd_rev ?_
  | with_reducible refine rd_callN ?_
  | with_reducible refine rd_rg1 ?_
  | with_reducible refine rd_rg2 ?_
  | with_reducible refine rd_nm ?_
  | with_reducible refine rd_lc ?_
  | with_reducible refine rd_iL' ?_
  | with_reducible refine rd_iT' ?_)))
local macro_rules | `(tactic| walk_at "hp") => `(tactic| (first
  | assumption
  | exact upd_same ..
  | (refine keep_upd (by assumption) ?_; walk_at "hp")
  | (refine same_app (by assumption) ?_; walk_at "hp")))


/-! ### the law's model, as it lies in the heap -/
structure Mod where
  base : List Int
  wr : List (List (Int × Int))
  sz : List Int
  nd : List (List Int)
  br : List (List Int)
  dm : List (List Int)
  qu : List (List Int)
def Pr (H : Hp) (v : V) (x : Int × Int) : Prop := ∃ a, v = .ref a ∧ H a = some (.tup [.int x.1, .int x.2])
theorem m_Pr : Mono Pr := fun H H' v d s ⟨a, e, h⟩ => ⟨a, e, s _ _ h⟩
structure MA where
  m : Addr
  a0 : Addr
  a1 : Addr
  a2 : Addr
  a3 : Addr
  a4 : Addr
  a5 : Addr
  a6 : Addr
structure MRa (H : Hp) (A : MA) (M : Mod) : Prop where
  m : H A.m = some (.lst [.ref A.a0, .ref A.a1, .ref A.a2, .ref A.a3, .ref A.a4, .ref A.a5, .ref A.a6])
  h0 : IL H (.ref A.a0) M.base
  h1 : LL (LL Pr) H (.ref A.a1) M.wr
  h2 : IL H (.ref A.a2) M.sz
  h3 : LL IL H (.ref A.a3) M.nd
  h4 : LL IL H (.ref A.a4) M.br
  h5 : LL IL H (.ref A.a5) M.dm
  h6 : LL IL H (.ref A.a6) M.qu
def MR (H : Hp) (v : V) (M : Mod) : Prop := ∃ A : MA, v = .ref A.m ∧ MRa H A M
theorem MRa.mono {H H' : Hp} {A : MA} {M : Mod} (h : MRa H A M) (s : Same H H') : MRa H' A M :=
  ⟨s _ _ h.m, m_IL _ _ _ _ s h.h0, m_LL (m_LL m_Pr) _ _ _ _ s h.h1, m_IL _ _ _ _ s h.h2, m_LL m_IL _ _ _ _ s h.h3, m_LL m_IL _ _ _ _ s h.h4, m_LL m_IL _ _ _ _ s h.h5, m_LL m_IL _ _ _ _ s h.h6⟩
theorem m_MR : Mono MR := fun H H' v d s ⟨A, e, h⟩ => ⟨A, e, h.mono s⟩
/-- N patches -/
structure Sh (M : Mod) (N : Nat) : Prop where
  wr : M.wr.length = N + 1
  sz : M.sz.length = N + 1
  nd : M.nd.length = N + 1
  br : M.br.length = N + 1
  dm : M.dm.length = N + 1
  qu : M.qu.length = N + 1
  n : N ≤ 100
  ndl : ∀ x ∈ M.nd, x.length ≤ 100
  brl : ∀ x ∈ M.br, x.length ≤ 100
  dml : ∀ x ∈ M.dm, x.length ≤ 100
  qul : ∀ x ∈ M.qu, x.length ≤ 100
def ndA (M : Mod) (p : Int) : List Int := M.nd.getD p.toNat []
def brA (M : Mod) (p : Int) : List Int := M.br.getD p.toNat []
def szA (M : Mod) (p : Int) : Int := M.sz.getD p.toNat 0
theorem getD_at {α : Type} {xs : List α} {i : Nat} {d : α} (h : i < xs.length) : xs[i]? = some (xs.getD i d) := by
  rw [List.getD_eq_getElem?_getD, List.getElem?_eq_getElem h]; rfl
theorem getD_mem {α : Type} {xs : List α} {i : Nat} {d : α} (h : i < xs.length) : xs.getD i d ∈ xs := List.mem_of_getElem? (getD_at h)
/-- an item of a list of data -/
theorem LL.at_ {α : Type} {R : Hp → V → α → Prop} {H : Hp} {a : Addr} {ds : List α} (h : LL R H (.ref a) ds) : ∃ xs, H a = some (.lst xs) ∧ F2 (R H) xs ds := by
  obtain ⟨b, xs, e, h1, h2⟩ := h
  cases e
  exact ⟨xs, h1, h2⟩
theorem IL.at_ {H : Hp} {a : Addr} {ds : List Int} (h : IL H (.ref a) ds) : H a = some (.lst (iv ds)) := by
  obtain ⟨b, e, h1⟩ := h
  cases e
  exact h1
theorem IT.at_ {H : Hp} {a : Addr} {ds : List Int} (h : IT H (.ref a) ds) : H a = some (.tup (iv ds)) := by
  obtain ⟨b, e, h1⟩ := h
  cases e
  exact h1
def fits (M : Mod) (ts : List Int) (n : Int) : Bool := (ndA M n).all (fun o => decide (o ∈ ts)) && (brA M n).all (fun o => !decide (o ∈ ts))
theorem all_take {α : Type} {f : α → Bool} {xs : List α} {i : Nat} {x : α} (hx : xs[i]? = some x) (h : (xs.take i).all f = true) (hf : f x = true) : (xs.take (i + 1)).all f = true := by
  rw [take_snoc hx, List.all_append, h]; simp [hf]
theorem all_bad {α : Type} {f : α → Bool} {xs : List α} {i : Nat} {x : α} (hx : xs[i]? = some x) (hf : f x = false) : xs.all f = false := by
  rw [List.all_eq_false]
  exact ⟨x, List.mem_of_getElem? hx, by simp [hf]⟩
section
variable {P : Program} {w : World} {K : PySem.W.Frag} {mg : Str → Option Value} {base : Heap}
def spFits : Sp := fun vs H Q _ => ∃ (v : V) (M : Mod) (N : Nat) (q : Addr) (ts : List Int) (n : Int), vs = [v, .ref q, .int n] ∧ MR H v M ∧ Sh M N ∧ H q = some (.lst (iv ts)) ∧ 0 ≤ n ∧ n ≤ N ∧ Q (.bl (fits M ts n)) H
theorem c__law_fits (T : Txt P K mg) : Cal P w K mg base 1 "_law_fits" spFits := by
  have S : FnScope ["_law_model_here", "_law_taken", "_law_number", "_law_other"] ["_law_model_here", "_law_taken", "_law_number"] (defScope (top 47)) := ⟨rfl, rfl, rfl, by decide +kernel, rfl, by decide +kernel, by decide +kernel⟩
  refine T.d__law_fits.cal S (fun _ _ _ _ _ _ us hl => match us, hl with | [_, _, _], _ => rfl) (fun vs H Q E ⟨_, _, _, _, _, _, e, _⟩ => by rw [e]; rfl) fun f cdv A outer s H vs Q E hr ⟨v, M, N, q, ts, n, e, ⟨A, ev, hm⟩, sh, hq, n0, nN, h⟩ => ?_
  subst e ev
  refine ⟨_, (pss_cons (ps_for PassesOwn.never rfl (pi_listK (K := K) rfl (pe_ix (ix_ltK (K := K) rfl) (pe_ix (ix_ltK (K := K) rfl) (pv 0) pe_int (fun _ _ => rfl)) (pv 2) (fun _ _ => rfl))) (pg_name (i := 3) S.nd rfl (Or.inl rfl)) (pss_one (ps_if (pt_cmpR (op_notInK (K := K) rfl) (pv 3) (pv 1) (by rfl)) (pss_one (ps_ret pe_bl)) pss_nil)))
      (pss_cons (ps_for PassesOwn.never rfl (pi_listK (K := K) rfl (pe_ix (ix_ltK (K := K) rfl) (pe_ix (ix_ltK (K := K) rfl) (pv 0) pe_int (fun _ _ => rfl)) (pv 2) (fun _ _ => rfl))) (pg_name (i := 3) S.nd rfl (Or.inl rfl)) (pss_one (ps_if (pt_cmpR (op_inK (K := K) rfl) (pv 3) (pv 1) (by rfl)) (pss_one (ps_ret pe_bl)) pss_nil)))
      (pss_one (ps_ret pe_bl)))), ?_⟩
  obtain ⟨xs3, h3, f3⟩ := hm.h3.at_
  obtain ⟨xs4, h4, f4⟩ := hm.h4.at_
  obtain ⟨v3, e3, b3, rfl, i3⟩ := f3.getR (getD_at (d := []) (i := n.toNat) (by rw [sh.nd]; omega))
  obtain ⟨v4, e4, b4, rfl, i4⟩ := f4.getR (getD_at (d := []) (i := n.toNat) (by rw [sh.br]; omega))
  walk_at "rd"
  refine rd_for ?_
  walk_at "rd"
  refine rd_iL (sl hm.m) (by rfl) ?_
  walk_at "rd"
  refine rd_iL (sl h3) (atI_nn n0 e3) ?_
  refine ⟨_, rfl, ⟨_, sl i3⟩, ?_⟩
  refine for_list (xs := iv (ndA M n)) (fun i σ H' => ∃ x, σ = [some (.ref A.m), some (.ref q), some (.int n), x] ∧ H' = H ∧ ((ndA M n).take i).all (fun o => decide (o ∈ ts)) = true) ⟨_, rfl, rfl, by simp⟩ (fun i σ H' _ ⟨_, _, e, _⟩ => e ▸ sl i3) ?_ ?_
  · rintro i x σ H' hx ⟨x0, rfl, rfl, al⟩
    obtain ⟨o, ho, rfl⟩ := F2.getI hx
    walk_at "rd"
    refine rd_inL (sl hq) ?_
    walk_at "rd"
    refine rd_iteN (fun c => ?_) fun c => ?_
    · walk_at "rd"
      have : fits M ts n = false := by
        unfold fits; rw [all_bad ho (by simpa using c)]; rfl
      rw [this] at h
      exact h
    · walk_at "rd"
      exact ⟨_, rfl, rfl, all_take ho al (by simpa using c)⟩
  · rintro σ H' ⟨x0, rfl, rfl, al⟩
    have e0 : (iv (ndA M n)).length = (ndA M n).length := by simp
    rw [e0, List.take_length] at al
    walk_at "rd"
    refine rd_for ?_
    walk_at "rd"
    refine rd_iL (sl hm.m) (by rfl) ?_
    walk_at "rd"
    refine rd_iL (sl h4) (atI_nn n0 e4) ?_
    refine ⟨_, rfl, ⟨_, sl i4⟩, ?_⟩
    refine for_list (xs := iv (brA M n)) (fun i σ H1 => ∃ x, σ = [some (.ref A.m), some (.ref q), some (.int n), x] ∧ H1 = H' ∧ ((brA M n).take i).all (fun o => !decide (o ∈ ts)) = true) ⟨_, rfl, rfl, by simp⟩ (fun i σ H1 _ ⟨_, _, e, _⟩ => e ▸ sl i4) ?_ ?_
    · rintro i x σ H1 hx ⟨x0, rfl, rfl, al2⟩
      obtain ⟨o, ho, rfl⟩ := F2.getI hx
      walk_at "rd"
      refine rd_inL (sl hq) ?_
      walk_at "rd"
      refine rd_ite (fun c => ?_) fun c => ?_
      · walk_at "rd"
        have : fits M ts n = false := by
          unfold fits; rw [all_bad (f := fun o => !decide (o ∈ ts)) ho (by simpa using c)]; simp
        rw [this] at h
        exact h
      · walk_at "rd"
        exact ⟨_, rfl, rfl, all_take ho al2 (by simpa using c)⟩
    · rintro σ H1 ⟨x0, rfl, rfl, al2⟩
      have e1 : (iv (brA M n)).length = (brA M n).length := by simp
      rw [e1, List.take_length] at al2
      walk_at "rd"
      have : fits M ts n = true := by unfold fits; rw [al, al2]; rfl
      rw [this] at h
      exact h
/-! ### versions, as the law's model answers -/
def goV (M : Mod) (N : Nat) : List Int → List Int → Bool
  | _, [] => true
  | ts, x :: r => (decide (1 ≤ x) && decide (x ≤ N) && decide (∀ l, ts.getLast? = some l → l < x)) && (fits M ts x && goV M N (ts ++ [x]) r)
end
end LK
set_option maxHeartbeats 4000000
namespace LK
open PySem PySem.Spec PyProof.Rows L2
local macro_rules | `(tactic| walk_at "rd") => `(tactic| (repeat (first
  | with_reducible refine rd_seq ?_
  | with_reducible refine rd_asg ?_
  | with_reducible refine rd_ret ?_
  | with_reducible refine rd_drop ?_
  | with_reducible refine rd_if ?_
  | with_reducible refine rd_next ?_
  | ((with_reducible apply rd_var); (· exact rfl))
  | with_reducible refine rd_c ?_
  | with_reducible refine rd_op ?_
  | with_reducible refine rd_un ?_
  | with_reducible refine rd_I0 ?_
  | with_reducible refine rd_U ?_
  | with_reducible refine rd_eq ?_
  | with_reducible refine rd_ne ?_
  | with_reducible refine rd_neB ?_
  | with_reducible refine rd_asB ?_
  | with_reducible refine rd_test ?_
  | with_reducible refine rd_tB ?_
  | with_reducible refine rd_not ?_
  | with_reducible refine rd_and ?_
  | with_reducible refine rd_or ?_
  | with_reducible refine rd_andV ?_
  | with_reducible refine rd_orV ?_
  | with_reducible refine rd_notV ?_
  | with_reducible refine rd_ifx ?_
  | with_reducible refine rd_chain ?_
  | with_reducible refine rd_nil ?_
  | with_reducible refine rd_cons ?_
  | with_reducible refine rd_call ?_
  | with_reducible refine rd_cb ?_
  | with_reducible refine rd_lst ?_
  | with_reducible refine rd_tup ?_
  | with_reducible refine rd_min ?_
  | with_reducible refine rd_max ?_
  | with_reducible refine rd_abs ?_
  | with_reducible refine rd_int ?_
  | with_reducible refine rd_bm ?_
  | with_reducible refine rd_nt ?_
  | with_reducible refine rd_nf ?_
  | with_reducible refine rd_rg3 ?_
  | with_reducible refine rd_gnil ?_
  | with_reducible refine rd_gcons ?_
  | with_reducible refine rd_yes ?_
  | with_reducible refine rd_tt ?_
  | with_reducible refine rd_ff ?_
  | with_reducible refine rd_fld ?_
  | with_reducible refine rd_meth ?_
  | with_reducible refine rd_rev ?_
  | with_reducible refine rd_callN ?_
  | with_reducible refine rd_rg1 ?_
  | with_reducible refine rd_rg2 ?_
  | with_reducible refine rd_nm ?_
  | with_reducible refine rd_lc ?_
  | with_reducible refine rd_iL' ?_
  | with_reducible refine rd_iT' ?_)))
local macro_rules | `(tactic| walk_at "hp") => `(tactic| (first
  | assumption
  | exact upd_same ..
  | (refine keep_upd (by assumption) ?_; walk_at "hp")
  | (refine same_app (by assumption) ?_; walk_at "hp")))


theorem kb1 : kitB "tuple" "tuple" = some true := by decide +kernel
theorem kb2 : kitB "int" "int" = some true := by decide +kernel
theorem kb3 : kitB "int" "bool" = some false := by decide +kernel
theorem kb4 : kitB "list" "list" = some true := by decide +kernel
theorem kb5 : kitB "list" "tuple" = some false := by decide +kernel
theorem kb6 : kitB "tuple" "list" = some false := by decide +kernel
theorem kb7 : kitB "list" "int" = some false := by decide +kernel
theorem kb8 : kitB "tuple" "int" = some false := by decide +kernel
section
variable {K : PySem.W.Frag} {H : Hp} {Q : VK} {a : Addr} {xs : List V} {n : Int}
theorem is_tt (h : H a = some (.tup xs)) (q : Q (.bl true) H) : rIsi K [.ref a, .ty "tuple"] H Q := rd_isi (.base (.tup h)) kb1 q
theorem is_tl (h : H a = some (.tup xs)) (q : Q (.bl false) H) : rIsi K [.ref a, .ty "list"] H Q := rd_isi (.base (.tup h)) kb6 q
theorem is_ti (h : H a = some (.tup xs)) (q : Q (.bl false) H) : rIsi K [.ref a, .ty "int"] H Q := rd_isi (.base (.tup h)) kb8 q
theorem is_ll (h : H a = some (.lst xs)) (q : Q (.bl true) H) : rIsi K [.ref a, .ty "list"] H Q := rd_isi (.base (.lst h)) kb4 q
theorem is_lt (h : H a = some (.lst xs)) (q : Q (.bl false) H) : rIsi K [.ref a, .ty "tuple"] H Q := rd_isi (.base (.lst h)) kb5 q
theorem is_li (h : H a = some (.lst xs)) (q : Q (.bl false) H) : rIsi K [.ref a, .ty "int"] H Q := rd_isi (.base (.lst h)) kb7 q
theorem is_ii (q : Q (.bl true) H) : rIsi K [.int n, .ty "int"] H Q := rd_isi (.base (.int n)) kb2 q
theorem is_ib (q : Q (.bl false) H) : rIsi K [.int n, .ty "bool"] H Q := rd_isi (.base (.int n)) kb3 q
theorem rd_isNr (q : Q (.bl false) H) : (V.non = V.non) ∧ Q (.bl (decide (V.ref a = V.non))) H := ⟨rfl, q⟩
theorem rd_isNi (q : Q (.bl false) H) : (V.non = V.non) ∧ Q (.bl (decide (V.int n = V.non))) H := ⟨rfl, q⟩
end
section
variable {P : Program} {w : World} {K : PySem.W.Frag} {mg : Str → Option Value} {base : Heap}
def isV (M : Mod) (N : Nat) (xs : List Int) : Bool := goV M N [] xs
def spIsVersion : Sp := fun vs H Q _ => ∃ (v u : V) (M : Mod) (N : Nat) (xs : List Int), vs = [v, u] ∧ MR H v M ∧ Sh M N ∧ IT H u xs ∧ xs.length < 1000 ∧ ∀ H', Same H H' → Q (.bl (isV M N xs)) H'
theorem take_last {xs : List Int} {i : Nat} {l : Int} (h : (xs.take (i + 1)).getLast? = some l) (hi : i < xs.length) : xs[i]? = some l := by
  rw [take_snoc (List.getElem?_eq_getElem hi), List.getLast?_concat] at h
  rw [List.getElem?_eq_getElem hi]; exact h
theorem c__law_is_version (T : Txt P K mg) : Cal P w K mg base 2 "_law_is_version" spIsVersion := by
  have S : FnScope ["_law_model_here", "_law_version_here", "_law_taken", "_law_number"] ["_law_model_here", "_law_version_here"] (defScope (top 56)) := ⟨rfl, rfl, rfl, by decide +kernel, rfl, by decide +kernel, by decide +kernel⟩
  refine T.d__law_is_version.cal S (fun _ _ _ _ _ _ us hl => match us, hl with | [_, _], _ => rfl) (fun vs H Q E ⟨_, _, _, _, _, e, _⟩ => by rw [e]; rfl) fun f cdv A outer s H vs Q E hr ⟨v, u, M, N, xs, e, ⟨A, ev, hm⟩, sh, ⟨b, eu, hb⟩, hl, h⟩ => ?_
  subst e ev eu
  refine ⟨_, (pss_cons (ps_if (pt_not (pt_val (pe_callB (k_isiK (K := K) rfl) (by rfl) T.b_isinstance (by decide +kernel) (pa_cons (pv 1) (pa_cons (pe_bltn (v := .ty "tuple") (by rfl) T.b_tuple (by decide +kernel) rfl) pa_nil))))) (pss_one (ps_ret pe_bl)) pss_nil)
      (pss_cons (ps_set (i := 2) S.nd rfl (Or.inl rfl) (pe_lst pa_nil))
      (pss_cons (ps_for PassesOwn.never rfl (pi_tupK (K := K) rfl (pv 1)) (pg_name (i := 3) S.nd rfl (Or.inl rfl)) (pss_cons (ps_if (PW.pt (pw_or (pt_not (pt_val (pe_callB (k_isiK (K := K) rfl) (by rfl) T.b_isinstance (by decide +kernel) (pa_cons (pv 3) (pa_cons (pe_bltn (v := .ty "int") (by rfl) T.b_int (by decide +kernel) rfl) pa_nil))))) (pw_or1 (pt_val (pe_callB (k_isiK (K := K) rfl) (by rfl) T.b_isinstance (by decide +kernel) (pa_cons (pv 3) (pa_cons (pe_bltn (v := .ty "bool") (by rfl) T.b_bool (by decide +kernel) rfl) pa_nil))))))) (pss_one (ps_ret pe_bl)) pss_nil)
      (pss_cons (ps_if (PW.pt (pw_or (pt_cmpR op_lt (pv 3) pe_int (nomark _)) (pw_or (pt_cmpR op_ge (pv 3) (pe_callB (k_lenK (K := K) rfl) (by rfl) T.b_len (by decide +kernel) (pa_cons (pe_ix (ix_ltK (K := K) rfl) (pv 0) pe_int (fun _ _ => rfl)) pa_nil)) (nomark _)) (pw_or1 (PW.pt (pw_and (pt_cmpR op_gt (pe_callB (k_lenK (K := K) rfl) (by rfl) T.b_len (by decide +kernel) (pa_cons (pv 2) pa_nil)) pe_int (nomark _)) (pw_and1 (pt_cmpR op_ge (pe_ix (ix_ltK (K := K) rfl) (pv 2) (pe_un un_neg pe_int) (fun _ _ => rfl)) (pv 3) (nomark _))))))))) (pss_one (ps_ret pe_bl)) pss_nil)
      (pss_cons (ps_if (pt_not (pt_val (pe_c (c__law_fits T) hr (by decide) (by rfl) (pa_cons (pv 0) (pa_cons (pv 2) (pa_cons (pv 3) pa_nil)))))) (pss_one (ps_ret pe_bl)) pss_nil)
      (pss_one (ps_expr (pe_appK (K := K) rfl (pv 2) (pa_cons (pv 3) pa_nil))))))))
      (pss_one (ps_ret pe_bl))))), ?_⟩
  walk_at "rd"
  refine is_tt hb ?_
  walk_at "rd"
  refine ⟨ll (by simp), fun q hq => ?_⟩
  walk_at "rd"
  refine rd_for ?_
  walk_at "rd"
  refine ⟨_, rfl, ⟨_, stp (Same.new hq _ _ hb)⟩, ?_⟩
  refine for_tup (xs := iv xs) (fun i σ H' => ∃ x, σ = [some (.ref A.m), some (.ref b), some (.ref q), x] ∧ Same H H' ∧ H' q = some (.lst (iv (xs.take i))) ∧ isV M N xs = goV M N (xs.take i) (xs.drop i)) ⟨_, rfl, Same.new hq, upd_same .., by simp [isV]⟩ (fun i σ H' _ ⟨_, _, s, _⟩ => stp (s _ _ hb)) ?_ ?_
  · rintro i x σ H' hx ⟨x0, rfl, s1, hq1, hv⟩
    obtain ⟨n, hn, rfl⟩ := F2.getI hx
    have hil : i < xs.length := (List.getElem?_eq_some_iff.mp hn).1
    have hm1 := hm.mono s1
    obtain ⟨xs1, h1, f1⟩ := hm1.h1.at_
    have l1 : (xs1.length : Int) = N + 1 := by rw [f1.length, sh.wr]; omega
    rw [drop_at hn] at hv
    have bad : isV M N xs = false → Q (.bl false) H' := fun z => z ▸ h H' s1
    walk_at "rd"
    refine is_ii ?_
    walk_at "rd"
    refine is_ib ?_
    walk_at "rd"
    refine rd_ite (fun c => ?_) fun c1 => ?_
    · walk_at "rd"
      refine bad ?_
      rw [hv]; simp [goV]; omega
    walk_at "rd"
    refine rd_iL (sl hm1.m) (by rfl) ?_
    walk_at "rd"
    refine rd_lenL (sl h1) ?_
    walk_at "rd"
    rw [l1]
    refine rd_ite (fun c => ?_) fun c2 => ?_
    · walk_at "rd"
      refine bad ?_
      rw [hv]
      have : ¬ n ≤ N := by omega
      simp [goV, this]
    walk_at "rd"
    refine rd_lenL (sl hq1) ?_
    walk_at "rd"
    have lt0 : (iv (xs.take i)).length = i := by simp; omega
    rw [lt0]
    have next : (∀ l, (xs.take i).getLast? = some l → l < n) → (if (fits M (xs.take i) n) = true then goV M N (xs.take (i + 1)) (xs.drop (i + 1)) else false) = isV M N xs := fun z => by
      rw [hv, take_snoc hn]
      simp only [goV]
      have z1 : decide (1 ≤ n) = true := by simp; omega
      have z2 : decide (n ≤ N) = true := by simp; omega
      have z3 : decide (∀ l, (xs.take i).getLast? = some l → l < n) = true := decide_eq_true z
      rw [z1, z2, z3]
      cases fits M (xs.take i) n <;> simp
    have fin : (∀ l, (xs.take i).getLast? = some l → l < n) → ∀ (R : Prop), (fits M (xs.take i) n = true → isV M N xs = goV M N (xs.take (i + 1)) (xs.drop (i + 1)) → R) → (fits M (xs.take i) n = false → isV M N xs = false → R) → R := fun z R a b => by
      have := next z
      cases c : fits M (xs.take i) n with
      | true => rw [c] at this; exact a c this.symm
      | false => rw [c] at this; exact b c this.symm
    have go : (∀ l, (xs.take i).getLast? = some l → l < n) → spFits [.ref A.m, .ref q, .int n] H' (fun x H1 => ∃ k, x = .bl k ∧ (H1 = H' ∧ k = fits M (xs.take i) n)) E0 := fun _ => ⟨_, M, N, q, _, n, rfl, ⟨A, rfl, hm1⟩, sh, hq1, by omega, by omega, _, rfl, rfl, rfl⟩
    refine rd_ite (fun c => ?_) fun c3 => ?_
    · walk_at "rd"
      obtain ⟨j, rfl⟩ : ∃ j, i = j + 1 := ⟨i - 1, by omega⟩
      have hj : j < xs.length := by omega
      have ej : (xs.take (j + 1)).getLast? = some xs[j] := by rw [take_snoc (List.getElem?_eq_getElem hj), List.getLast?_concat]
      refine rd_iL (v := .int xs[j]) (sl hq1) ?_ ?_
      · rw [take_snoc (List.getElem?_eq_getElem hj)]
        simp only [iv, List.map_append, List.map_cons, List.map_nil]
        exact atI_last _ _
      walk_at "rd"
      refine rd_ite (fun c => ?_) fun c4 => ?_
      · walk_at "rd"
        refine bad ?_
        rw [hv]
        have : ¬ (∀ l, (xs.take (j + 1)).getLast? = some l → l < n) := fun z => by have := z _ ej; omega
        simp only [goV, decide_eq_false this, Bool.and_false, Bool.false_and]
      walk_at "rd"
      refine fin (fun l el => by rw [ej] at el; cases el; omega) _ (fun cf e2 => ?_) fun cf e2 => ?_
      all_goals
        refine ⟨_, M, N, q, _, n, rfl, ⟨A, rfl, hm1⟩, sh, hq1, by omega, by omega, ?_⟩
        rw [cf]
        walk_at "rd"
      · refine rd_tyL hq1 ?_
        walk_at "rd"
        refine rd_push hq1 (by rw [lt0]; omega) ?_
        exact ⟨_, rfl, Same.upd s1 hq, by rw [upd_same, take_snoc hn]; simp, e2⟩
      · exact bad e2
    · walk_at "rd"
      have i0 : i = 0 := by omega
      subst i0
      refine fin (fun l el => by simp at el) _ (fun cf e2 => ?_) fun cf e2 => ?_
      all_goals
        refine ⟨_, M, N, q, _, n, rfl, ⟨A, rfl, hm1⟩, sh, hq1, by omega, by omega, ?_⟩
        rw [cf]
        walk_at "rd"
      · refine rd_tyL hq1 ?_
        walk_at "rd"
        refine rd_push hq1 (by rw [lt0]; omega) ?_
        exact ⟨_, rfl, Same.upd s1 hq, by rw [upd_same, take_snoc hn]; simp, e2⟩
      · exact bad e2
  · rintro σ H' ⟨x0, rfl, s1, hq1, hv⟩
    have e0 : (iv xs).length = xs.length := by simp
    rw [e0, List.drop_length] at hv
    walk_at "rd"
    have := h H' s1
    rw [hv] at this
    exact this
/-- a plan is a list of versions -/
def spIsPlan : Sp := fun vs H Q _ => ∃ (v u : V) (M : Mod) (N : Nat) (pl : List (List Int)), vs = [v, u, .int pl.length] ∧ MR H v M ∧ Sh M N ∧ Plan H u pl ∧ pl.length < 1000 ∧ (∀ xs ∈ pl, xs.length < 1000 ∧ isV M N xs = true) ∧ ∀ H', Same H H' → Q (.bl true) H'
theorem c__law_is_plan (T : Txt P K mg) : Cal P w K mg base 3 "_law_is_plan" spIsPlan := by
  have S : FnScope ["_law_model_here", "_law_told", "_law_many", "_law_version_here"] ["_law_model_here", "_law_told", "_law_many"] (defScope (top 57)) := ⟨rfl, rfl, rfl, by decide +kernel, rfl, by decide +kernel, by decide +kernel⟩
  refine T.d__law_is_plan.cal S (fun _ _ _ _ _ _ us hl => match us, hl with | [_, _, _], _ => rfl) (fun vs H Q E ⟨_, _, _, _, _, e, _⟩ => by rw [e]; rfl) fun f cdv A outer s H vs Q E hr ⟨v, u, M, N, pl, e, hm, sh, ⟨b, xs, eu, hb, fx⟩, hl, hv, h⟩ => ?_
  subst e eu
  refine ⟨_, (pss_cons (ps_if (PW.pt (pw_or (pt_not (pt_val (pe_callB (k_isiK (K := K) rfl) (by rfl) T.b_isinstance (by decide +kernel) (pa_cons (pv 1) (pa_cons (pe_bltn (v := .ty "list") (by rfl) T.b_list (by decide +kernel) rfl) pa_nil))))) (pw_or1 (pt_cmpR op_ne (pe_callB (k_lenK (K := K) rfl) (by rfl) T.b_len (by decide +kernel) (pa_cons (pv 1) pa_nil)) (pv 2) (nomark _))))) (pss_one (ps_ret pe_bl)) pss_nil)
      (pss_cons (ps_for PassesOwn.never rfl (pi_listK (K := K) rfl (pv 1)) (pg_name (i := 3) S.nd rfl (Or.inl rfl)) (pss_one (ps_if (pt_not (pt_val (pe_c (c__law_is_version T) hr (by decide) (by rfl) (pa_cons (pv 0) (pa_cons (pv 3) pa_nil))))) (pss_one (ps_ret pe_bl)) pss_nil)))
      (pss_one (ps_ret pe_bl)))), ?_⟩
  walk_at "rd"
  refine is_ll hb ?_
  walk_at "rd"
  refine rd_lenL (sl hb) ?_
  walk_at "rd"
  have e0 : xs.length = pl.length := fx.length
  rw [e0]
  refine rd_iteN (fun c => absurd rfl c) fun _ => ?_
  walk_at "rd"
  refine rd_for ?_
  walk_at "rd"
  refine ⟨_, rfl, ⟨_, sl hb⟩, ?_⟩
  refine for_list (xs := xs) (fun i σ H' => ∃ x, σ = [some v, some (.ref b), some (.int pl.length), x] ∧ Same H H') ⟨_, rfl, Same.refl _⟩ (fun i σ H' _ ⟨_, _, s⟩ => sl (s _ _ hb)) ?_ ?_
  · rintro i x σ H' hx ⟨x0, rfl, s1⟩
    obtain ⟨d, hd, rd⟩ := fx.get hx
    obtain ⟨z1, z2⟩ := hv d (List.mem_of_getElem? hd)
    walk_at "rd"
    refine ⟨_, _, M, N, d, rfl, m_MR _ _ _ _ s1 hm, sh, m_IT _ _ _ _ s1 rd, z1, fun H2 s2 => ?_⟩
    rw [z2]
    walk_at "rd"
    exact ⟨_, rfl, s1.trans s2⟩
  · rintro σ H' ⟨x0, rfl, s1⟩
    walk_at "rd"
    exact h _ s1
/-! ### what one has and the other has not -/
def apart (a b : List Int) : List Int := a.filter (fun x => !decide (x ∈ b)) ++ b.filter (fun x => !decide (x ∈ a))
def spApart (K : PySem.W.Frag) : Sp := fun vs H Q _ => ∃ (v u : V) (a b : List Int), vs = [v, u] ∧ IT H v a ∧ IT H u b ∧ a.length < 1000 ∧ b.length < 1000 ∧ ∀ q H', Same H H' → H' q = some (.lst (iv (apart a b))) → H q = none → Q (.ref q) H'
end
end LK
set_option maxHeartbeats 4000000
namespace LK
open PySem PySem.Spec PyProof.Rows L2
local macro_rules | `(tactic| walk_at "rd") => `(tactic| (repeat (first
  | with_reducible refine rd_seq ?_
  | with_reducible refine rd_asg ?_
  | with_reducible refine rd_ret ?_
  | with_reducible refine rd_drop ?_
  | with_reducible refine rd_if ?_
  | with_reducible refine rd_next ?_
  | ((with_reducible apply rd_var); (· exact rfl))
  | with_reducible refine rd_c ?_
  | with_reducible refine rd_op ?_
  | with_reducible refine rd_un ?_
  | with_reducible refine rd_I0 ?_
  | with_reducible refine rd_U ?_
  | with_reducible refine rd_eq ?_
  | with_reducible refine rd_ne ?_
  | with_reducible refine rd_neB ?_
  | with_reducible refine rd_asB ?_
  | with_reducible refine rd_test ?_
  | with_reducible refine rd_tB ?_
  | with_reducible refine rd_not ?_
  | with_reducible refine rd_and ?_
  | with_reducible refine rd_or ?_
  | with_reducible refine rd_andV ?_
  | with_reducible refine rd_orV ?_
  | with_reducible refine rd_notV ?_
  | with_reducible refine rd_ifx ?_
  | with_reducible refine rd_chain ?_
  | with_reducible refine rd_nil ?_
  | with_reducible refine rd_cons ?_
  | with_reducible refine rd_call ?_
  | with_reducible refine rd_cb ?_
  | with_reducible refine rd_lst ?_
  | with_reducible refine rd_tup ?_
  | with_reducible refine rd_min ?_
  | with_reducible refine rd_max ?_
  | with_reducible refine rd_abs ?_
  | with_reducible refine rd_int ?_
  | with_reducible refine rd_bm ?_
  | with_reducible refine rd_nt ?_
  | with_reducible refine rd_nf ?_
  | with_reducible refine rd_rg3 ?_
  | with_reducible refine rd_gnil ?_
  | with_reducible refine rd_gcons ?_
  | with_reducible refine rd_yes ?_
  | with_reducible refine rd_tt ?_
  | with_reducible refine rd_ff ?_
  | with_reducible refine rd_fld ?_
  | with_reducible refine rd_meth ?_
  | with_reducible refine rd_rev ?_
  | with_reducible refine rd_callN ?_
  | with_reducible refine rd_rg1 ?_
  | with_reducible refine rd_rg2 ?_
  | with_reducible refine rd_nm ?_
  | with_reducible refine rd_lc ?_
  | with_reducible refine rd_iL' ?_
  | with_reducible refine rd_iT' ?_)))
local macro_rules | `(tactic| walk_at "hp") => `(tactic| (first
  | assumption
  | exact upd_same ..
  | (refine keep_upd (by assumption) ?_; walk_at "hp")
  | (refine same_app (by assumption) ?_; walk_at "hp")))


theorem rd_catL {H : Hp} {Q : VK} {a b : Addr} {xs ys : List V} (h1 : H a = some (.lst xs)) (h2 : H b = some (.lst ys)) (hz : xs.length + ys.length < 10000000) (q : ∀ p, H p = none → Q (.ref p) (upd H p (.lst (xs ++ ys)))) : rCat (.ref a) (.ref b) H Q := ⟨a, b, xs, ys, rfl, rfl, h1, h2, ll (by omega), q⟩
section
variable {P : Program} {w : World} {K : PySem.W.Frag} {mg : Str → Option Value} {base : Heap}
theorem c__law_apart (T : Txt P K mg) : Cal P w K mg base 1 "_law_apart" (spApart K) := by
  have S : FnScope ["_law_first", "_law_second", "_law_one"] ["_law_first", "_law_second"] (defScope (top 51)) := ⟨rfl, rfl, rfl, by decide +kernel, rfl, by decide +kernel, by decide +kernel⟩
  refine T.d__law_apart.cal S (fun _ _ _ _ _ _ us hl => match us, hl with | [_, _], _ => rfl) (fun vs H Q E ⟨_, _, _, _, e, _⟩ => by rw [e]; rfl) fun f cdv A outer s H vs Q E hr ⟨v, u, xs, ys, e, ⟨a, ea, ha⟩, ⟨b, eb, hb⟩, hl, hl2, h⟩ => ?_
  subst e ea eb
  refine ⟨_, (pss_one (ps_ret (pe_op op_cat (pe_lc (own := [("_law_one", 2)]) (by rfl) S.nd (pi_tupK (K := K) rfl (pv 0)) (blkOk_by (own := [("_law_one", 2)]) (by kernel_rfl)) (fun _ _ _ _ _ => (pg_name (i := 2) S.nd rfl (Or.inl rfl))) (fun _ _ _ _ _ => (pts_one (pt_cmpR (op_notInK (K := K) rfl) (pv 2) (pv 1) (by rfl)))) (fun _ _ _ _ _ => (pv 2))) (pe_lc (own := [("_law_one", 2)]) (by rfl) S.nd (pi_tupK (K := K) rfl (pv 1)) (blkOk_by (own := [("_law_one", 2)]) (by kernel_rfl)) (fun _ _ _ _ _ => (pg_name (i := 2) S.nd rfl (Or.inl rfl))) (fun _ _ _ _ _ => (pts_one (pt_cmpR (op_notInK (K := K) rfl) (pv 2) (pv 0) (by rfl)))) (fun _ _ _ _ _ => (pv 2)))))), ?_⟩
  walk_at "rd"
  refine ⟨_, rfl, ⟨_, stp ha⟩, fun D hD => ?_⟩
  refine lcTv (fun x => !decide (x ∈ ys)) V.int (stp ha) (F2.ints xs) hD (by omega) (fun x d H3 ex _ s3 R1 R0 r1 r0 => ?_) fun H3 s3 h3 => ?_
  · subst ex
    walk_at "rd"
    refine ⟨rfl, ?_⟩
    walk_at "rd"
    refine rd_inT (stp (s3 _ _ hb)) ?_
    walk_at "rd"
    refine rd_iteN (fun c => ?_) fun c => r0 (by simpa using c) _ (Same.refl _)
    walk_at "rd"
    exact r1 (by simpa using c) _ (Same.refl _)
  walk_at "rd"
  refine ⟨_, rfl, ⟨_, stp (s3 _ _ hb)⟩, fun D2 hD2 => ?_⟩
  refine lcTv (fun x => !decide (x ∈ xs)) V.int (stp (s3 _ _ hb)) (F2.ints ys) hD2 (by omega) (fun x d H4 ex _ s4 R1 R0 r1 r0 => ?_) fun H4 s4 h4 => ?_
  · subst ex
    walk_at "rd"
    refine ⟨rfl, ?_⟩
    walk_at "rd"
    refine rd_inT (stp (s4 _ _ (s3 _ _ ha))) ?_
    walk_at "rd"
    refine rd_iteN (fun c => ?_) fun c => r0 (by simpa using c) _ (Same.refl _)
    walk_at "rd"
    exact r1 (by simpa using c) _ (Same.refl _)
  have q1 := List.length_filter_le (fun x => !decide (x ∈ ys)) xs
  have q2 := List.length_filter_le (fun x => !decide (x ∈ xs)) ys
  refine rd_catL (s4 _ _ h3) h4 (by simp only [List.length_map]; omega) fun p hp => ?_
  walk_at "rd"
  refine h _ _ ((s3.trans s4).trans (Same.new hp)) ?_ ((s3.trans s4).free hp)
  rw [upd_same]
  simp [apart]
/-! ### what a plan costs -/
def prA (ps : List Int) (p : Int) : Int := ps.getD p.toNat 0
def sumBy (f : Int → Int) (xs : List Int) : Int := (xs.map f).sum
theorem sumBy_take {f : Int → Int} {xs : List Int} {i : Nat} {x : Int} (h : xs[i]? = some x) : sumBy f (xs.take (i + 1)) = sumBy f (xs.take i) + f x := by
  rw [take_snoc h]; simp [sumBy]
def cost1 (M : Mod) (g : Int) (ps : List Int) (here nx : List Int) (r : List Int × Int) : Int := sumBy (fun p => prA ps p * szA M p) (apart here nx) + sumBy (fun p => g * r.2 * szA M p) (apart nx r.1)
def costF (M : Mod) (g : Int) (ps : List Int) : List Int → List (List Int) → List (List Int × Int) → Int
  | here, nx :: pl, r :: rs => cost1 M g ps here nx r + costF M g ps nx pl rs
  | _, _, _ => 0
/-- numbers of patches -/
def InN (N : Nat) (xs : List Int) : Prop := xs.length < 1000 ∧ ∀ x ∈ xs, 0 ≤ x ∧ x ≤ N
theorem InN.apart {N : Nat} {a b : List Int} (ha : InN N a) (hb : InN N b) : ∀ x ∈ apart a b, 0 ≤ x ∧ x ≤ N := fun x hx => by
  rcases List.mem_append.mp hx with h | h
  · exact ha.2 x (List.mem_filter.mp h).1
  · exact hb.2 x (List.mem_filter.mp h).1
theorem mul_bd {a b A B : Int} (ha : 0 ≤ a) (hA : a ≤ A) (hb : 0 ≤ b) (hB : b ≤ B) : 0 ≤ a * b ∧ a * b ≤ A * B := ⟨Int.mul_nonneg ha hb, Int.mul_le_mul hA hB hb (by omega)⟩
structure Bd (M : Mod) (N : Nat) (g : Int) (ps : List Int) (rs : List (List Int × Int)) : Prop where
  sz : ∀ z ∈ M.sz, 0 ≤ z ∧ z ≤ 3
  g0 : 0 ≤ g
  g1 : g ≤ 100
  pl : ps.length = N + 1
  ps : ∀ p ∈ ps, 0 ≤ p ∧ p ≤ 2 ^ 50
  rl : rs.length < 1000
  rc : ∀ r ∈ rs, 0 ≤ r.2 ∧ r.2 ≤ 2 ^ 50
  rn : ∀ r ∈ rs, InN N r.1
def spCost : Sp := fun vs H Q _ => ∃ (v vh vr vp : V) (M : Mod) (N : Nat) (home : List Int) (rs : List (List Int × Int)) (pl : List (List Int)) (g : Int) (a : Addr) (ps : List Int), vs = [v, vh, vr, vp, .int g, .ref a] ∧ MR H v M ∧ Sh M N ∧ IT H vh home ∧ Row H vr rs ∧ Plan H vp pl ∧
  H a = some (.lst (iv ps)) ∧ Bd M N g ps rs ∧ InN N home ∧ (∀ x ∈ pl, InN N x) ∧ pl.length = rs.length ∧ ∀ H', Same H H' → Q (.int (costF M g ps home pl rs)) H'
theorem c__law_cost (T : Txt P K mg) : Cal P w K mg base 2 "_law_cost" spCost := by
  have S : FnScope ["_law_model_here", "_law_home", "_law_row_here", "_law_plan_here", "_law_gaze", "_law_prices", "_law_cost_here", "_law_here", "_law_place", "_law_number"] ["_law_model_here", "_law_home", "_law_row_here", "_law_plan_here", "_law_gaze", "_law_prices"] (defScope (top 52)) := ⟨rfl, rfl, rfl, by decide +kernel, rfl, by decide +kernel, by decide +kernel⟩
  refine T.d__law_cost.cal S (fun _ _ _ _ _ _ us hl => match us, hl with | [_, _, _, _, _, _], _ => rfl) (fun vs H Q E ⟨_, _, _, _, _, _, _, _, _, _, _, _, e, _⟩ => by rw [e]; rfl) fun f cdv A0 outer s H vs Q E hr ⟨v, vh, vr, vp, M, N, home, rs, pl, g, a, ps, e, ⟨A, ev, hm⟩, sh, hh, ⟨ar, xr, er, hra, fr⟩, ⟨ap, xp, ep, hpa, fp⟩, ha, bd, hn, pn, hpl, h⟩ => ?_
  subst e ev er ep
  refine ⟨_, (pss_cons (ps_set (i := 6) S.nd rfl (Or.inl rfl) pe_int)
      (pss_cons (ps_set (i := 7) S.nd rfl (Or.inl rfl) (pv 1))
      (pss_cons (ps_for PassesOwn.never rfl (pi_range1 (by rfl) T.b_range (pa_cons (pe_callB (k_lenK (K := K) rfl) (by rfl) T.b_len (by decide +kernel) (pa_cons (pv 2) pa_nil)) pa_nil)) (pg_name (i := 8) S.nd rfl (Or.inl rfl)) (pss_cons (ps_for PassesOwn.never rfl (pi_listK (K := K) rfl (pe_c (c__law_apart T) hr (by decide) (by rfl) (pa_cons (pv 7) (pa_cons (pe_ix (ix_ltK (K := K) rfl) (pv 3) (pv 8) (fun _ _ => rfl)) pa_nil)))) (pg_name (i := 9) S.nd rfl (Or.inl rfl)) (pss_one (ps_set (i := 6) S.nd rfl (Or.inl rfl) (pe_op op_add (pv 6) (pe_op op_mulW (pe_ix (ix_ltK (K := K) rfl) (pv 5) (pv 9) (fun _ _ => rfl)) (pe_ix (ix_ltK (K := K) rfl) (pe_ix (ix_ltK (K := K) rfl) (pv 0) pe_int (fun _ _ => rfl)) (pv 9) (fun _ _ => rfl)))))))
      (pss_cons (ps_set (i := 7) S.nd rfl (Or.inl rfl) (pe_ix (ix_ltK (K := K) rfl) (pv 3) (pv 8) (fun _ _ => rfl)))
      (pss_one (ps_for PassesOwn.never rfl (pi_listK (K := K) rfl (pe_c (c__law_apart T) hr (by decide) (by rfl) (pa_cons (pv 7) (pa_cons (pe_ix (ix_ltK (K := K) rfl) (pe_ix (ix_ltK (K := K) rfl) (pv 2) (pv 8) (fun _ _ => rfl)) pe_int (fun _ _ => rfl)) pa_nil)))) (pg_name (i := 9) S.nd rfl (Or.inl rfl)) (pss_one (ps_set (i := 6) S.nd rfl (Or.inl rfl) (pe_op op_add (pv 6) (pe_op op_mulW (pe_op op_mulW (pv 4) (pe_ix (ix_ltK (K := K) rfl) (pe_ix (ix_ltK (K := K) rfl) (pv 2) (pv 8) (fun _ _ => rfl)) pe_int (fun _ _ => rfl))) (pe_ix (ix_ltK (K := K) rfl) (pe_ix (ix_ltK (K := K) rfl) (pv 0) pe_int (fun _ _ => rfl)) (pv 9) (fun _ _ => rfl)))))))))))
      (pss_one (ps_ret (pv 6)))))), ?_⟩
  walk_at "rd"
  refine rd_for ?_
  walk_at "rd"
  refine rd_lenL (sl hra) ?_
  walk_at "rd"
  refine rg1N rs.length (by rw [fr.length]) (by have := bd.rl; omega) ?_
  refine for_range (fun i σ H' => ∃ (c : Int) (vh' : V) (here : List Int) (x y : Option V), σ = [some (.ref A.m), some vh, some (.ref ar), some (.ref ap), some (.int g), some (.ref a), some (.int c), some vh', x, y] ∧ Same H H' ∧ IT H' vh' here ∧ InN N here ∧
    c + costF M g ps here (pl.drop i) (rs.drop i) = costF M g ps home pl rs) ⟨_, _, _, _, _, rfl, Same.refl _, hh, hn, by simp⟩ ?_ ?_
  · rintro i σ H' hi ⟨c, vh', here, x0, y0, rfl, s1, hh', hn', hc⟩
    have hri : rs[i]? = some rs[i] := List.getElem?_eq_getElem hi
    have hpi : pl[i]? = some (pl[i]'(by omega)) := List.getElem?_eq_getElem _
    generalize pl[i]'(by omega) = nx at hpi
    generalize rs[i] = r at hri
    rw [drop_at hri, drop_at hpi] at hc
    obtain ⟨vn, evn, hnx⟩ := fp.getR hpi
    obtain ⟨vq, evq, a', b', rfl, hq1, hq2⟩ := fr.getR hri
    have nnx := pn nx (List.mem_of_getElem? hpi)
    have nr := bd.rn r (List.mem_of_getElem? hri)
    have cr := bd.rc r (List.mem_of_getElem? hri)
    have hm1 := hm.mono s1
    have ei : (0 : Int) + (i : Int) = ((i : Nat) : Int) := by omega
    walk_at "rd"
    rw [ei]
    refine rd_for ?_
    walk_at "rd"
    refine rd_iL (sl (s1 _ _ hpa)) (atI_nat evn) ?_
    walk_at "rd"
    refine ⟨_, _, _, _, rfl, hh', m_IT _ _ _ _ s1 hnx, hn'.1, nnx.1, fun q H2 s2 h2 _ => ?_⟩
    refine ⟨_, rfl, ⟨_, sl h2⟩, ?_⟩
    refine for_list (xs := iv (apart here nx)) (fun k σ H3 => ∃ (y : Option V), σ = [some (.ref A.m), some vh, some (.ref ar), some (.ref ap), some (.int g), some (.ref a), some (.int (c + sumBy (fun p => prA ps p * szA M p) ((apart here nx).take k))), some vh', some (.int i), y] ∧ H3 = H2) ⟨_, by simp [sumBy]; rfl, rfl⟩ (fun _ _ _ _ ⟨_, _, e⟩ => e ▸ sl h2) ?_ ?_
    · rintro k x σ H3 hx ⟨y, rfl, rfl⟩
      obtain ⟨p, hp, rfl⟩ := F2.getI hx
      have pin := hn'.apart nnx p (List.mem_of_getElem? hp)
      have s12 := s1.trans s2
      have e1 : ps[p.toNat]? = some (prA ps p) := getD_at (by rw [bd.pl]; omega)
      have e2 : M.sz[p.toNat]? = some (szA M p) := getD_at (by rw [sh.sz]; omega)
      have b1 := bd.ps _ (List.mem_of_getElem? e1)
      have b2 := bd.sz _ (List.mem_of_getElem? e2)
      walk_at "rd"
      refine rd_iL (sl (s12 _ _ ha)) (atI_nn pin.1 (by simp [e1]; rfl)) ?_
      walk_at "rd"
      refine rd_iL (sl (hm.mono s12).m) (by rfl) ?_
      walk_at "rd"
      refine rd_iL (sl (hm.mono s12).h2.at_) (atI_nn pin.1 (by simp [e2]; rfl)) ?_
      walk_at "rd"
      refine rd_mul (by omega) (by omega) ?_
      walk_at "rd"
      refine ⟨some (.int p), ?_, rfl⟩
      rw [sumBy_take hp, ← Int.add_assoc]
      rfl
    rintro σ H3 ⟨y, rfl, rfl⟩
    have e0 : (iv (apart here nx)).length = (apart here nx).length := by simp
    rw [e0, List.take_length]
    have s12 := s1.trans s2
    walk_at "rd"
    refine rd_iL (sl (s12 _ _ hpa)) (atI_nat evn) ?_
    walk_at "rd"
    refine rd_for ?_
    walk_at "rd"
    refine rd_iL (sl (s12 _ _ hra)) (atI_nat evq) ?_
    walk_at "rd"
    refine rd_iT (stp (s12 _ _ hq1)) (by rfl) ?_
    walk_at "rd"
    refine ⟨_, _, _, _, rfl, m_IT _ _ _ _ s12 hnx, ⟨_, rfl, s12 _ _ hq2⟩, nnx.1, nr.1, fun q' H4 s4 h4 _ => ?_⟩
    refine ⟨_, rfl, ⟨_, sl h4⟩, ?_⟩
    have s14 := s12.trans s4
    refine for_list (xs := iv (apart nx r.1)) (fun k σ H5 => ∃ (y : Option V), σ = [some (.ref A.m), some vh, some (.ref ar), some (.ref ap), some (.int g), some (.ref a), some (.int (c + sumBy (fun p => prA ps p * szA M p) (apart here nx) + sumBy (fun p => g * r.2 * szA M p) ((apart nx r.1).take k))), some vn, some (.int i), y] ∧ H5 = H4) ⟨_, by simp [sumBy]; rfl, rfl⟩ (fun _ _ _ _ ⟨_, _, e⟩ => e ▸ sl h4) ?_ ?_
    · rintro k x σ H5 hx ⟨y, rfl, rfl⟩
      obtain ⟨p, hp, rfl⟩ := F2.getI hx
      have pin := nnx.apart nr p (List.mem_of_getElem? hp)
      have e2 : M.sz[p.toNat]? = some (szA M p) := getD_at (by rw [sh.sz]; omega)
      have b2 := bd.sz _ (List.mem_of_getElem? e2)
      have b3 := mul_bd bd.g0 bd.g1 cr.1 cr.2
      walk_at "rd"
      refine rd_iL (sl (s14 _ _ hra)) (atI_nat evq) ?_
      walk_at "rd"
      refine rd_iT (v := .int r.2) (stp (s14 _ _ hq1)) (by rfl) ?_
      walk_at "rd"
      have g0 := bd.g0
      have g1 := bd.g1
      refine rd_mul (by omega) (by omega) ?_
      walk_at "rd"
      refine rd_iL (sl (hm.mono s14).m) (by rfl) ?_
      walk_at "rd"
      refine rd_iL (sl (hm.mono s14).h2.at_) (atI_nn pin.1 (by simp [e2]; rfl)) ?_
      walk_at "rd"
      refine rd_mul (by omega) (by omega) ?_
      walk_at "rd"
      refine ⟨some (.int p), ?_, rfl⟩
      rw [sumBy_take hp, ← Int.add_assoc]
      rfl
    rintro σ H5 ⟨y, rfl, rfl⟩
    have e5 : (iv (apart nx r.1)).length = (apart nx r.1).length := by simp
    rw [e5, List.take_length]
    refine ⟨_, _, nx, _, _, rfl, s14, m_IT _ _ _ _ s14 hnx, nnx, ?_⟩
    rw [← hc]
    simp only [costF, cost1]
    omega
  · rintro σ H' ⟨c, vh', here, x0, y0, rfl, s1, hh', hn', hc⟩
    rw [List.drop_length, List.drop_of_length_le (by omega)] at hc
    walk_at "rd"
    have e : c = costF M g ps home pl rs := by simp only [costF] at hc; omega
    rw [e]
    exact h _ s1
end
end LK
set_option maxHeartbeats 4000000
namespace LK
open PySem PySem.Spec PyProof.Rows L2
local macro_rules | `(tactic| walk_at "rd") => `(tactic| (repeat (first
  | with_reducible refine rd_seq ?_
  | with_reducible refine rd_asg ?_
  | with_reducible refine rd_ret ?_
  | with_reducible refine rd_drop ?_
  | with_reducible refine rd_if ?_
  | with_reducible refine rd_next ?_
  | ((with_reducible apply rd_var); (· exact rfl))
  | with_reducible refine rd_c ?_
  | with_reducible refine rd_op ?_
  | with_reducible refine rd_un ?_
  | with_reducible refine rd_I0 ?_
  | with_reducible refine rd_U ?_
  | with_reducible refine rd_eq ?_
  | with_reducible refine rd_ne ?_
  | with_reducible refine rd_neB ?_
  | with_reducible refine rd_asB ?_
  | with_reducible refine rd_test ?_
  | with_reducible refine rd_tB ?_
  | with_reducible refine rd_not ?_
  | with_reducible refine rd_and ?_
  | with_reducible refine rd_or ?_
  | with_reducible refine rd_andV ?_
  | with_reducible refine rd_orV ?_
  | with_reducible refine rd_notV ?_
  | with_reducible refine rd_ifx ?_
  | with_reducible refine rd_chain ?_
  | with_reducible refine rd_nil ?_
  | with_reducible refine rd_cons ?_
  | with_reducible refine rd_call ?_
  | with_reducible refine rd_cb ?_
  | with_reducible refine rd_lst ?_
  | with_reducible refine rd_tup ?_
  | with_reducible refine rd_min ?_
  | with_reducible refine rd_max ?_
  | with_reducible refine rd_abs ?_
  | with_reducible refine rd_int ?_
  | with_reducible refine rd_bm ?_
  | with_reducible refine rd_nt ?_
  | with_reducible refine rd_nf ?_
  | with_reducible refine rd_rg3 ?_
  | with_reducible refine rd_gnil ?_
  | with_reducible refine rd_gcons ?_
  | with_reducible refine rd_yes ?_
  | with_reducible refine rd_tt ?_
  | with_reducible refine rd_ff ?_
  | with_reducible refine rd_fld ?_
  | with_reducible refine rd_meth ?_
  | with_reducible refine rd_rev ?_
  | with_reducible refine rd_callN ?_
  | with_reducible refine rd_rg1 ?_
  | with_reducible refine rd_rg2 ?_
  | with_reducible refine rd_nm ?_
  | with_reducible refine rd_lc ?_
  | with_reducible refine rd_iL' ?_
  | with_reducible refine rd_iT' ?_)))
local macro_rules | `(tactic| walk_at "hp") => `(tactic| (first
  | assumption
  | exact upd_same ..
  | (refine keep_upd (by assumption) ?_; walk_at "hp")
  | (refine same_app (by assumption) ?_; walk_at "hp")))


theorem tog_ff : ∀ (n : Nat) (p : Bool), tog p (List.replicate n false) ≤ 1
  | 0, p => by simp [tog]
  | n + 1, p => by
    have h : tog false (List.replicate n false) ≤ 0 := by
      clear p
      induction n with
      | zero => simp [tog]
      | succ n ih => simp [List.replicate_succ, tog, neg1]; exact ih
    rw [List.replicate_succ]
    cases p <;> simp [tog, neg1] <;> omega
theorem looks_bd {B : Int} (h0 : 0 ≤ B) : ∀ (ws : List Int) (r : List Bool), (∀ w ∈ ws, -B ≤ w ∧ w ≤ B) → looks ws r ≤ B * ws.length
  | [], _, _ => by simp [looks]
  | w :: ws, [], _ => by
    have := Int.mul_nonneg h0 (Int.natCast_nonneg (w :: ws).length)
    simpa [looks] using this
  | w :: ws, b :: r, h => by
    have ih := looks_bd h0 ws r fun w m => h w (List.mem_cons_of_mem _ m)
    have hw := h w List.mem_cons_self
    have e : B * ((w :: ws).length : Nat) = B * ws.length + B := by simp [Int.mul_add]
    rw [e]
    simp only [looks, lk]
    split <;> omega
theorem solo_bd {B t : Int} (ht : 0 ≤ t) (hB : 0 ≤ B) (ws : List Int) (st : Bool) (h : ∀ w ∈ ws, -B ≤ w ∧ w ≤ B) : 0 ≤ solo st ws t ∧ solo st ws t ≤ t + B * ws.length := by
  constructor
  · obtain ⟨r, hl, hr⟩ := solo_is ht st ws
    have a := Int.mul_nonneg ht (tog_nonneg r st)
    have b := looks_nonneg ws r
    omega
  · have a := solo_le ht st ws (List.replicate ws.length false) (by simp)
    have b := Int.mul_le_mul_of_nonneg_left (tog_ff ws.length st) ht
    have c := looks_bd hB ws (List.replicate ws.length false) h
    omega
section
variable {P : Program} {w : World} {K : PySem.W.Frag} {mg : Str → Option Value} {base : Heap}
/-- the patches' numbers -/
def upto (N : Nat) : List Int := (List.range N).map fun i : Nat => (i : Int) + 1
def sumF (M : Mod) (N : Nat) (g : Int) (ps : List Int) (home : List Int) (rs : List (List Int × Int)) : Int := sumBy (fun p => szA M p * solo (decide (p ∈ home)) ((votes p rs).map (g * ·)) (prA ps p)) (upto N)
theorem upto_at {N i : Nat} (h : i < N) : (upto N)[i]? = some ((i : Int) + 1) := by simp [upto, h]
theorem upto_length (N : Nat) : (upto N).length = N := by simp [upto]
def spSum : Sp := fun vs H Q _ => ∃ (v vh vr : V) (M : Mod) (N : Nat) (home : List Int) (rs : List (List Int × Int)) (g : Int) (a : Addr) (ps : List Int), vs = [v, vh, vr, .int g, .ref a] ∧ MR H v M ∧ Sh M N ∧ IT H vh home ∧ Row H vr rs ∧
  H a = some (.lst (iv ps)) ∧ Bd M N g ps rs ∧ ∀ H', Same H H' → Q (.int (sumF M N g ps home rs)) H'
theorem votes_bd {rs : List (List Int × Int)} {g B C : Int} (p : Int) (g0 : 0 ≤ g) (g1 : g ≤ C) (h : ∀ r ∈ rs, 0 ≤ r.2 ∧ r.2 ≤ B) : ∀ x ∈ (votes p rs).map (g * ·), -(C * B) ≤ x ∧ x ≤ C * B := by
  intro x hx
  obtain ⟨y, hy, rfl⟩ := List.mem_map.mp hx
  obtain ⟨r, hr, rfl⟩ := List.mem_map.mp hy
  have b := h r hr
  have c := mul_bd g0 g1 b.1 b.2
  show -(C * B) ≤ g * _ ∧ g * _ ≤ C * B
  by_cases d : p ∈ r.1
  · rw [if_pos d]; omega
  · rw [if_neg d, Int.mul_neg]; omega
theorem c__law_sum (T : Txt P K mg) : Cal P w K mg base 2 "_law_sum" spSum := by
  have S : FnScope ["_law_model_here", "_law_home", "_law_row_here", "_law_gaze", "_law_prices", "_law_total", "_law_number", "_law_weights", "_law_entry"] ["_law_model_here", "_law_home", "_law_row_here", "_law_gaze", "_law_prices"] (defScope (top 54)) := ⟨rfl, rfl, rfl, by decide +kernel, rfl, by decide +kernel, by decide +kernel⟩
  refine T.d__law_sum.cal S (fun _ _ _ _ _ _ us hl => match us, hl with | [_, _, _, _, _], _ => rfl) (fun vs H Q E ⟨_, _, _, _, _, _, _, _, _, _, e, _⟩ => by rw [e]; rfl) fun f cdv A0 outer s H vs Q E hr ⟨v, vh, vr, M, N, home, rs, g, a, ps, e, ⟨A, ev, hm⟩, sh, ⟨ah, eh, hh⟩, ⟨ar, xr, er, hra, fr⟩, ha, bd, h⟩ => ?_
  subst e ev eh er
  refine ⟨_, (pss_cons (ps_set (i := 5) S.nd rfl (Or.inl rfl) pe_int)
      (pss_cons (ps_for PassesOwn.never rfl (pi_range2 (by rfl) T.b_range (pa_cons pe_int (pa_cons (pe_callB (k_lenK (K := K) rfl) (by rfl) T.b_len (by decide +kernel) (pa_cons (pe_ix (ix_ltK (K := K) rfl) (pv 0) pe_int (fun _ _ => rfl)) pa_nil)) pa_nil))) (pg_name (i := 6) S.nd rfl (Or.inr rfl)) (pss_cons (ps_setLc (i := 7) (own := [("_law_entry", 8)]) (by rfl) S.nd rfl rfl (sw_true rfl rfl rfl (by decide +kernel)) (pi_listK (K := K) rfl (pv 2)) (blkOk_by (own := [("_law_entry", 8)]) (by kernel_rfl)) (fun _ _ _ _ _ => (pg_name (i := 8) S.nd rfl (Or.inl rfl))) (fun _ _ _ _ _ => pts_nil) (fun _ _ _ _ _ => (pe_ifExp (pt_cmpR (op_inK (K := K) rfl) (pv 6) (pe_ix (ix_ltK (K := K) rfl) (pv 8) pe_int (fun _ _ => rfl)) (by rfl)) (pe_op op_mulW (pv 3) (pe_ix (ix_ltK (K := K) rfl) (pv 8) pe_int (fun _ _ => rfl))) (pe_op op_sub pe_int (pe_op op_mulW (pv 3) (pe_ix (ix_ltK (K := K) rfl) (pv 8) pe_int (fun _ _ => rfl)))))))
      (pss_one (ps_set (i := 5) S.nd rfl (Or.inl rfl) (pe_op op_add (pv 5) (pe_op op_mulW (pe_ix (ix_ltK (K := K) rfl) (pe_ix (ix_ltK (K := K) rfl) (pv 0) pe_int (fun _ _ => rfl)) (pv 6) (fun _ _ => rfl)) (pe_c (c__law_solo T) hr (by decide) (by rfl) (pa_cons (pe_cmpR (op_inK (K := K) rfl) (pv 6) (pv 1) (by rfl)) (pa_cons (pv 7) (pa_cons (pe_ix (ix_ltK (K := K) rfl) (pv 4) (pv 6) (fun _ _ => rfl)) pa_nil))))))))))
      (pss_one (ps_ret (pv 5))))), ?_⟩
  obtain ⟨xs1, h1, f1⟩ := hm.h1.at_
  walk_at "rd"
  refine rd_for ?_
  walk_at "rd"
  refine rd_iL (sl hm.m) (by rfl) ?_
  walk_at "rd"
  refine rd_lenL (sl h1) ?_
  walk_at "rd"
  refine rg2N N (by rw [f1.length, sh.wr]; omega) (by omega) (by omega) (by have := sh.n; omega) ?_
  refine for_range (fun i σ H' => ∃ (x y : Option V), σ = [some (.ref A.m), some (.ref ah), some (.ref ar), some (.int g), some (.ref a), some (.int (sumBy (fun p => szA M p * solo (decide (p ∈ home)) ((votes p rs).map (g * ·)) (prA ps p)) ((upto N).take i))), x, y, none] ∧ Same H H') ⟨_, _, by simp [sumBy]; rfl, Same.refl _⟩ ?_ ?_
  · rintro i σ H' hi ⟨x0, y0, rfl, s1⟩
    have en : (1 : Int) + (i : Int) = (i : Int) + 1 := by omega
    walk_at "rd"
    rw [en]
    refine ⟨_, rfl, ⟨_, sl (s1 _ _ hra)⟩, fun D hD => ?_⟩
    have bl := bd.rl
    refine lcDv (fun _ => true) (fun r => .int (g * (if (i : Int) + 1 ∈ r.1 then r.2 else -r.2))) (sl (s1 _ _ hra)) fr hD (by omega) (fun x r H3 ⟨a', b', ex, q1, q2⟩ hrm s3 R1 R0 r1 r0 => ?_) fun H3 s3 h3 => ?_
    · subst ex
      have s13 := s1.trans s3
      have cr := bd.rc r hrm
      have g0 := bd.g0
      have g1 := bd.g1
      walk_at "rd"
      refine ⟨rfl, ?_⟩
      walk_at "rd"
      refine rd_iT (v := .ref b') (stp (s13 _ _ q1)) (by rfl) ?_
      walk_at "rd"
      refine rd_inT (stp (s13 _ _ q2)) ?_
      walk_at "rd"
      refine rd_ite (fun c => ?_) fun c => ?_
      · walk_at "rd"
        refine rd_iT (v := .int r.2) (stp (s13 _ _ q1)) (by rfl) ?_
        walk_at "rd"
        refine rd_mul (by omega) (by omega) ?_
        have := r1 rfl _ (Same.refl _)
        rw [if_pos c] at this
        exact this
      · walk_at "rd"
        refine rd_iT (v := .int r.2) (stp (s13 _ _ q1)) (by rfl) ?_
        walk_at "rd"
        refine rd_mul (by omega) (by omega) ?_
        walk_at "rd"
        have := r1 rfl _ (Same.refl _)
        rw [if_neg c, Int.mul_neg] at this
        rw [Int.zero_sub]
        exact this
    · have s13 := s1.trans s3
      have e3 : H3 D = some (.lst (iv ((votes ((i : Int) + 1) rs).map (g * ·)))) := by
        rw [h3, filter_tt]; simp [votes]
      have z1 : M.sz[((i : Int) + 1).toNat]? = some (szA M ((i : Int) + 1)) := getD_at (by rw [sh.sz]; omega)
      have z2 : ps[((i : Int) + 1).toNat]? = some (prA ps ((i : Int) + 1)) := getD_at (by rw [bd.pl]; omega)
      have b1 := bd.sz _ (List.mem_of_getElem? z1)
      have b2 := bd.ps _ (List.mem_of_getElem? z2)
      have b3 := solo_bd b2.1 (B := 100 * 2 ^ 50) (by omega) _ (decide ((i : Int) + 1 ∈ home)) (votes_bd ((i : Int) + 1) bd.g0 bd.g1 bd.rc)
      have b4 : (((votes ((i : Int) + 1) rs).map (g * ·)).length : Int) ≤ 1000 := by simp [votes]; omega
      have b5 : 100 * 2 ^ 50 * (((votes ((i : Int) + 1) rs).map (g * ·)).length : Int) ≤ 100 * 2 ^ 50 * 1000 := Int.mul_le_mul_of_nonneg_left b4 (by omega)
      walk_at "rd"
      refine rd_iL (sl (hm.mono s13).m) (by rfl) ?_
      walk_at "rd"
      refine rd_iL (sl (hm.mono s13).h2.at_) (atI_nn (by omega) (by simp only [List.getElem?_map, z1]; rfl)) ?_
      walk_at "rd"
      refine rd_inT (stp (s13 _ _ hh)) ?_
      walk_at "rd"
      refine rd_iL (sl (s13 _ _ ha)) (atI_nn (by omega) (by simp only [List.getElem?_map, z2]; rfl)) ?_
      walk_at "rd"
      refine ⟨_, _, _, _, rfl, sl e3, ?_⟩
      refine rd_mul (by omega) (by simp only [Bool.false_eq_true, if_false]; omega) ?_
      walk_at "rd"
      rw [sumBy_take (upto_at hi)]
      exact ⟨_, _, rfl, s13⟩
  · rintro σ H' ⟨x0, y0, rfl, s1⟩
    walk_at "rd"
    have e : (upto N).take N = upto N := List.take_of_length_le (by rw [upto_length]; exact Nat.le_refl _)
    rw [e]
    exact h _ s1
/-! ### the plan due -/
def rowsF (N : Nat) (home : List Int) (rs : List (List Int × Int)) (t : Int) : List (List Bool) := (upto N).map fun p => sides (decide (p ∈ home)) (four (votes p rs)) t
def planF (N : Nat) (home : List Int) (rs : List (List Int × Int)) (t : Int) : List (List Int) := homes rs.length (rowsF N home rs t)
theorem rowsF_length (N : Nat) (home : List Int) (rs : List (List Int × Int)) (t : Int) : (rowsF N home rs t).length = N := by simp [rowsF, upto]
theorem rowsF_at {N : Nat} {home : List Int} {rs : List (List Int × Int)} {t : Int} {i : Nat} (h : i < N) : (rowsF N home rs t)[i]? = some (sides (decide ((i : Int) + 1 ∈ home)) (four (votes ((i : Int) + 1) rs)) t) := by
  unfold rowsF; rw [List.getElem?_map, upto_at h]; rfl
theorem rowsF_len {N : Nat} {home : List Int} {rs : List (List Int × Int)} {t : Int} : ∀ r ∈ rowsF N home rs t, r.length = rs.length := fun r hr => by
  obtain ⟨p, _, rfl⟩ := List.mem_map.mp hr
  rw [sides_length]; simp [four, votes]
def spPlan : Sp := fun vs H Q _ => ∃ (v vh vr : V) (M : Mod) (N : Nat) (home : List Int) (rs : List (List Int × Int)) (t : Int), vs = [v, vh, vr, .int 4, .int t] ∧ MR H v M ∧ Sh M N ∧ IT H vh home ∧ Row H vr rs ∧ rs.length < 1000 ∧ (∀ r ∈ rs, 0 ≤ r.2 ∧ r.2 ≤ 2 ^ 50) ∧ 0 ≤ t ∧
  ∀ q H', Same H H' → Plan H' (.ref q) (planF N home rs t) → H q = none → Q (.ref q) H'
theorem c__law_plan (T : Txt P K mg) : Cal P w K mg base 2 "_law_plan" spPlan := by
  have S : FnScope ["_law_model_here", "_law_home", "_law_row_here", "_law_gaze", "_law_price", "_law_sides_here", "_law_number", "_law_weights", "_law_place", "_law_entry", "_law_one"] ["_law_model_here", "_law_home", "_law_row_here", "_law_gaze", "_law_price"] (defScope (top 63)) := ⟨rfl, rfl, rfl, by decide +kernel, rfl, by decide +kernel, by decide +kernel⟩
  refine T.d__law_plan.cal S (fun _ _ _ _ _ _ us hl => match us, hl with | [_, _, _, _, _], _ => rfl) (fun vs H Q E ⟨_, _, _, _, _, _, _, _, e, _⟩ => by rw [e]; rfl) fun f cdv A0 outer s H vs Q E hr ⟨v, vh, vr, M, N, home, rs, t, e, ⟨A, ev, hm⟩, sh, ⟨ah, eh, hh⟩, ⟨ar, xr, er, hra, fr⟩, rl, rc, ht, h⟩ => ?_
  subst e ev eh er
  refine ⟨_, (pss_cons (ps_set (i := 5) S.nd rfl (Or.inr rfl) (pe_lst (pa_cons (pe_lst pa_nil) pa_nil)))
      (pss_cons (ps_for PassesOwn.never rfl (pi_range2 (by rfl) T.b_range (pa_cons pe_int (pa_cons (pe_callB (k_lenK (K := K) rfl) (by rfl) T.b_len (by decide +kernel) (pa_cons (pe_ix (ix_ltK (K := K) rfl) (pv 0) pe_int (fun _ _ => rfl)) pa_nil)) pa_nil))) (pg_name (i := 6) S.nd rfl (Or.inr rfl)) (pss_cons (ps_setLc (i := 7) (own := [("_law_entry", 9)]) (by rfl) S.nd rfl rfl (sw_true rfl rfl rfl (by decide +kernel)) (pi_listK (K := K) rfl (pv 2)) (blkOk_by (own := [("_law_entry", 9)]) (by kernel_rfl)) (fun _ _ _ _ _ => (pg_name (i := 9) S.nd rfl (Or.inl rfl))) (fun _ _ _ _ _ => pts_nil) (fun _ _ _ _ _ => (pe_ifExp (pt_cmpR (op_inK (K := K) rfl) (pv 6) (pe_ix (ix_ltK (K := K) rfl) (pv 9) pe_int (fun _ _ => rfl)) (by rfl)) (pe_op op_mulW (pv 3) (pe_ix (ix_ltK (K := K) rfl) (pv 9) pe_int (fun _ _ => rfl))) (pe_op op_sub pe_int (pe_op op_mulW (pv 3) (pe_ix (ix_ltK (K := K) rfl) (pv 9) pe_int (fun _ _ => rfl)))))))
      (pss_one (ps_expr (pe_appK (K := K) rfl (pv 5) (pa_cons (pe_c (c__law_sides T) hr (by decide) (by rfl) (pa_cons (pe_cmpR (op_inK (K := K) rfl) (pv 6) (pv 1) (by rfl)) (pa_cons (pv 7) (pa_cons (pv 4) pa_nil)))) pa_nil))))))
      (pss_one (ps_ret (pe_lc (own := [("_law_place", 8)]) (by rfl) S.nd (pi_range1 (by rfl) T.b_range (pa_cons (pe_callB (k_lenK (K := K) rfl) (by rfl) T.b_len (by decide +kernel) (pa_cons (pv 2) pa_nil)) pa_nil)) (blkOk_by (own := [("_law_place", 8)]) (by kernel_rfl)) (fun _ _ _ _ _ => (pg_name (i := 8) S.nd rfl (Or.inr rfl))) (fun _ _ _ _ _ => pts_nil) (fun _ _ _ _ _ => (pe_callTy (k_tupK (K := K) rfl) (by rfl) T.b_tuple (by decide +kernel) (pa_cons (pe_lc (own := [("_law_one", 10)]) (by rfl) S.nd (pi_range2 (by rfl) T.b_range (pa_cons pe_int (pa_cons (pe_callB (k_lenK (K := K) rfl) (by rfl) T.b_len (by decide +kernel) (pa_cons (pe_ix (ix_ltK (K := K) rfl) (pv 0) pe_int (fun _ _ => rfl)) pa_nil)) pa_nil))) (blkOk_by (own := [("_law_one", 10)]) (by kernel_rfl)) (fun _ _ _ _ _ => (pg_name (i := 10) S.nd rfl (Or.inl rfl))) (fun _ _ _ _ _ => (pts_one (pt_val (pe_ix (ix_ltK (K := K) rfl) (pe_ix (ix_ltK (K := K) rfl) (pv 5) (pv 10) (fun _ _ => rfl)) (pv 8) (fun _ _ => rfl))))) (fun _ _ _ _ _ => (pv 10))) pa_nil)))))))), ?_⟩
  walk_at "rd"
  refine ⟨ll (by simp), fun e0 he0 => ?_⟩
  walk_at "rd"
  refine ⟨ll (by simp), fun q hq => ?_⟩
  have hqH : H q = none := none_of_upd hq
  have s0 : Same H (upd (upd H e0 (.lst [])) q (.lst [.ref e0])) := (Same.new he0).trans (Same.new hq)
  have t0 : Told BL q [[]] (upd (upd H e0 (.lst [])) q (.lst [.ref e0])) := ⟨[.ref e0], upd_same .., .cons ((Ap.one (P := fun G => BL G (.ref e0) []) (Ne.symm (ne_of_upd hq)) ⟨e0, rfl, upd_same ..⟩).upd) .nil⟩
  walk_at "rd"
  refine rd_for ?_
  walk_at "rd"
  obtain ⟨xs1, h1, f1⟩ := hm.h1.at_
  refine rd_iL (sl (s0 _ _ hm.m)) (by rfl) ?_
  walk_at "rd"
  refine rd_lenL (sl (s0 _ _ h1)) ?_
  walk_at "rd"
  have l1 : (xs1.length : Int) = 1 + (N : Nat) := by rw [f1.length, sh.wr]; omega
  refine rg2N N l1 (by omega) (by omega) (by have := sh.n; omega) ?_
  refine for_range (fun i σ H' => ∃ (x y : Option V), σ = [some (.ref A.m), some (.ref ah), some (.ref ar), some (.int 4), some (.int t), some (.ref q), x, y, none, none, none] ∧ Same H H' ∧ Told BL q ([] :: (rowsF N home rs t).take i) H') ⟨_, _, rfl, s0, t0⟩ ?_ ?_
  · rintro i σ H' hi ⟨x0, y0, rfl, s1, t1⟩
    have en : (1 : Int) + (i : Int) = (i : Int) + 1 := by omega
    walk_at "rd"
    rw [en]
    refine ⟨_, rfl, ⟨_, sl (s1 _ _ hra)⟩, fun D hD => ?_⟩
    refine lcDv (fun _ => true) (fun r => .int (4 * (if (i : Int) + 1 ∈ r.1 then r.2 else -r.2))) (sl (s1 _ _ hra)) fr hD (by omega) (fun x r H3 ⟨a', b', ex, q1, q2⟩ hrm s3 R1 R0 r1 r0 => ?_) fun H3 s3 h3 => ?_
    · subst ex
      have s13 := s1.trans s3
      have cr := rc r hrm
      walk_at "rd"
      refine ⟨rfl, ?_⟩
      walk_at "rd"
      refine rd_iT (v := .ref b') (stp (s13 _ _ q1)) (by rfl) ?_
      walk_at "rd"
      refine rd_inT (stp (s13 _ _ q2)) ?_
      walk_at "rd"
      refine rd_ite (fun c => ?_) fun c => ?_
      · walk_at "rd"
        refine rd_iT (v := .int r.2) (stp (s13 _ _ q1)) (by rfl) ?_
        walk_at "rd"
        refine rd_mul (by omega) (by omega) ?_
        have := r1 rfl _ (Same.refl _)
        rw [if_pos c] at this
        exact this
      · walk_at "rd"
        refine rd_iT (v := .int r.2) (stp (s13 _ _ q1)) (by rfl) ?_
        walk_at "rd"
        refine rd_mul (by omega) (by omega) ?_
        walk_at "rd"
        have := r1 rfl _ (Same.refl _)
        rw [if_neg c, Int.mul_neg] at this
        rw [Int.zero_sub]
        exact this
    · have s13 := s1.trans s3
      have e3 : H3 D = some (.lst (iv (four (votes ((i : Int) + 1) rs)))) := by
        rw [h3, filter_tt]; simp [votes, four]
      have t3 := t1.mono s3
      walk_at "rd"
      refine t3.ty ?_
      walk_at "rd"
      refine rd_inT (stp (s13 _ _ hh)) ?_
      walk_at "rd"
      refine ⟨_, _, _, _, rfl, sl e3, by simp [four, votes]; exact rl, ht, fun z H4 s4 h4 hz => ?_⟩
      walk_at "rd"
      have hzq : z ≠ q := t3.ne hz
      refine (t3.mono s4).push (by have := sh.n; simp [rowsF_length]; omega) (d := sides (decide ((i : Int) + 1 ∈ home)) (four (votes ((i : Int) + 1) rs)) t) ⟨upd (fun _ => none) z (.lst (bv (sides (decide ((i : Int) + 1 ∈ home)) (four (votes ((i : Int) + 1) rs)) t))), ?_, ?_, z, rfl, upd_same ..⟩ fun H5 k5 t5 => ?_
      · intro b u hb
        by_cases c : b = z
        · subst c; rw [upd_same] at hb; rw [← hb]; exact h4
        · rw [upd_ne c] at hb; cases hb
      · rw [upd_ne (Ne.symm hzq)]
      · rw [take_snoc (rowsF_at hi)]
        exact ⟨_, _, rfl, Same.of_ne (s13.trans s4) hqH k5, t5⟩
  · rintro σ H' ⟨x0, y0, rfl, s1, t1⟩
    rw [List.take_of_length_le (by rw [rowsF_length]; exact Nat.le_refl _)] at t1
    obtain ⟨xq, hq1, fq⟩ := (t1.end_ m_BL).at_
    walk_at "rd"
    refine rd_lenL (sl (s1 _ _ hra)) ?_
    walk_at "rd"
    refine rg1N rs.length (by rw [fr.length]) (by omega) fun D hD => ?_
    have pl : (planF N home rs t).length = rs.length := homes_length _ _
    refine lcR (fun _ => true) (fun j y G => IT G y ((planF N home rs t).getD j [])) hD (by omega) (fun j y G G' s' q => m_IT _ _ _ _ s' q) (fun j H3 hj s3 nD R1 R0 r1 r0 => ?_) fun H3 ys s3 h3 f3 => ?_
    · have s13 := s1.trans s3
      have ej : (0 : Int) + (j : Int) = (j : Int) := by omega
      rw [ej]
      walk_at "rd"
      refine ⟨rfl, ?_⟩
      walk_at "rd"
      refine rd_iL (sl (s13 _ _ hm.m)) (by rfl) ?_
      walk_at "rd"
      refine rd_lenL (sl (s13 _ _ h1)) ?_
      walk_at "rd"
      refine rg2N N l1 (by omega) (by omega) (by have := sh.n; omega) fun D2 hD2 => ?_
      refine lcRv (fun k => ((rowsF N home rs t).getD k []).getD j false) (fun k => .int ((k : Int) + 1)) hD2 (by have := sh.n; omega) (fun k H4 hk s4 R1' R0' r1' r0' => ?_) fun H4 s4 h4 => ?_
      · have hk2 : k < (rowsF N home rs t).length := by rw [rowsF_length]; exact hk
        have ek := getD_at (xs := rowsF N home rs t) (d := []) hk2
        obtain ⟨vk, evk, bk, rfl, hbk⟩ := fq.getR (i := k + 1) (y := (rowsF N home rs t).getD k []) (by simpa using ek)
        have lk := rowsF_len _ (List.mem_of_getElem? ek)
        have s34 := s3.trans s4
        have en : (1 : Int) + (k : Int) = (k : Int) + 1 := by omega
        walk_at "rd"
        rw [en]
        refine ⟨rfl, ?_⟩
        walk_at "rd"
        refine rd_iL (sl (s34 _ _ hq1)) (atI_nn (by omega) (by rw [show ((k : Int) + 1).toNat = k + 1 by omega]; exact evk)) ?_
        walk_at "rd"
        refine rd_iL (v := .bl (((rowsF N home rs t).getD k []).getD j false)) (sl (s34 _ _ hbk)) (atI_nn (by omega) (by rw [Int.toNat_natCast, List.getElem?_map, getD_at (xs := (rowsF N home rs t).getD k []) (d := false) (by omega)]; rfl)) ?_
        walk_at "rd"
        refine rd_iteb (fun c => ?_) fun c => r0' c _ (Same.refl _)
        walk_at "rd"
        exact r1' c _ (Same.refl _)
      · walk_at "rd"
        refine rd_tupL (sl h4) fun l hl => ?_
        refine r1 rfl _ _ (s4.trans (Same.new hl)) (.one (fun z => nD (by rw [← z]; exact s4.free hl)) ⟨l, rfl, ?_⟩)
        rw [upd_same]
        have e9 : (planF N home rs t).getD j [] = ((List.range N).filter fun k => ((rowsF N home rs t).getD k []).getD j false).map fun (k : Nat) => (k : Int) + 1 := by
          have z : (planF N home rs t)[j]? = some (((List.range N).filter fun k => ((rowsF N home rs t).getD k []).getD j false).map fun (k : Nat) => (k : Int) + 1) := by
            unfold planF homes; rw [List.getElem?_map, List.getElem?_range hj, rowsF_length]; rfl
          rw [List.getD_eq_getElem?_getD, z]; rfl
        rw [e9]
        simp [Function.comp_def]
    · walk_at "rd"
      refine h _ _ (s1.trans s3) ⟨D, ys, rfl, h3, ?_⟩ (s1.free hD)
      rw [filter_tt] at f3
      have e8 : planF N home rs t = (List.range rs.length).map fun j => (planF N home rs t).getD j [] := by
        refine List.ext_getElem? fun j => ?_
        by_cases hj : j < rs.length
        · rw [List.getElem?_map, List.getElem?_range hj, getD_at (by rw [pl]; exact hj)]; rfl
        · rw [List.getElem?_eq_none (by omega), List.getElem?_eq_none (by simp; omega)]
      rw [e8]
      exact F2.flip (F2.mapL (f := fun j => (planF N home rs t).getD j []) (R := fun d y => IT H3 y d) f3)
end
end LK
set_option maxHeartbeats 4000000
namespace LK
open PySem PySem.Spec PyProof.Rows L2
local macro_rules | `(tactic| walk_at "rd") => `(tactic| (repeat (first
  | with_reducible refine rd_seq ?_
  | with_reducible refine rd_asg ?_
  | with_reducible refine rd_ret ?_
  | with_reducible refine rd_drop ?_
  | with_reducible refine rd_if ?_
  | with_reducible refine rd_next ?_
  | ((with_reducible apply rd_var); (· exact rfl))
  | with_reducible refine rd_c ?_
  | with_reducible refine rd_op ?_
  | with_reducible refine rd_un ?_
  | with_reducible refine rd_I0 ?_
  | with_reducible refine rd_U ?_
  | with_reducible refine rd_eq ?_
  | with_reducible refine rd_ne ?_
  | with_reducible refine rd_neB ?_
  | with_reducible refine rd_asB ?_
  | with_reducible refine rd_test ?_
  | with_reducible refine rd_tB ?_
  | with_reducible refine rd_not ?_
  | with_reducible refine rd_and ?_
  | with_reducible refine rd_or ?_
  | with_reducible refine rd_andV ?_
  | with_reducible refine rd_orV ?_
  | with_reducible refine rd_notV ?_
  | with_reducible refine rd_ifx ?_
  | with_reducible refine rd_chain ?_
  | with_reducible refine rd_nil ?_
  | with_reducible refine rd_cons ?_
  | with_reducible refine rd_call ?_
  | with_reducible refine rd_cb ?_
  | with_reducible refine rd_lst ?_
  | with_reducible refine rd_tup ?_
  | with_reducible refine rd_min ?_
  | with_reducible refine rd_max ?_
  | with_reducible refine rd_abs ?_
  | with_reducible refine rd_int ?_
  | with_reducible refine rd_bm ?_
  | with_reducible refine rd_nt ?_
  | with_reducible refine rd_nf ?_
  | with_reducible refine rd_rg3 ?_
  | with_reducible refine rd_gnil ?_
  | with_reducible refine rd_gcons ?_
  | with_reducible refine rd_yes ?_
  | with_reducible refine rd_tt ?_
  | with_reducible refine rd_ff ?_
  | with_reducible refine rd_fld ?_
  | with_reducible refine rd_meth ?_
  | with_reducible refine rd_rev ?_
  | with_reducible refine rd_callN ?_
  | with_reducible refine rd_rg1 ?_
  | with_reducible refine rd_rg2 ?_
  | with_reducible refine rd_nm ?_
  | with_reducible refine rd_lc ?_
  | with_reducible refine rd_iL' ?_
  | with_reducible refine rd_iT' ?_)))
local macro_rules | `(tactic| walk_at "hp") => `(tactic| (first
  | assumption
  | exact upd_same ..
  | (refine keep_upd (by assumption) ?_; walk_at "hp")
  | (refine same_app (by assumption) ?_; walk_at "hp")))


/-- the same data, k deep -/
inductive Eqv (H : Hp) : Nat → V → V → Prop
  | int {k : Nat} (n : Int) : Eqv H k (.int n) (.int n)
  | lst {k : Nat} {a b : Addr} {xs ys : List V} (ha : H a = some (.lst xs)) (hb : H b = some (.lst ys)) (hl : xs.length = ys.length) (hn : xs.length < 100000) (h : ∀ (i : Nat) (x y : V), xs[i]? = some x → ys[i]? = some y → Eqv H k x y) : Eqv H (k + 1) (.ref a) (.ref b)
  | tup {k : Nat} {a b : Addr} {xs ys : List V} (ha : H a = some (.tup xs)) (hb : H b = some (.tup ys)) (hl : xs.length = ys.length) (hn : xs.length < 100000) (h : ∀ (i : Nat) (x y : V), xs[i]? = some x → ys[i]? = some y → Eqv H k x y) : Eqv H (k + 1) (.ref a) (.ref b)
theorem Eqv.ints {H : Hp} {k : Nat} {ns : List Int} : ∀ (i : Nat) (x y : V), (iv ns)[i]? = some x → (iv ns)[i]? = some y → Eqv H k x y := fun i x y hx hy => by
  obtain ⟨n, _, rfl⟩ := F2.getI hx
  rw [hx] at hy; cases hy
  exact .int n
theorem Eqv.il {H : Hp} {k : Nat} {u v : V} {ns : List Int} (hl : ns.length < 100000) (h1 : IL H u ns) (h2 : IL H v ns) : Eqv H (k + 1) u v := by
  obtain ⟨a, rfl, ha⟩ := h1
  obtain ⟨b, rfl, hb⟩ := h2
  exact .lst ha hb rfl (by simpa using hl) Eqv.ints
theorem Eqv.it {H : Hp} {k : Nat} {u v : V} {ns : List Int} (hl : ns.length < 100000) (h1 : IT H u ns) (h2 : IT H v ns) : Eqv H (k + 1) u v := by
  obtain ⟨a, rfl, ha⟩ := h1
  obtain ⟨b, rfl, hb⟩ := h2
  exact .tup ha hb rfl (by simpa using hl) Eqv.ints
theorem Eqv.ll {α : Type} {R : Hp → V → α → Prop} {H : Hp} {k : Nat} {u v : V} {ds : List α} (hl : ds.length < 100000) (h1 : LL R H u ds) (h2 : LL R H v ds) (hr : ∀ x y d, d ∈ ds → R H x d → R H y d → Eqv H k x y) : Eqv H (k + 1) u v := by
  obtain ⟨a, xs, rfl, ha, fx⟩ := h1
  obtain ⟨b, ys, rfl, hb, fy⟩ := h2
  refine .lst ha hb (by rw [fx.length, fy.length]) (by rw [fx.length]; exact hl) fun i x y hx hy => ?_
  obtain ⟨d, hd, r1⟩ := fx.get hx
  obtain ⟨d', hd', r2⟩ := fy.get hy
  rw [hd] at hd'; cases hd'
  exact hr x y d (List.mem_of_getElem? hd) r1 r2
theorem Eqv.rq {H : Hp} {k : Nat} {u v : V} {r : List Int × Int} (hl : r.1.length < 100000) (h1 : Rq H u r) (h2 : Rq H v r) : Eqv H (k + 2) u v := by
  obtain ⟨a, b, rfl, ha, hb⟩ := h1
  obtain ⟨a', b', rfl, ha', hb'⟩ := h2
  refine .tup ha ha' rfl (by simp) fun i x y hx hy => ?_
  match i with
  | 0 =>
    simp at hx hy; subst hx hy
    exact .it hl ⟨_, rfl, hb⟩ ⟨_, rfl, hb'⟩
  | 1 =>
    simp at hx hy; subst hx hy
    exact .int _
  | i + 2 => simp at hx
theorem Eqv.row {H : Hp} {k : Nat} {u v : V} {rs : List (List Int × Int)} (hl : rs.length < 100000) (hr : ∀ r ∈ rs, r.1.length < 100000) (h1 : Row H u rs) (h2 : Row H v rs) : Eqv H (k + 3) u v := .ll hl h1 h2 fun _ _ d m a b => .rq (hr d m) a b
theorem Eqv.plan {H : Hp} {k : Nat} {u v : V} {ps : List (List Int)} (hl : ps.length < 100000) (hr : ∀ r ∈ ps, r.length < 100000) (h1 : Plan H u ps) (h2 : Plan H v ps) : Eqv H (k + 2) u v := .ll hl h1 h2 fun _ _ d m a b => .it (hr d m) a b
section
variable {P : Program} {w : World} {K : PySem.W.Frag} {mg : Str → Option Value} {base : Heap}
def spAlike (k : Nat) : Sp := fun vs H Q _ => ∃ u v : V, vs = [u, v] ∧ Eqv H k u v ∧ Q (.bl true) H
theorem c__law_alike0 (T : Txt P K mg) : ∀ k, Cal P w K mg base (k + 1) "_law_alike" (spAlike k)
  | 0 => by
    have S : FnScope ["_law_told", "_law_due_here", "_law_place"] ["_law_told", "_law_due_here"] (defScope (top 55)) := ⟨rfl, rfl, rfl, by decide +kernel, rfl, by decide +kernel, by decide +kernel⟩
    refine T.d__law_alike.cal S (fun _ _ _ _ _ _ us hl => match us, hl with | [_, _], _ => rfl) (fun vs H Q E ⟨_, _, e, _⟩ => by rw [e]; rfl) fun f cdv A0 outer s H vs Q E hr ⟨u, v, e, hq, h⟩ => ?_
    subst e
    cases hq with
    | int n =>
      refine ⟨_, (pss_cons (ps_if (pt_cmpR op_isN (pv 1) pe_non (nomark _)) (pss_one (ps_ret (pe_cmpR op_isN (pv 0) pe_non (nomark _)))) pss_nil) (pss_cons (ps_if (pt_val (pe_callB (k_isiK (K := K) rfl) (by rfl) T.b_isinstance (by decide +kernel) (pa_cons (pv 1) (pa_cons (pe_bltn (v := .ty "int") (by rfl) T.b_int (by decide +kernel) rfl) pa_nil)))) (pss_one (ps_ret (pe_and (pe_callB (k_isiK (K := K) rfl) (by rfl) T.b_isinstance (by decide +kernel) (pa_cons (pv 0) (pa_cons (pe_bltn (v := .ty "int") (by rfl) T.b_int (by decide +kernel) rfl) pa_nil))) (pe_and (pe_not (pe_callB (k_isiK (K := K) rfl) (by rfl) T.b_isinstance (by decide +kernel) (pa_cons (pv 0) (pa_cons (pe_bltn (v := .ty "bool") (by rfl) T.b_bool (by decide +kernel) rfl) pa_nil)))) (pe_one (pe_cmpR op_eq (pv 0) (pv 1) (nomark _))))))) pss_nil) pss_never)), ?_⟩
      walk_at "rd"
      refine rd_isNi ?_
      walk_at "rd"
      refine is_ii ?_
      walk_at "rd"
      refine is_ii ?_
      walk_at "rd"
      refine is_ib ?_
      walk_at "rd"
      have e : decide (n = n) = true := by simp
      rw [e]
      exact h
  | k + 1 => by
    have ih := c__law_alike0 T k
    have c__law_alike : ∀ (_ : Txt P K mg), Cal P w K mg base (k + 1) "_law_alike" (spAlike k) := fun _ => ih
    have S : FnScope ["_law_told", "_law_due_here", "_law_place"] ["_law_told", "_law_due_here"] (defScope (top 55)) := ⟨rfl, rfl, rfl, by decide +kernel, rfl, by decide +kernel, by decide +kernel⟩
    refine T.d__law_alike.cal S (fun _ _ _ _ _ _ us hl => match us, hl with | [_, _], _ => rfl) (fun vs H Q E ⟨_, _, e, _⟩ => by rw [e]; rfl) fun f cdv A0 outer s H vs Q E hr ⟨u, v, e, hq, h⟩ => ?_
    subst e
    cases hq with
    | int n =>
      refine ⟨_, (pss_cons (ps_if (pt_cmpR op_isN (pv 1) pe_non (nomark _)) (pss_one (ps_ret (pe_cmpR op_isN (pv 0) pe_non (nomark _)))) pss_nil) (pss_cons (ps_if (pt_val (pe_callB (k_isiK (K := K) rfl) (by rfl) T.b_isinstance (by decide +kernel) (pa_cons (pv 1) (pa_cons (pe_bltn (v := .ty "int") (by rfl) T.b_int (by decide +kernel) rfl) pa_nil)))) (pss_one (ps_ret (pe_and (pe_callB (k_isiK (K := K) rfl) (by rfl) T.b_isinstance (by decide +kernel) (pa_cons (pv 0) (pa_cons (pe_bltn (v := .ty "int") (by rfl) T.b_int (by decide +kernel) rfl) pa_nil))) (pe_and (pe_not (pe_callB (k_isiK (K := K) rfl) (by rfl) T.b_isinstance (by decide +kernel) (pa_cons (pv 0) (pa_cons (pe_bltn (v := .ty "bool") (by rfl) T.b_bool (by decide +kernel) rfl) pa_nil)))) (pe_one (pe_cmpR op_eq (pv 0) (pv 1) (nomark _))))))) pss_nil) pss_never)), ?_⟩
      walk_at "rd"
      refine rd_isNi ?_
      walk_at "rd"
      refine is_ii ?_
      walk_at "rd"
      refine is_ii ?_
      walk_at "rd"
      refine is_ib ?_
      walk_at "rd"
      have e : decide (n = n) = true := by simp
      rw [e]
      exact h
    | @lst _ a b xs ys ha hb hl hn hi =>
      refine ⟨_, (pss_cons (ps_if (pt_cmpR op_isN (pv 1) pe_non (nomark _)) (pss_one (ps_ret (pe_cmpR op_isN (pv 0) pe_non (nomark _)))) pss_nil)
      (pss_cons (ps_if (pt_val (pe_callB (k_isiK (K := K) rfl) (by rfl) T.b_isinstance (by decide +kernel) (pa_cons (pv 1) (pa_cons (pe_bltn (v := .ty "int") (by rfl) T.b_int (by decide +kernel) rfl) pa_nil)))) (pss_one (ps_ret (pe_and (pe_callB (k_isiK (K := K) rfl) (by rfl) T.b_isinstance (by decide +kernel) (pa_cons (pv 0) (pa_cons (pe_bltn (v := .ty "int") (by rfl) T.b_int (by decide +kernel) rfl) pa_nil))) (pe_and (pe_not (pe_callB (k_isiK (K := K) rfl) (by rfl) T.b_isinstance (by decide +kernel) (pa_cons (pv 0) (pa_cons (pe_bltn (v := .ty "bool") (by rfl) T.b_bool (by decide +kernel) rfl) pa_nil)))) (pe_one (pe_cmpR op_eq (pv 0) (pv 1) (nomark _))))))) pss_nil)
      (pss_cons (ps_if (PW.pt (pw_or (pt_cmpR op_ne (pe_callB (k_isiK (K := K) rfl) (by rfl) T.b_isinstance (by decide +kernel) (pa_cons (pv 1) (pa_cons (pe_bltn (v := .ty "tuple") (by rfl) T.b_tuple (by decide +kernel) rfl) pa_nil))) (pe_callB (k_isiK (K := K) rfl) (by rfl) T.b_isinstance (by decide +kernel) (pa_cons (pv 0) (pa_cons (pe_bltn (v := .ty "tuple") (by rfl) T.b_tuple (by decide +kernel) rfl) pa_nil))) (nomark _)) (pw_or1 (pt_cmpR op_ne (pe_callB (k_isiK (K := K) rfl) (by rfl) T.b_isinstance (by decide +kernel) (pa_cons (pv 1) (pa_cons (pe_bltn (v := .ty "list") (by rfl) T.b_list (by decide +kernel) rfl) pa_nil))) (pe_callB (k_isiK (K := K) rfl) (by rfl) T.b_isinstance (by decide +kernel) (pa_cons (pv 0) (pa_cons (pe_bltn (v := .ty "list") (by rfl) T.b_list (by decide +kernel) rfl) pa_nil))) (nomark _))))) (pss_one (ps_ret pe_bl)) pss_nil)
      (pss_cons (ps_if (pt_cmpR op_ne (pe_callB (k_lenK (K := K) rfl) (by rfl) T.b_len (by decide +kernel) (pa_cons (pv 0) pa_nil)) (pe_callB (k_lenK (K := K) rfl) (by rfl) T.b_len (by decide +kernel) (pa_cons (pv 1) pa_nil)) (nomark _)) (pss_one (ps_ret pe_bl)) pss_nil)
      (pss_cons (ps_for PassesOwn.never rfl (pi_range1 (by rfl) T.b_range (pa_cons (pe_callB (k_lenK (K := K) rfl) (by rfl) T.b_len (by decide +kernel) (pa_cons (pv 1) pa_nil)) pa_nil)) (pg_name (i := 2) S.nd rfl (Or.inl rfl)) (pss_one (ps_if (pt_not (pt_val (pe_c (c__law_alike T) hr (Nat.le_refl _) (by rfl) (pa_cons (pe_ix (ix_ltK (K := K) rfl) (pv 0) (pv 2) (fun _ _ => rfl)) (pa_cons (pe_ix (ix_ltK (K := K) rfl) (pv 1) (pv 2) (fun _ _ => rfl)) pa_nil))))) (pss_one (ps_ret pe_bl)) pss_nil)))
      (pss_one (ps_ret pe_bl))))))), ?_⟩
      walk_at "rd"
      refine rd_isNr ?_
      walk_at "rd"
      refine is_li hb ?_
      walk_at "rd"
      refine is_lt hb ?_
      walk_at "rd"
      refine is_lt ha ?_
      walk_at "rd"
      refine rd_iteN (fun c => absurd rfl c) fun _ => ?_
      walk_at "rd"
      refine is_ll hb ?_
      walk_at "rd"
      refine is_ll ha ?_
      walk_at "rd"
      refine rd_iteN (fun c => absurd rfl c) fun _ => ?_
      walk_at "rd"
      refine rd_lenL (sl ha) ?_
      walk_at "rd"
      refine rd_lenL (sl hb) ?_
      walk_at "rd"
      refine rd_iteN (fun c => absurd (by rw [hl]) c) fun _ => ?_
      walk_at "rd"
      refine rd_for ?_
      walk_at "rd"
      refine rd_lenL (sl hb) ?_
      walk_at "rd"
      refine rg1N ys.length rfl (by omega) ?_
      refine for_range (fun i σ H' => ∃ x, σ = [some (.ref a), some (.ref b), x] ∧ H' = H) ⟨_, rfl, rfl⟩ ?_ ?_
      · rintro i σ H' hil ⟨x0, rfl, rfl⟩
        have e1 : xs[i]? = some (xs[i]'(by omega)) := List.getElem?_eq_getElem _
        have e2 : ys[i]? = some ys[i] := List.getElem?_eq_getElem _
        have ei : (0 : Int) + (i : Int) = ((i : Nat) : Int) := by omega
        walk_at "rd"
        rw [ei]
        refine rd_iL (sl ha) (atI_nat e1) ?_
        walk_at "rd"
        refine rd_iL (sl hb) (atI_nat e2) ?_
        walk_at "rd"
        refine ⟨_, _, rfl, hi i _ _ e1 e2, ?_⟩
        walk_at "rd"
        exact ⟨_, rfl, rfl⟩
      · rintro σ H' ⟨x0, rfl, rfl⟩
        walk_at "rd"
        exact h
    | @tup _ a b xs ys ha hb hl hn hi =>
      refine ⟨_, (pss_cons (ps_if (pt_cmpR op_isN (pv 1) pe_non (nomark _)) (pss_one (ps_ret (pe_cmpR op_isN (pv 0) pe_non (nomark _)))) pss_nil)
      (pss_cons (ps_if (pt_val (pe_callB (k_isiK (K := K) rfl) (by rfl) T.b_isinstance (by decide +kernel) (pa_cons (pv 1) (pa_cons (pe_bltn (v := .ty "int") (by rfl) T.b_int (by decide +kernel) rfl) pa_nil)))) (pss_one (ps_ret (pe_and (pe_callB (k_isiK (K := K) rfl) (by rfl) T.b_isinstance (by decide +kernel) (pa_cons (pv 0) (pa_cons (pe_bltn (v := .ty "int") (by rfl) T.b_int (by decide +kernel) rfl) pa_nil))) (pe_and (pe_not (pe_callB (k_isiK (K := K) rfl) (by rfl) T.b_isinstance (by decide +kernel) (pa_cons (pv 0) (pa_cons (pe_bltn (v := .ty "bool") (by rfl) T.b_bool (by decide +kernel) rfl) pa_nil)))) (pe_one (pe_cmpR op_eq (pv 0) (pv 1) (nomark _))))))) pss_nil)
      (pss_cons (ps_if (PW.pt (pw_or (pt_cmpR op_ne (pe_callB (k_isiK (K := K) rfl) (by rfl) T.b_isinstance (by decide +kernel) (pa_cons (pv 1) (pa_cons (pe_bltn (v := .ty "tuple") (by rfl) T.b_tuple (by decide +kernel) rfl) pa_nil))) (pe_callB (k_isiK (K := K) rfl) (by rfl) T.b_isinstance (by decide +kernel) (pa_cons (pv 0) (pa_cons (pe_bltn (v := .ty "tuple") (by rfl) T.b_tuple (by decide +kernel) rfl) pa_nil))) (nomark _)) (pw_or1 (pt_cmpR op_ne (pe_callB (k_isiK (K := K) rfl) (by rfl) T.b_isinstance (by decide +kernel) (pa_cons (pv 1) (pa_cons (pe_bltn (v := .ty "list") (by rfl) T.b_list (by decide +kernel) rfl) pa_nil))) (pe_callB (k_isiK (K := K) rfl) (by rfl) T.b_isinstance (by decide +kernel) (pa_cons (pv 0) (pa_cons (pe_bltn (v := .ty "list") (by rfl) T.b_list (by decide +kernel) rfl) pa_nil))) (nomark _))))) (pss_one (ps_ret pe_bl)) pss_nil)
      (pss_cons (ps_if (pt_cmpR op_ne (pe_callB (k_lenK (K := K) rfl) (by rfl) T.b_len (by decide +kernel) (pa_cons (pv 0) pa_nil)) (pe_callB (k_lenK (K := K) rfl) (by rfl) T.b_len (by decide +kernel) (pa_cons (pv 1) pa_nil)) (nomark _)) (pss_one (ps_ret pe_bl)) pss_nil)
      (pss_cons (ps_for PassesOwn.never rfl (pi_range1 (by rfl) T.b_range (pa_cons (pe_callB (k_lenK (K := K) rfl) (by rfl) T.b_len (by decide +kernel) (pa_cons (pv 1) pa_nil)) pa_nil)) (pg_name (i := 2) S.nd rfl (Or.inl rfl)) (pss_one (ps_if (pt_not (pt_val (pe_c (c__law_alike T) hr (Nat.le_refl _) (by rfl) (pa_cons (pe_ix (ix_ltK (K := K) rfl) (pv 0) (pv 2) (fun _ _ => rfl)) (pa_cons (pe_ix (ix_ltK (K := K) rfl) (pv 1) (pv 2) (fun _ _ => rfl)) pa_nil))))) (pss_one (ps_ret pe_bl)) pss_nil)))
      (pss_one (ps_ret pe_bl))))))), ?_⟩
      walk_at "rd"
      refine rd_isNr ?_
      walk_at "rd"
      refine is_ti hb ?_
      walk_at "rd"
      refine is_tt hb ?_
      walk_at "rd"
      refine is_tt ha ?_
      walk_at "rd"
      refine rd_iteN (fun c => absurd rfl c) fun _ => ?_
      walk_at "rd"
      refine is_tl hb ?_
      walk_at "rd"
      refine is_tl ha ?_
      walk_at "rd"
      refine rd_iteN (fun c => absurd rfl c) fun _ => ?_
      walk_at "rd"
      refine rd_lenT (stp ha) ?_
      walk_at "rd"
      refine rd_lenT (stp hb) ?_
      walk_at "rd"
      refine rd_iteN (fun c => absurd (by rw [hl]) c) fun _ => ?_
      walk_at "rd"
      refine rd_for ?_
      walk_at "rd"
      refine rd_lenT (stp hb) ?_
      walk_at "rd"
      refine rg1N ys.length rfl (by omega) ?_
      refine for_range (fun i σ H' => ∃ x, σ = [some (.ref a), some (.ref b), x] ∧ H' = H) ⟨_, rfl, rfl⟩ ?_ ?_
      · rintro i σ H' hil ⟨x0, rfl, rfl⟩
        have e1 : xs[i]? = some (xs[i]'(by omega)) := List.getElem?_eq_getElem _
        have e2 : ys[i]? = some ys[i] := List.getElem?_eq_getElem _
        have ei : (0 : Int) + (i : Int) = ((i : Nat) : Int) := by omega
        walk_at "rd"
        rw [ei]
        refine rd_iT (stp ha) (atI_nat e1) ?_
        walk_at "rd"
        refine rd_iT (stp hb) (atI_nat e2) ?_
        walk_at "rd"
        refine ⟨_, _, rfl, hi i _ _ e1 e2, ?_⟩
        walk_at "rd"
        exact ⟨_, rfl, rfl⟩
      · rintro σ H' ⟨x0, rfl, rfl⟩
        walk_at "rd"
        exact h
theorem c__law_alike (T : Txt P K mg) : Cal P w K mg base 9 "_law_alike" (spAlike 8) := c__law_alike0 T 8
end
end LK
set_option maxHeartbeats 4000000
/-! What may change: the rest stays. -/
namespace LK
open PySem PySem.Spec PyProof.Rows L2
/-- H without X -/
def rm (X : List Addr) (H : Hp) : Hp := fun b => if b ∈ X then none else H b
theorem rm_at {X : List Addr} {H : Hp} {b : Addr} (h : b ∉ X) : rm X H b = H b := if_neg h
theorem rm_in {X : List Addr} {H : Hp} {b : Addr} (h : b ∈ X) : rm X H b = none := if_pos h
theorem rm_same (X : List Addr) (H : Hp) : Same (rm X H) H := fun b o e => by
  by_cases h : b ∈ X
  · rw [rm_in h] at e; cases e
  · rw [rm_at h] at e; exact e
theorem rm_mono {X : List Addr} {H H' : Hp} (s : Same H H') : Same (rm X H) (rm X H') := fun b o e => by
  by_cases h : b ∈ X
  · rw [rm_in h] at e; cases e
  · rw [rm_at h] at e ⊢; exact s _ _ e
theorem rm_of {G : Hp} {X : List Addr} {H : Hp} (s : Same G H) (h : ∀ x ∈ X, G x = none) : Same G (rm X H) := fun b o e => by
  by_cases c : b ∈ X
  · rw [h b c] at e; cases e
  · rw [rm_at c]; exact s _ _ e
theorem rm_self {X : List Addr} {H H' : Hp} (s : Same (rm X H) H') : Same (rm X H) (rm X H') := rm_of s fun x h => rm_in h
theorem rm_none {X : List Addr} {H : Hp} {b : Addr} (h : H b = none) : rm X H b = none := by
  by_cases c : b ∈ X
  · exact rm_in c
  · rw [rm_at c]; exact h
theorem rm_sub {X Y : List Addr} {H : Hp} (h : ∀ x ∈ X, x ∈ Y) : Same (rm Y H) (rm X H) := rm_of (rm_same Y H) fun x hx => rm_in (h x hx)
theorem rm_rm {X Y : List Addr} {H : Hp} : rm X (rm Y H) = rm (X ++ Y) H := by
  funext b
  unfold rm
  by_cases h1 : b ∈ X
  · simp [h1]
  · simp [h1]
/-- a list that is written -/
theorem rm_upd {X : List Addr} {H : Hp} {a : Addr} {o : HO} (h : a ∈ X) : Same (rm X H) (upd H a o) := fun b u e => by
  by_cases c : b ∈ X
  · rw [rm_in c] at e; cases e
  · rw [rm_at c] at e
    rw [upd_ne (fun z : b = a => c (by rw [z]; exact h))]; exact e
/-- a source of draws -/
def Src (S : Addr) (H : Hp) (n : Nat) : Prop := ∃ c r k : Int, H S = some (.lst [.int c, .int r, .int k]) ∧ 0 ≤ r ∧ 0 ≤ k ∧ k ≤ n
theorem Src.mono {S : Addr} {H H' : Hp} {n : Nat} (h : Src S H n) (s : Same H H') : Src S H' n := by
  obtain ⟨c, r, k, a, b⟩ := h
  exact ⟨c, r, k, s _ _ a, b⟩
theorem Src.ne {S a : Addr} {H : Hp} {n : Nat} (h : Src S H n) (ha : H a = none) : a ≠ S := fun e => by
  obtain ⟨c, r, k, q, _⟩ := h
  rw [← e, ha] at q; cases q
theorem Src.le {S : Addr} {H : Hp} {n m : Nat} (h : Src S H n) (hm : n ≤ m) : Src S H m := by
  obtain ⟨c, r, k, a, b0, b1, b2⟩ := h
  exact ⟨c, r, k, a, b0, b1, by omega⟩
section
variable {σ : L2.St} {H : Hp} {Q : VK} {te to ti : TE} {N B C : L2.St → Hp → Prop} {R : VK} {g : TG} {v : V}
theorem rd_asgG (h : te σ H fun v H1 => g v σ H1 N) : tAsg te g ⟨N, R, B, C⟩ σ H := h
theorem rd_gsub {t : TSet} {Q : L2.St → Hp → Prop} (h : to σ H fun o H1 => ti σ H1 fun i H2 => t o i v H2 fun H3 => Q σ H3) : gSub to ti t v σ H Q := h
theorem rd_setL {p : Addr} {xs : List V} {k : Int} {j : Nat} {Q : Hp → Prop} (hp : H p = some (.lst xs)) (hk : k = j) (hj : j < xs.length) (h : Q (upd H p (.lst (xs.set j v)))) : rSetL (.ref p) (.int k) v H Q := ⟨p, xs, k, j, rfl, rfl, hp, by
  subst hk
  unfold ixN
  rw [if_pos (by omega), if_pos (by omega)]
  simp, h⟩
theorem rd_pow {a b : Int} (h0 : 0 ≤ b ∧ b ≤ 1000) (ha : -2 ^ 60 < a ∧ a < 2 ^ 60) (h : Q (.int (a ^ b.toNat)) H) : rI CPow (fun i j => .int (i ^ j.toNat)) (.int a) (.int b) H Q := ⟨a, b, rfl, rfl, ⟨h0.1, by omega, by omega⟩, h⟩
end
theorem rd_ifxC {c : Bool} {x y : V} {ta tb : TE} {σ : L2.St} {H : Hp} {Q : VK} (ha : c = true → ∀ Q : VK, Q x H → ta σ H Q) (hb : c = false → ∀ Q : VK, Q y H → tb σ H Q) (h : Q (if c = true then x else y) H) : if c = true then ta σ H Q else tb σ H Q := by
  cases c
  · exact hb rfl Q h
  · exact ha rfl Q h
end LK
namespace LK
theorem rd_iteT' {A B : Prop} {p : Prop} [Decidable p] (h1 : p) (h : A) : if decide p = true then A else B := by
  rw [decide_eq_true h1]; exact h
theorem rd_iteF' {A B : Prop} {p : Prop} [Decidable p] (h1 : ¬ p) (h : B) : if decide p = true then A else B := by
  rw [decide_eq_false h1]; exact h
end LK
set_option maxHeartbeats 4000000
namespace LK
open PySem PySem.Spec PyProof.Rows L2
local macro_rules | `(tactic| walk_at "rd") => `(tactic| (repeat (first
  | with_reducible refine rd_seq ?_
  | with_reducible refine rd_asg ?_
  | with_reducible refine rd_ret ?_
  | with_reducible refine rd_drop ?_
  | with_reducible refine rd_if ?_
  | with_reducible refine rd_next ?_
  | ((with_reducible apply rd_var); (· exact rfl))
  | with_reducible refine rd_c ?_
  | with_reducible refine rd_op ?_
  | with_reducible refine rd_un ?_
  | with_reducible refine rd_I0 ?_
  | with_reducible refine rd_U ?_
  | with_reducible refine rd_eq ?_
  | with_reducible refine rd_ne ?_
  | with_reducible refine rd_neB ?_
  | with_reducible refine rd_asB ?_
  | with_reducible refine rd_test ?_
  | with_reducible refine rd_tB ?_
  | with_reducible refine rd_not ?_
  | with_reducible refine rd_and ?_
  | with_reducible refine rd_or ?_
  | with_reducible refine rd_andV ?_
  | with_reducible refine rd_orV ?_
  | with_reducible refine rd_notV ?_
  | with_reducible refine rd_ifx ?_
  | with_reducible refine rd_chain ?_
  | with_reducible refine rd_nil ?_
  | with_reducible refine rd_cons ?_
  | with_reducible refine rd_call ?_
  | with_reducible refine rd_cb ?_
  | with_reducible refine rd_lst ?_
  | with_reducible refine rd_tup ?_
  | with_reducible refine rd_min ?_
  | with_reducible refine rd_max ?_
  | with_reducible refine rd_abs ?_
  | with_reducible refine rd_int ?_
  | with_reducible refine rd_bm ?_
  | with_reducible refine rd_nt ?_
  | with_reducible refine rd_nf ?_
  | with_reducible refine rd_rg3 ?_
  | with_reducible refine rd_gnil ?_
  | with_reducible refine rd_gcons ?_
  | with_reducible refine rd_yes ?_
  | with_reducible refine rd_tt ?_
  | with_reducible refine rd_ff ?_
  | with_reducible refine rd_fld ?_
  | with_reducible refine rd_meth ?_
  | with_reducible refine rd_rev ?_
  | with_reducible refine rd_callN ?_
  | with_reducible refine rd_rg1 ?_
  | with_reducible refine rd_rg2 ?_
  | with_reducible refine rd_nm ?_
  | with_reducible refine rd_lc ?_
  | with_reducible refine rd_iL' ?_
  | with_reducible refine rd_iT' ?_)))
local macro_rules | `(tactic| walk_at "hp") => `(tactic| (first
  | assumption
  | exact upd_same ..
  | (refine keep_upd (by assumption) ?_; walk_at "hp")
  | (refine same_app (by assumption) ?_; walk_at "hp")))


section
variable {P : Program} {w : World} {K : PySem.W.Frag} {mg : Str → Option Value} {base : Heap}
def spSource (K : PySem.W.Frag) : Sp := fun vs H Q _ => ∃ (p : Addr) (ns : List Int) (k : Nat), vs = [.ref p, .int k] ∧ SqL K H p (iv ns) ∧ k < 100000 ∧ ns.length < 100000000 ∧ ∀ S H', Same H H' → H S = none → Src S H' 0 → Q (.ref S) H'
theorem c__law_source (T : Txt P K mg) : Cal P w K mg base 1 "_law_source" (spSource K) := by
  have S : FnScope ["_law_script", "_law_place", "_law_cell"] ["_law_script", "_law_place"] (defScope (top 39)) := ⟨rfl, rfl, rfl, by decide +kernel, rfl, by decide +kernel, by decide +kernel⟩
  refine T.d__law_source.cal S (fun _ _ _ _ _ _ us hl => match us, hl with | [_, _], _ => rfl) (fun vs H Q E ⟨_, _, _, e, _⟩ => by rw [e]; rfl) fun f cdv A0 outer s H vs Q E hr ⟨p, ns, k, e, hp, hk, hl, h⟩ => ?_
  subst e
  refine ⟨_, (pss_cons (ps_set (i := 2) S.nd rfl (Or.inl rfl) (pe_ifExp (pt_cmpR op_lt (pv 1) (pe_callB (k_lenK (K := K) rfl) (by rfl) T.b_len (by decide +kernel) (pa_cons (pv 0) pa_nil)) (nomark _)) (pe_callB k_abs (by rfl) T.b_abs (by decide +kernel) (pa_cons (pe_callTy k_int (by rfl) T.b_int (by decide +kernel) (pa_cons (pe_ix (ix_ltK (K := K) rfl) (pv 0) (pv 1) (fun _ _ => rfl)) pa_nil)) pa_nil)) (pe_op op_add (pe_op op_add pe_int (pe_op op_mulW pe_int (pv 1))) (pe_op op_mulW pe_int (pe_callB (k_lenK (K := K) rfl) (by rfl) T.b_len (by decide +kernel) (pa_cons (pv 0) pa_nil))))))
      (pss_one (ps_ret (pe_lst (pa_cons (pv 2) (pa_cons (pe_ifExp (pt_cmpR op_ge (pv 2) (pe_op op_pow pe_int pe_int) (nomark _)) (pv 2) pe_int) (pa_cons pe_int pa_nil))))))), ?_⟩
  have fin : ∀ c : Int, 0 ≤ c → (∀ (S : Addr), H S = none → Q (.ref S) (upd H S (.lst [.int c, .int (if 10 ^ 18 ≤ c then c else 0), .int 0]))) := fun c c0 S hS =>
    h S _ (Same.new hS) hS ⟨c, _, 0, upd_same .., by split <;> omega, by omega, by omega⟩
  walk_at "rd"
  refine rd_lenL hp ?_
  walk_at "rd"
  have el : (iv ns).length = ns.length := by simp
  rw [el]
  refine rd_ifxC (x := .int ((ns.getD k 0).natAbs : Int)) (y := .int (7 + 31 * (k : Int) + 1009 * (ns.length : Int))) (fun c Q q => ?_) (fun c Q q => ?_) ?_
  · have c' : (k : Int) < (ns.length : Int) := of_decide_eq_true c
    walk_at "rd"
    refine rd_iL hp (atI_int (getD_at (d := 0) (by omega)) rfl) ?_
    walk_at "rd"
    exact q
  · walk_at "rd"
    refine rd_mul (by omega) (by omega) ?_
    walk_at "rd"
    refine rd_lenL hp ?_
    walk_at "rd"
    rw [el]
    refine rd_mul (by omega) (by omega) ?_
    walk_at "rd"
    exact q
  rw [iteV]
  have c0 : 0 ≤ (if decide ((k : Int) < (ns.length : Int)) = true then ((ns.getD k 0).natAbs : Int) else 7 + 31 * (k : Int) + 1009 * (ns.length : Int)) := by split <;> omega
  generalize (if decide ((k : Int) < (ns.length : Int)) = true then ((ns.getD k 0).natAbs : Int) else 7 + 31 * (k : Int) + 1009 * (ns.length : Int)) = c at c0
  have f := fin c c0
  walk_at "rd"
  refine rd_pow (by omega) (by omega) ?_
  walk_at "rd"
  refine rd_ifxV (x := .int c) (y := .int 0) (fun Q q => by walk_at "rd"; exact q) (fun Q q => by walk_at "rd"; exact q) ?_
  walk_at "rd"
  refine ⟨ll (by simp), fun S hS => ?_⟩
  have f2 := f S hS
  have e18 : (10 : Int) ^ Int.toNat 18 = 10 ^ 18 := rfl
  rw [e18]
  by_cases d : (10 : Int) ^ 18 ≤ c
  · rw [if_pos d] at f2
    rw [decide_eq_true d]
    exact f2
  · rw [if_neg d] at f2
    rw [decide_eq_false d]
    exact f2
/-! ### a draw -/
def spDraw : Sp := fun vs H Q _ => ∃ (S : Addr) (m : Int) (n : Nat), vs = [.ref S, .int m] ∧ Src S H n ∧ 0 < m ∧ m < 2 ^ 60 ∧ n < 1000000 ∧ ∀ (r : Int) H', 0 ≤ r → r < m → Same (rm [S] H) H' → Src S H' (n + 1) → Q (.int r) H'
theorem c__law_draw (T : Txt P K mg) : Cal P w K mg base 1 "_law_draw" spDraw := by
  have S : FnScope ["_law_source_here", "_law_many", "_law_mixed", "_law_told"] ["_law_source_here", "_law_many"] (defScope (top 40)) := ⟨rfl, rfl, rfl, by decide +kernel, rfl, by decide +kernel, by decide +kernel⟩
  refine T.d__law_draw.cal S (fun _ _ _ _ _ _ us hl => match us, hl with | [_, _], _ => rfl) (fun vs H Q E ⟨_, _, _, e, _⟩ => by rw [e]; rfl) fun f cdv A0 outer s H vs Q E hr ⟨p, m, n, e, ⟨c, r, k, hp, r0, k0, kn⟩, m0, m1, hn, h⟩ => ?_
  subst e
  refine ⟨_, (pss_cons (ps_asg (pe_op op_add (pe_ix (ix_ltK (K := K) rfl) (pv 0) pe_int (fun _ _ => rfl)) pe_int) (pg_sub (pv 0) pe_int set_list))
      (pss_cons (ps_if (pt_cmpR op_gt (pe_ix (ix_ltK (K := K) rfl) (pv 0) pe_int (fun _ _ => rfl)) pe_int (nomark _)) (pss_cons (ps_set (i := 3) S.nd rfl (Or.inl rfl) (pe_op op_mod (pe_callTy k_int (by rfl) T.b_int (by decide +kernel) (pa_cons (pe_ix (ix_ltK (K := K) rfl) (pv 0) pe_int (fun _ _ => rfl)) pa_nil)) (pv 1)))
      (pss_cons (ps_asg (pe_op op_fdivW (pe_ix (ix_ltK (K := K) rfl) (pv 0) pe_int (fun _ _ => rfl)) (pv 1)) (pg_sub (pv 0) pe_int set_list))
      (pss_one (ps_ret (pv 3))))) pss_nil)
      (pss_cons (ps_set (i := 2) S.nd rfl (Or.inl rfl) (pe_op op_mod (pe_callTy k_int (by rfl) T.b_int (by decide +kernel) (pa_cons (pe_op op_add (pe_op op_add (pe_ix (ix_ltK (K := K) rfl) (pv 0) pe_int (fun _ _ => rfl)) (pe_op op_mulW pe_int (pe_ix (ix_ltK (K := K) rfl) (pv 0) pe_int (fun _ _ => rfl)))) pe_int) pa_nil)) pe_int))
      (pss_cons (ps_set (i := 2) S.nd rfl (Or.inl rfl) (pe_op op_mod (pe_callTy k_int (by rfl) T.b_int (by decide +kernel) (pa_cons (pe_op op_mulW (pv 2) (pe_op op_add (pv 2) pe_int)) pa_nil)) pe_int))
      (pss_cons (ps_set (i := 2) S.nd rfl (Or.inl rfl) (pe_op op_mod (pe_callTy k_int (by rfl) T.b_int (by decide +kernel) (pa_cons (pe_op op_add (pe_op op_mulW (pv 2) (pe_op op_add (pv 2) pe_int)) (pe_op op_mulW pe_int (pe_ix (ix_ltK (K := K) rfl) (pv 0) pe_int (fun _ _ => rfl)))) pa_nil)) pe_int))
      (pss_one (ps_ret (pe_op op_mod (pe_callTy k_int (by rfl) T.b_int (by decide +kernel) (pa_cons (pe_op op_fdivW (pv 2) pe_int) pa_nil)) (pv 1))))))))), ?_⟩
  walk_at "rd"
  refine rd_asgG ?_
  walk_at "rd"
  refine rd_iL (v := .int k) (sl hp) (by rfl) ?_
  walk_at "rd"
  refine rd_gsub ?_
  walk_at "rd"
  refine rd_setL (j := 2) hp rfl (by simp) ?_
  have hp2 : (upd H p (.lst ([V.int c, V.int r, V.int k].set 2 (.int (k + 1))))) p = some (.lst [.int c, .int r, .int (k + 1)]) := upd_same ..
  generalize hH2 : upd H p (.lst ([V.int c, V.int r, V.int k].set 2 (.int (k + 1)))) = H2 at hp2
  have s2 : Same (rm [p] H) H2 := by rw [← hH2]; exact rm_upd (by simp)
  walk_at "rd"
  refine rd_iL (v := .int r) (sl hp2) (by rfl) ?_
  walk_at "rd"
  refine rd_ite (fun d => ?_) fun d => ?_
  · walk_at "rd"
    refine rd_iL (v := .int r) (sl hp2) (by rfl) ?_
    walk_at "rd"
    refine rd_mod m0 ?_
    walk_at "rd"
    refine rd_asgG ?_
    walk_at "rd"
    refine rd_iL (v := .int r) (sl hp2) (by rfl) ?_
    walk_at "rd"
    refine rd_div m0 (by omega) ?_
    refine rd_gsub ?_
    walk_at "rd"
    refine rd_setL (j := 1) hp2 rfl (by simp) ?_
    walk_at "rd"
    refine h _ _ (Int.emod_nonneg _ (by omega)) (Int.emod_lt_of_pos _ m0) (fun b u e => ?_) ⟨c, r / m, k + 1, upd_same .., Int.ediv_nonneg r0 (by omega), by omega, by omega⟩
    have hb : b ≠ p := fun z => by rw [z, rm_in (by simp)] at e; cases e
    rw [upd_ne hb]; exact s2 _ _ e
  · walk_at "rd"
    refine rd_iL (v := .int c) (sl hp2) (by rfl) ?_
    walk_at "rd"
    refine rd_iL (v := .int (k + 1)) (sl hp2) (by rfl) ?_
    walk_at "rd"
    refine rd_mul (by omega) (by omega) ?_
    walk_at "rd"
    refine rd_mod (by omega) ?_
    walk_at "rd"
    have a1 := Int.emod_nonneg (c + 7919 * (k + 1) + 13) (show (2147483647 : Int) ≠ 0 by omega)
    have a2 := Int.emod_lt_of_pos (c + 7919 * (k + 1) + 13) (show (0 : Int) < 2147483647 by omega)
    generalize (c + 7919 * (k + 1) + 13) % 2147483647 = x at *
    refine rd_mul (by omega) (by omega) ?_
    walk_at "rd"
    refine rd_mod (by omega) ?_
    walk_at "rd"
    have b1 := Int.emod_nonneg (x * (x + 48271)) (show (2147483629 : Int) ≠ 0 by omega)
    have b2 := Int.emod_lt_of_pos (x * (x + 48271)) (show (0 : Int) < 2147483629 by omega)
    generalize x * (x + 48271) % 2147483629 = y at *
    refine rd_mul (by omega) (by omega) ?_
    walk_at "rd"
    refine rd_iL (v := .int (k + 1)) (sl hp2) (by rfl) ?_
    walk_at "rd"
    refine rd_mul (by omega) (by omega) ?_
    walk_at "rd"
    refine rd_mod (by omega) ?_
    walk_at "rd"
    refine rd_div (by omega) (by omega) ?_
    walk_at "rd"
    refine rd_mod m0 ?_
    exact h _ _ (Int.emod_nonneg _ (by omega)) (Int.emod_lt_of_pos _ m0) s2 ⟨c, r, k + 1, hp2, r0, by omega, by omega⟩
/-- a count -/
def spCount : Sp := fun vs H Q _ => ∃ (S : Addr) (n : Nat), vs = [.ref S] ∧ Src S H n ∧ n < 900000 ∧ ∀ (r : Int) H', 1 ≤ r → r ≤ 2 ^ 41 → Same (rm [S] H) H' → Src S H' (n + 2) → Q (.int r) H'
theorem c__law_count (T : Txt P K mg) : Cal P w K mg base 2 "_law_count" spCount := by
  have S : FnScope ["_law_source_here", "_law_kind"] ["_law_source_here"] (defScope (top 49)) := ⟨rfl, rfl, rfl, by decide +kernel, rfl, by decide +kernel, by decide +kernel⟩
  refine T.d__law_count.cal S (fun _ _ _ _ _ _ us hl => match us, hl with | [_], _ => rfl) (fun vs H Q E ⟨_, _, e, _⟩ => by rw [e]; rfl) fun f cdv A0 outer s H vs Q E hr ⟨p, n, e, hs, hn, h⟩ => ?_
  subst e
  refine ⟨_, (pss_cons (ps_set (i := 1) S.nd rfl (Or.inl rfl) (pe_c (c__law_draw T) hr (by decide) (by rfl) (pa_cons (pv 0) (pa_cons pe_int pa_nil))))
      (pss_cons (ps_if (pt_cmpR op_eq (pv 1) pe_int (nomark _)) (pss_one (ps_ret (pe_op op_add (pe_op op_pow pe_int pe_int) (pe_c (c__law_draw T) hr (by decide) (by rfl) (pa_cons (pv 0) (pa_cons pe_int pa_nil)))))) pss_nil)
      (pss_cons (ps_if (pt_cmpR op_eq (pv 1) pe_int (nomark _)) (pss_one (ps_ret (pe_op op_add pe_int (pe_c (c__law_draw T) hr (by decide) (by rfl) (pa_cons (pv 0) (pa_cons pe_int pa_nil)))))) pss_nil)
      (pss_one (ps_ret (pe_op op_add pe_int (pe_c (c__law_draw T) hr (by decide) (by rfl) (pa_cons (pv 0) (pa_cons pe_int pa_nil))))))))), ?_⟩
  walk_at "rd"
  refine ⟨_, _, n, rfl, hs, by omega, by omega, by omega, fun k H1 k0 k1 s1 hs1 => ?_⟩
  walk_at "rd"
  refine rd_ite (fun d => ?_) fun d => ?_
  · walk_at "rd"
    refine rd_pow (by omega) (by omega) ?_
    walk_at "rd"
    refine ⟨_, _, n + 1, rfl, hs1, by omega, by omega, by omega, fun k2 H2 k20 k21 s2 hs2 => ?_⟩
    walk_at "rd"
    have e : (10 : Int) ^ (Int.toNat 12) = 1000000000000 := by decide
    exact h _ _ (by rw [e]; omega) (by rw [e]; omega) ((rm_self s1).trans s2) hs2
  walk_at "rd"
  refine rd_ite (fun d => ?_) fun d => ?_
  · walk_at "rd"
    refine ⟨_, _, n + 1, rfl, hs1, by omega, by omega, by omega, fun k2 H2 k20 k21 s2 hs2 => ?_⟩
    walk_at "rd"
    exact h _ _ (by omega) (by omega) ((rm_self s1).trans s2) hs2
  walk_at "rd"
  refine ⟨_, _, n + 1, rfl, hs1, by omega, by omega, by omega, fun k2 H2 k20 k21 s2 hs2 => ?_⟩
  walk_at "rd"
  exact h _ _ (by omega) (by omega) ((rm_self s1).trans s2) hs2
end
end LK
set_option maxHeartbeats 4000000
namespace LK
open PySem PySem.Spec PyProof.Rows L2
local macro_rules | `(tactic| walk_at "rd") => `(tactic| (repeat (first
  | with_reducible refine rd_seq ?_
  | with_reducible refine rd_asg ?_
  | with_reducible refine rd_ret ?_
  | with_reducible refine rd_drop ?_
  | with_reducible refine rd_if ?_
  | with_reducible refine rd_next ?_
  | ((with_reducible apply rd_var); (· exact rfl))
  | with_reducible refine rd_c ?_
  | with_reducible refine rd_op ?_
  | with_reducible refine rd_un ?_
  | with_reducible refine rd_I0 ?_
  | with_reducible refine rd_U ?_
  | with_reducible refine rd_eq ?_
  | with_reducible refine rd_ne ?_
  | with_reducible refine rd_neB ?_
  | with_reducible refine rd_asB ?_
  | with_reducible refine rd_test ?_
  | with_reducible refine rd_tB ?_
  | with_reducible refine rd_not ?_
  | with_reducible refine rd_and ?_
  | with_reducible refine rd_or ?_
  | with_reducible refine rd_andV ?_
  | with_reducible refine rd_orV ?_
  | with_reducible refine rd_notV ?_
  | with_reducible refine rd_ifx ?_
  | with_reducible refine rd_chain ?_
  | with_reducible refine rd_nil ?_
  | with_reducible refine rd_cons ?_
  | with_reducible refine rd_call ?_
  | with_reducible refine rd_cb ?_
  | with_reducible refine rd_lst ?_
  | with_reducible refine rd_tup ?_
  | with_reducible refine rd_min ?_
  | with_reducible refine rd_max ?_
  | with_reducible refine rd_abs ?_
  | with_reducible refine rd_int ?_
  | with_reducible refine rd_bm ?_
  | with_reducible refine rd_nt ?_
  | with_reducible refine rd_nf ?_
  | with_reducible refine rd_rg3 ?_
  | with_reducible refine rd_gnil ?_
  | with_reducible refine rd_gcons ?_
  | with_reducible refine rd_yes ?_
  | with_reducible refine rd_tt ?_
  | with_reducible refine rd_ff ?_
  | with_reducible refine rd_fld ?_
  | with_reducible refine rd_meth ?_
  | with_reducible refine rd_rev ?_
  | with_reducible refine rd_callN ?_
  | with_reducible refine rd_rg1 ?_
  | with_reducible refine rd_rg2 ?_
  | with_reducible refine rd_nm ?_
  | with_reducible refine rd_lc ?_
  | with_reducible refine rd_iL' ?_
  | with_reducible refine rd_iT' ?_)))
local macro_rules | `(tactic| walk_at "hp") => `(tactic| (first
  | assumption
  | exact upd_same ..
  | (refine keep_upd (by assumption) ?_; walk_at "hp")
  | (refine same_app (by assumption) ?_; walk_at "hp")))


/-- said of what was made since H -/
def NewD (H H' : Hp) (P : Hp → Prop) : Prop := ∃ G, Same G H' ∧ (∀ b, H b ≠ none → G b = none) ∧ P G
theorem NewD.off {H H' : Hp} {P : Hp → Prop} {X : List Addr} (h : NewD H H' P) (m : ∀ H H', Same H H' → P H → P H') (hx : ∀ x ∈ X, H x ≠ none) : P (rm X H') := by
  obtain ⟨G, a, b, c⟩ := h
  exact m _ _ (rm_of a fun x hx' => b x (hx x hx')) c
theorem NewD.at_ {H H' : Hp} {P : Hp → Prop} (h : NewD H H' P) (m : ∀ H H', Same H H' → P H → P H') : P H' := by
  obtain ⟨G, a, b, c⟩ := h
  exact m _ _ a c
theorem NewD.mono {H H' H2 : Hp} {P : Hp → Prop} (h : NewD H H' P) (s : Same H' H2) : NewD H H2 P := by
  obtain ⟨G, a, b, c⟩ := h
  exact ⟨G, a.trans s, b, c⟩
theorem NewD.imp {H H' : Hp} {P P' : Hp → Prop} (h : NewD H H' P) (k : ∀ G, P G → P' G) : NewD H H' P' := by
  obtain ⟨G, a, b, c⟩ := h
  exact ⟨G, a, b, k _ c⟩
/-- new since a later heap: new since an earlier one -/
theorem NewD.older {H0 H H' : Hp} {P : Hp → Prop} (h : NewD H H' P) (k : ∀ b, H0 b ≠ none → H b ≠ none) : NewD H0 H' P := by
  obtain ⟨G, a, b, c⟩ := h
  exact ⟨G, a, fun x hx => b x (k x hx), c⟩
theorem NewD.one {H H' : Hp} {P : Hp → Prop} {a : Addr} {o : HO} (ha : H a = none) (h : H' a = some o) (p : P (upd (fun _ => none) a o)) : NewD H H' P := by
  refine ⟨_, fun b u e => ?_, fun b hb => ?_, p⟩
  · by_cases c : b = a
    · subst c; rw [upd_same] at e; rw [← e]; exact h
    · rw [upd_ne c] at e; cases e
  · rw [upd_ne (fun z => hb (by rw [z]; exact ha))]
theorem goV_snoc (M : Mod) (N : Nat) (x : Int) : ∀ (xs ts : List Int), goV M N ts (xs ++ [x]) = (goV M N ts xs && ((decide (1 ≤ x) && decide (x ≤ N) && decide (∀ l, (ts ++ xs).getLast? = some l → l < x)) && fits M (ts ++ xs) x))
  | [], ts => by simp [goV]
  | y :: xs, ts => by
    have ih := goV_snoc M N x xs (ts ++ [y])
    simp only [List.cons_append, goV, ih, List.append_assoc, List.nil_append, Bool.and_assoc]
theorem isV_snoc {M : Mod} {N : Nat} {xs : List Int} {x : Int} (h : isV M N xs = true) (h1 : 1 ≤ x) (h2 : x ≤ N) (hl : ∀ y ∈ xs, y < x) (hf : fits M xs x = true) : isV M N (xs ++ [x]) = true := by
  unfold isV at h ⊢
  rw [goV_snoc, h]
  have z3 : decide (∀ l, (([] : List Int) ++ xs).getLast? = some l → l < x) = true := decide_eq_true fun l e => hl l (List.mem_of_getLast? e)
  rw [z3, decide_eq_true h1, decide_eq_true h2]
  simpa using hf
section
variable {P : Program} {w : World} {K : PySem.W.Frag} {mg : Str → Option Value} {base : Heap}
def spVersion : Sp := fun vs H Q _ => ∃ (S : Addr) (n : Nat) (v : V) (M : Mod) (N : Nat), vs = [.ref S, v] ∧ Src S H n ∧ n < 500000 ∧ MR (rm [S] H) v M ∧ Sh M N ∧
  ∀ a xs H', Same (rm [S] H) H' → Src S H' (n + N) → H a = none → H' a = some (.tup (iv xs)) → isV M N xs = true → xs.length ≤ N → Q (.ref a) H'
theorem c__law_version (T : Txt P K mg) : Cal P w K mg base 2 "_law_version" spVersion := by
  have S : FnScope ["_law_source_here", "_law_model_here", "_law_taken", "_law_number"] ["_law_source_here", "_law_model_here"] (defScope (top 48)) := ⟨rfl, rfl, rfl, by decide +kernel, rfl, by decide +kernel, by decide +kernel⟩
  refine T.d__law_version.cal S (fun _ _ _ _ _ _ us hl => match us, hl with | [_, _], _ => rfl) (fun vs H Q E ⟨_, _, _, _, _, e, _⟩ => by rw [e]; rfl) fun f cdv A0 outer s H vs Q E hr ⟨p, n, v, M, N, e, hs, hn, ⟨A, ev, hm⟩, sh, h⟩ => ?_
  subst e ev
  refine ⟨_, (pss_cons (ps_set (i := 2) S.nd rfl (Or.inl rfl) (pe_lst pa_nil))
      (pss_cons (ps_for PassesOwn.never rfl (pi_range2 (by rfl) T.b_range (pa_cons pe_int (pa_cons (pe_callB (k_lenK (K := K) rfl) (by rfl) T.b_len (by decide +kernel) (pa_cons (pe_ix (ix_ltK (K := K) rfl) (pv 1) pe_int (fun _ _ => rfl)) pa_nil)) pa_nil))) (pg_name (i := 3) S.nd rfl (Or.inl rfl)) (pss_one (ps_if (PW.pt (pw_and (pt_cmpR op_eq (pe_c (c__law_draw T) hr (by decide) (by rfl) (pa_cons (pv 0) (pa_cons pe_int pa_nil))) pe_int (nomark _)) (pw_and1 (pt_val (pe_c (c__law_fits T) hr (by decide) (by rfl) (pa_cons (pv 1) (pa_cons (pv 2) (pa_cons (pv 3) pa_nil)))))))) (pss_one (ps_expr (pe_appK (K := K) rfl (pv 2) (pa_cons (pv 3) pa_nil)))) pss_nil)))
      (pss_one (ps_ret (pe_callTy (k_tupK (K := K) rfl) (by rfl) T.b_tuple (by decide +kernel) (pa_cons (pv 2) pa_nil)))))), ?_⟩
  walk_at "rd"
  refine ⟨ll (by simp), fun q hq => ?_⟩
  have hqp := hs.ne hq
  walk_at "rd"
  refine rd_for ?_
  walk_at "rd"
  have s0 : Same (rm [p] H) (upd H q (.lst [])) := (rm_same _ _).trans (Same.new hq)
  obtain ⟨xs1, h1, f1⟩ := hm.h1.at_
  refine rd_iL (sl (s0 _ _ hm.m)) (by rfl) ?_
  walk_at "rd"
  refine rd_lenL (sl (s0 _ _ h1)) ?_
  walk_at "rd"
  have hN := sh.n
  have l1 : (xs1.length : Int) = 1 + (N : Nat) := by rw [f1.length, sh.wr]; omega
  refine rg2N N l1 (by omega) (by omega) (by omega) ?_
  refine for_range (fun i σ H' => ∃ (x : Option V) (xs : List Int), σ = [some (.ref p), some (.ref A.m), some (.ref q), x] ∧ Same (rm [p] H) H' ∧ Src p H' (n + i) ∧ H' q = some (.lst (iv xs)) ∧ isV M N xs = true ∧ xs.length ≤ i ∧ ∀ y ∈ xs, y < (i : Int) + 1)
    ⟨_, [], rfl, s0, hs.mono (Same.new hq), upd_same .., rfl, by simp, by simp⟩ ?_ ?_
  · rintro i σ H' hi ⟨x0, xs, rfl, s1, hs1, hq1, hv, hl, hlt⟩
    have en : (1 : Int) + (i : Int) = (i : Int) + 1 := by omega
    walk_at "rd"
    rw [en]
    refine ⟨_, _, _, rfl, hs1, by omega, by omega, by omega, fun r H2 r0 r1 s2 hs2 => ?_⟩
    have hq2 : H2 q = some (.lst (iv xs)) := s2 _ _ (by rw [rm_at (by simpa using hqp)]; exact hq1)
    have s12 : Same (rm [p] H) H2 := (rm_self s1).trans s2
    walk_at "rd"
    refine rd_ite (fun d => ?_) fun d => ?_
    · walk_at "rd"
      refine ⟨_, M, N, q, xs, _, rfl, ⟨A, rfl, hm.mono s12⟩, sh, hq2, by omega, by omega, ?_⟩
      walk_at "rd"
      refine rd_iteb (fun c => ?_) fun c => ?_
      · walk_at "rd"
        refine rd_tyL hq2 ?_
        walk_at "rd"
        refine rd_push hq2 (by simp; omega) ?_
        refine ⟨_, xs ++ [(i : Int) + 1], rfl, Same.upd s12 (rm_none hq), ?_, by rw [upd_same]; simp, isV_snoc hv (by omega) (by omega) hlt c, by rw [List.length_append, List.length_singleton]; omega, ?_⟩
        · obtain ⟨c', r', k', e1, e2⟩ := hs2
          exact ⟨c', r', k', by rw [upd_ne (Ne.symm hqp)]; exact e1, e2⟩
        · intro y hy
          rcases List.mem_append.mp hy with z | z
          · have := hlt y z; omega
          · have := List.mem_singleton.mp z; omega
      · walk_at "rd"
        exact ⟨_, xs, rfl, s12, hs2, hq2, hv, by omega, fun y hy => by have := hlt y hy; omega⟩
    · walk_at "rd"
      exact ⟨_, xs, rfl, s12, hs2, hq2, hv, by omega, fun y hy => by have := hlt y hy; omega⟩
  · rintro σ H' ⟨x0, xs, rfl, s1, hs1, hq1, hv, hl, hlt⟩
    walk_at "rd"
    refine rd_tupL (sl hq1) fun a ha => ?_
    have haH : H a = none := by
      by_cases c : a = p
      · obtain ⟨c', r', k', e1, e2⟩ := hs1
        rw [c, e1] at ha; cases ha
      · have := s1.free ha
        rwa [rm_at (by simpa using c)] at this
    exact h _ xs _ (s1.trans (Same.new ha)) (hs1.mono (Same.new ha)) haH (upd_same ..) hv hl
/-! ### needs and bars, as the law's model answers -/
def needsF (M : Mod) (N : Nat) (ds : List Int) : List Int := (upto N).filter fun o => decide (o ∈ ds) || ds.any fun d => decide (o ∈ ndA M d)
def sharedF (M : Mod) (ws : List (Int × Int)) (o : Int) : Bool := (M.wr.getD o.toNat []).any fun p => decide (p.1 ∈ ws.map (·.1))
def hitB (M : Mod) (ws : List (Int × Int)) (nd qu : List Int) (o : Int) : Bool := decide (o ∈ qu) || (nd.any fun d => decide (o ∈ brA M d)) || (sharedF M ws o && !decide (o ∈ nd))
def hitF (M : Mod) (N : Nat) (ws : List (Int × Int)) (nd qu : List Int) : List Int := (upto N).filter (hitB M ws nd qu)
def barsF (M : Mod) (N : Nat) (ws : List (Int × Int)) (nd qu : List Int) : List Int := (upto N).filter fun o => decide (o ∈ hitF M N ws nd qu) || (ndA M o).any fun d => decide (d ∈ hitF M N ws nd qu)
theorem len_pos_any {α : Type} {f : α → Bool} (xs : List α) : decide ((0 : Int) < ((xs.filter f).length : Int)) = xs.any f := by
  induction xs with
  | nil => rfl
  | cons x xs ih =>
    rw [List.any_cons]
    cases h : f x with
    | true => rw [List.filter_cons_of_pos h, List.length_cons]; exact decide_eq_true (by omega)
    | false => rw [List.filter_cons_of_neg (by simp [h]), ih]; rfl
theorem upto_filter (N : Nat) (f : Int → Bool) : ((List.range N).filter fun (i : Nat) => f ((i : Int) + 1)).map (fun i : Nat => (i : Int) + 1) = (upto N).filter f := by
  unfold upto
  rw [List.filter_map]
  rfl
def spNeeds : Sp := fun vs H Q _ => ∃ (v : V) (M : Mod) (N : Nat) (b : Addr) (ds : List Int), vs = [v, .ref b] ∧ MR H v M ∧ Sh M N ∧ H b = some (.lst (iv ds)) ∧ ds.length ≤ 100 ∧ (∀ d ∈ ds, 0 ≤ d ∧ d ≤ N) ∧
  ∀ q H', Same H H' → H q = none → H' q = some (.lst (iv (needsF M N ds))) → Q (.ref q) H'
theorem c__law_needs (T : Txt P K mg) : Cal P w K mg base 1 "_law_needs" spNeeds := by
  have S : FnScope ["_law_model_here", "_law_demands", "_law_other", "_law_one"] ["_law_model_here", "_law_demands"] (defScope (top 41)) := ⟨rfl, rfl, rfl, by decide +kernel, rfl, by decide +kernel, by decide +kernel⟩
  refine T.d__law_needs.cal S (fun _ _ _ _ _ _ us hl => match us, hl with | [_, _], _ => rfl) (fun vs H Q E ⟨_, _, _, _, _, e, _⟩ => by rw [e]; rfl) fun f cdv A0 outer s H vs Q E hr ⟨v, M, N, b, ds, e, ⟨A, ev, hm⟩, sh, hb, dl, dn, h⟩ => ?_
  subst e ev
  refine ⟨_, (pss_one (ps_ret (pe_lc (own := [("_law_other", 2)]) (by rfl) S.nd (pi_range2 (by rfl) T.b_range (pa_cons pe_int (pa_cons (pe_callB (k_lenK (K := K) rfl) (by rfl) T.b_len (by decide +kernel) (pa_cons (pe_ix (ix_ltK (K := K) rfl) (pv 0) pe_int (fun _ _ => rfl)) pa_nil)) pa_nil))) (blkOk_by (own := [("_law_other", 2)]) (by kernel_rfl)) (fun _ _ _ _ _ => (pg_name (i := 2) S.nd rfl (Or.inr rfl))) (fun _ _ _ _ _ => (pts_one (PW.pt (pw_or (pt_cmpR (op_inK (K := K) rfl) (pv 2) (pv 1) (by rfl)) (pw_or1 (pt_cmpR op_gt (pe_callB (k_lenK (K := K) rfl) (by rfl) T.b_len (by decide +kernel) (pa_cons (pe_lc (own := [("_law_one", 3)]) (by rfl) S.nd (pi_listK (K := K) rfl (pv 1)) (blkOk_by (own := [("_law_one", 3)]) (by kernel_rfl)) (fun _ _ _ _ _ => (pg_name (i := 3) S.nd rfl (Or.inl rfl))) (fun _ _ _ _ _ => (pts_one (pt_cmpR (op_inK (K := K) rfl) (pv 2) (pe_ix (ix_ltK (K := K) rfl) (pe_ix (ix_ltK (K := K) rfl) (pv 0) pe_int (fun _ _ => rfl)) (pv 3) (fun _ _ => rfl)) (by rfl)))) (fun _ _ _ _ _ => (pv 3))) pa_nil)) pe_int (nomark _))))))) (fun _ _ _ _ _ => (pv 2))))), ?_⟩
  walk_at "rd"
  obtain ⟨xs1, h1, f1⟩ := hm.h1.at_
  refine rd_iL (sl hm.m) (by rfl) ?_
  walk_at "rd"
  refine rd_lenL (sl h1) ?_
  walk_at "rd"
  have hN := sh.n
  have l1 : (xs1.length : Int) = 1 + (N : Nat) := by rw [f1.length, sh.wr]; omega
  refine rg2N N l1 (by omega) (by omega) (by omega) fun D hD => ?_
  refine lcRv (fun i => decide ((i : Int) + 1 ∈ ds) || ds.any fun d => decide ((i : Int) + 1 ∈ ndA M d)) (fun i => .int ((i : Int) + 1)) hD (by omega) (fun i H3 hi s3 R1 R0 r1 r0 => ?_) fun H3 s3 h3 => ?_
  · have en : (1 : Int) + (i : Int) = (i : Int) + 1 := by omega
    rw [en]
    walk_at "rd"
    refine ⟨rfl, ?_⟩
    walk_at "rd"
    refine rd_inL (sl (s3 _ _ hb)) ?_
    walk_at "rd"
    refine rd_ite (fun d => ?_) fun d => ?_
    · walk_at "rd"
      exact r1 (by simp [d]) _ (Same.refl _)
    · walk_at "rd"
      refine ⟨_, rfl, ⟨_, sl (s3 _ _ hb)⟩, fun D2 hD2 => ?_⟩
      refine lcI (fun d => decide ((i : Int) + 1 ∈ ndA M d)) V.int (sl (s3 _ _ hb)) hD2 (by omega) (fun x H4 hx s4 R1' R0' r1' r0' => ?_) fun H4 s4 h4 => ?_
      · have s34 := s3.trans s4
        have dx := dn x hx
        obtain ⟨xs3, h3', f3⟩ := hm.h3.at_
        obtain ⟨v3, e3, b3, rfl, i3⟩ := f3.getR (getD_at (d := []) (i := x.toNat) (by rw [sh.nd]; omega))
        walk_at "rd"
        refine ⟨rfl, ?_⟩
        walk_at "rd"
        refine rd_iL (sl (s34 _ _ hm.m)) (by rfl) ?_
        walk_at "rd"
        refine rd_iL (sl (s34 _ _ h3')) (atI_nn dx.1 e3) ?_
        walk_at "rd"
        refine rd_inL (sl (s34 _ _ i3)) ?_
        walk_at "rd"
        refine rd_ite (fun c => ?_) fun c => r0' (decide_eq_false c) _ (Same.refl _)
        walk_at "rd"
        exact r1' (decide_eq_true c) _ (Same.refl _)
      · walk_at "rd"
        refine rd_lenL (sl h4) ?_
        walk_at "rd"
        have e5 : (((ds.filter fun d => decide ((i : Int) + 1 ∈ ndA M d)).map V.int).length : Int) = ((ds.filter fun d => decide ((i : Int) + 1 ∈ ndA M d)).length : Int) := by simp
        rw [e5, len_pos_any]
        refine rd_iteb (fun c => ?_) fun c => r0 (by simp only [c, decide_eq_false d]; rfl) _ s4
        walk_at "rd"
        exact r1 (by simp [c]) _ s4
  · walk_at "rd"
    refine h _ _ s3 hD ?_
    rw [h3]
    unfold needsF
    rw [← upto_filter]
    simp [Function.comp_def]
end
end LK
set_option maxHeartbeats 4000000
namespace LK
open PySem PySem.Spec PyProof.Rows L2
local macro_rules | `(tactic| walk_at "rd") => `(tactic| (repeat (first
  | with_reducible refine rd_seq ?_
  | with_reducible refine rd_asg ?_
  | with_reducible refine rd_ret ?_
  | with_reducible refine rd_drop ?_
  | with_reducible refine rd_if ?_
  | with_reducible refine rd_next ?_
  | ((with_reducible apply rd_var); (· exact rfl))
  | with_reducible refine rd_c ?_
  | with_reducible refine rd_op ?_
  | with_reducible refine rd_un ?_
  | with_reducible refine rd_I0 ?_
  | with_reducible refine rd_U ?_
  | with_reducible refine rd_eq ?_
  | with_reducible refine rd_ne ?_
  | with_reducible refine rd_neB ?_
  | with_reducible refine rd_asB ?_
  | with_reducible refine rd_test ?_
  | with_reducible refine rd_tB ?_
  | with_reducible refine rd_not ?_
  | with_reducible refine rd_and ?_
  | with_reducible refine rd_or ?_
  | with_reducible refine rd_andV ?_
  | with_reducible refine rd_orV ?_
  | with_reducible refine rd_notV ?_
  | with_reducible refine rd_ifx ?_
  | with_reducible refine rd_chain ?_
  | with_reducible refine rd_nil ?_
  | with_reducible refine rd_cons ?_
  | with_reducible refine rd_call ?_
  | with_reducible refine rd_cb ?_
  | with_reducible refine rd_lst ?_
  | with_reducible refine rd_tup ?_
  | with_reducible refine rd_min ?_
  | with_reducible refine rd_max ?_
  | with_reducible refine rd_abs ?_
  | with_reducible refine rd_int ?_
  | with_reducible refine rd_bm ?_
  | with_reducible refine rd_nt ?_
  | with_reducible refine rd_nf ?_
  | with_reducible refine rd_rg3 ?_
  | with_reducible refine rd_gnil ?_
  | with_reducible refine rd_gcons ?_
  | with_reducible refine rd_yes ?_
  | with_reducible refine rd_tt ?_
  | with_reducible refine rd_ff ?_
  | with_reducible refine rd_fld ?_
  | with_reducible refine rd_meth ?_
  | with_reducible refine rd_rev ?_
  | with_reducible refine rd_callN ?_
  | with_reducible refine rd_rg1 ?_
  | with_reducible refine rd_rg2 ?_
  | with_reducible refine rd_nm ?_
  | with_reducible refine rd_lc ?_
  | with_reducible refine rd_iL' ?_
  | with_reducible refine rd_iT' ?_)))
local macro_rules | `(tactic| walk_at "hp") => `(tactic| (first
  | assumption
  | exact upd_same ..
  | (refine keep_upd (by assumption) ?_; walk_at "hp")
  | (refine same_app (by assumption) ?_; walk_at "hp")))


theorem neg_some {c : Bool} : (if false = true then !c else c) = c := rfl
section
variable {P : Program} {w : World} {K : PySem.W.Frag} {mg : Str → Option Value} {base : Heap}
def spBars : Sp := fun vs H Q _ => ∃ (v : V) (M : Mod) (N : Nat) (a b c : Addr) (ws : List (Int × Int)) (nd qu : List Int), vs = [v, .ref a, .ref b, .ref c] ∧ MR H v M ∧ Sh M N ∧ (∀ x ∈ M.wr, x.length ≤ 100) ∧ LL Pr H (.ref a) ws ∧ ws.length ≤ 100 ∧ H b = some (.lst (iv nd)) ∧ nd.length ≤ 100 ∧ (∀ d ∈ nd, 0 ≤ d ∧ d ≤ N) ∧ H c = some (.lst (iv qu)) ∧
  ∀ q H', Same H H' → H q = none → H' q = some (.lst (iv (barsF M N ws nd qu))) → Q (.ref q) H'
theorem c__law_bars (T : Txt P K mg) : Cal P w K mg base 1 "_law_bars" spBars := by
  have S : FnScope ["_law_model_here", "_law_writes_here", "_law_needs_here", "_law_quarrels", "_law_hit", "_law_other", "_law_shared", "_law_drawn_in", "_law_pair", "_law_one", "_law_mine"] ["_law_model_here", "_law_writes_here", "_law_needs_here", "_law_quarrels"] (defScope (top 42)) := ⟨rfl, rfl, rfl, by decide +kernel, rfl, by decide +kernel, by decide +kernel⟩
  refine T.d__law_bars.cal S (fun _ _ _ _ _ _ us hl => match us, hl with | [_, _, _, _], _ => rfl) (fun vs H Q E ⟨_, _, _, _, _, _, _, _, _, e, _⟩ => by rw [e]; rfl) fun f cdv A0 outer s H vs Q E hr ⟨v, M, N, a, b, c, ws, nd, qu, e, ⟨A, ev, hm⟩, sh, wl, hw, wsl, hb, nl, nn, hc, h⟩ => ?_
  subst e ev
  refine ⟨_, (pss_cons (ps_set (i := 4) S.nd rfl (Or.inr rfl) (pe_lst pa_nil))
      (pss_cons (ps_for PassesOwn.never rfl (pi_range2 (by rfl) T.b_range (pa_cons pe_int (pa_cons (pe_callB (k_lenK (K := K) rfl) (by rfl) T.b_len (by decide +kernel) (pa_cons (pe_ix (ix_ltK (K := K) rfl) (pv 0) pe_int (fun _ _ => rfl)) pa_nil)) pa_nil))) (pg_name (i := 5) S.nd rfl (Or.inr rfl)) (pss_cons (ps_set (i := 6) S.nd rfl (Or.inl rfl) (pe_cmpR op_gt (pe_callB (k_lenK (K := K) rfl) (by rfl) T.b_len (by decide +kernel) (pa_cons (pe_lc (own := [("_law_pair", 8)]) (by rfl) S.nd (pi_listK (K := K) rfl (pe_ix (ix_ltK (K := K) rfl) (pe_ix (ix_ltK (K := K) rfl) (pv 0) pe_int (fun _ _ => rfl)) (pv 5) (fun _ _ => rfl))) (blkOk_by (own := [("_law_pair", 8)]) (by kernel_rfl)) (fun _ _ _ _ _ => (pg_name (i := 8) S.nd rfl (Or.inl rfl))) (fun _ _ _ _ _ => (pts_one (pt_cmpR (op_inK (K := K) rfl) (pe_ix (ix_ltK (K := K) rfl) (pv 8) pe_int (fun _ _ => rfl)) (pe_lc (own := [("_law_mine", 10)]) (by rfl) S.nd (pi_listK (K := K) rfl (pv 1)) (blkOk_by (own := [("_law_mine", 10)]) (by kernel_rfl)) (fun _ _ _ _ _ => (pg_name (i := 10) S.nd rfl (Or.inl rfl))) (fun _ _ _ _ _ => pts_nil) (fun _ _ _ _ _ => (pe_ix (ix_ltK (K := K) rfl) (pv 10) pe_int (fun _ _ => rfl)))) (by rfl)))) (fun _ _ _ _ _ => (pv 8))) pa_nil)) pe_int (nomark _)))
      (pss_cons (ps_set (i := 7) S.nd rfl (Or.inl rfl) (pe_cmpR op_gt (pe_callB (k_lenK (K := K) rfl) (by rfl) T.b_len (by decide +kernel) (pa_cons (pe_lc (own := [("_law_one", 9)]) (by rfl) S.nd (pi_listK (K := K) rfl (pv 2)) (blkOk_by (own := [("_law_one", 9)]) (by kernel_rfl)) (fun _ _ _ _ _ => (pg_name (i := 9) S.nd rfl (Or.inl rfl))) (fun _ _ _ _ _ => (pts_one (pt_cmpR (op_inK (K := K) rfl) (pv 5) (pe_ix (ix_ltK (K := K) rfl) (pe_ix (ix_ltK (K := K) rfl) (pv 0) pe_int (fun _ _ => rfl)) (pv 9) (fun _ _ => rfl)) (by rfl)))) (fun _ _ _ _ _ => (pv 9))) pa_nil)) pe_int (nomark _)))
      (pss_one (ps_if (PW.pt (pw_or (pt_cmpR (op_inK (K := K) rfl) (pv 5) (pv 3) (by rfl)) (pw_or (pt_val (pv 7)) (pw_or1 (PW.pt (pw_and (pt_val (pv 6)) (pw_and1 (pt_cmpR (op_notInK (K := K) rfl) (pv 5) (pv 2) (by rfl))))))))) (pss_one (ps_expr (pe_appK (K := K) rfl (pv 4) (pa_cons (pv 5) pa_nil)))) pss_nil)))))
      (pss_one (ps_ret (pe_lc (own := [("_law_other", 5)]) (by rfl) S.nd (pi_range2 (by rfl) T.b_range (pa_cons pe_int (pa_cons (pe_callB (k_lenK (K := K) rfl) (by rfl) T.b_len (by decide +kernel) (pa_cons (pe_ix (ix_ltK (K := K) rfl) (pv 0) pe_int (fun _ _ => rfl)) pa_nil)) pa_nil))) (blkOk_by (own := [("_law_other", 5)]) (by kernel_rfl)) (fun _ _ _ _ _ => (pg_name (i := 5) S.nd rfl (Or.inl rfl))) (fun _ _ _ _ _ => (pts_one (PW.pt (pw_or (pt_cmpR (op_inK (K := K) rfl) (pv 5) (pv 4) (by rfl)) (pw_or1 (pt_cmpR op_gt (pe_callB (k_lenK (K := K) rfl) (by rfl) T.b_len (by decide +kernel) (pa_cons (pe_lc (own := [("_law_one", 9)]) (by rfl) S.nd (pi_listK (K := K) rfl (pe_ix (ix_ltK (K := K) rfl) (pe_ix (ix_ltK (K := K) rfl) (pv 0) pe_int (fun _ _ => rfl)) (pv 5) (fun _ _ => rfl))) (blkOk_by (own := [("_law_one", 9)]) (by kernel_rfl)) (fun _ _ _ _ _ => (pg_name (i := 9) S.nd rfl (Or.inl rfl))) (fun _ _ _ _ _ => (pts_one (pt_cmpR (op_inK (K := K) rfl) (pv 9) (pv 4) (by rfl)))) (fun _ _ _ _ _ => (pv 9))) pa_nil)) pe_int (nomark _))))))) (fun _ _ _ _ _ => (pv 5))))))), ?_⟩
  obtain ⟨xw, hwa, fw_⟩ := hw.at_
  walk_at "rd"
  refine ⟨ll (by simp), fun q hq => ?_⟩
  walk_at "rd"
  refine rd_for ?_
  walk_at "rd"
  obtain ⟨xs1, h1, f1⟩ := hm.h1.at_
  have s0 : Same H (upd H q (.lst [])) := Same.new hq
  refine rd_iL (sl (s0 _ _ hm.m)) (by rfl) ?_
  walk_at "rd"
  refine rd_lenL (sl (s0 _ _ h1)) ?_
  walk_at "rd"
  have hN := sh.n
  have l1 : (xs1.length : Int) = 1 + (N : Nat) := by rw [f1.length, sh.wr]; omega
  refine rg2N N l1 (by omega) (by omega) (by omega) ?_
  refine for_range (fun i σ H' => ∃ x y z : Option V, σ = [some (.ref A.m), some (.ref a), some (.ref b), some (.ref c), some (.ref q), x, y, z, none, none, none] ∧ Same H H' ∧ H' q = some (.lst (iv (((upto N).take i).filter (hitB M ws nd qu))))) ⟨_, _, _, rfl, s0, by rw [upd_same]; simp⟩ ?_ ?_
  · rintro i σ H' hi ⟨x0, y0, z0, rfl, s1, hq1⟩
    have en : (1 : Int) + (i : Int) = (i : Int) + 1 := by omega
    have up : (upto N)[i]? = some ((i : Int) + 1) := upto_at hi
    have tk := take_snoc up
    obtain ⟨vo, eo, bo, xo, rfl, ho, fo⟩ := f1.getR (getD_at (d := []) (i := ((i : Int) + 1).toNat) (by rw [sh.wr]; omega))
    have wol := wl _ (List.mem_of_getElem? (getD_at (xs := M.wr) (d := []) (i := ((i : Int) + 1).toNat) (by rw [sh.wr]; omega)))
    walk_at "rd"
    rw [en]
    refine rd_iL (sl (s1 _ _ hm.m)) (by rfl) ?_
    walk_at "rd"
    refine rd_iL (sl (s1 _ _ h1)) (atI_nn (by omega) eo) ?_
    refine ⟨_, rfl, ⟨_, sl (s1 _ _ ho)⟩, fun D hD => ?_⟩
    refine lcD (fun p : Int × Int => decide (p.1 ∈ ws.map (·.1))) (fun _ _ _ => True) (sl (s1 _ _ ho)) fo hD (by omega) (fun _ _ _ _ _ q => q) (fun x pr H3 ⟨ap, ex, hp⟩ hpr s3 nD R1 R0 r1 r0 => ?_) fun H3 ys s3 h3 f3 => ?_
    · subst ex
      have s13 := s1.trans s3
      walk_at "rd"
      refine ⟨rfl, ?_⟩
      walk_at "rd"
      refine rd_iT (v := .int pr.1) (stp (s13 _ _ hp)) (by rfl) ?_
      walk_at "rd"
      refine ⟨_, rfl, ⟨_, sl (s13 _ _ hwa)⟩, fun D2 hD2 => ?_⟩
      refine lcDv (fun _ => true) (fun p : Int × Int => .int p.1) (sl (s13 _ _ hwa)) fw_ hD2 (by omega) (fun x pr2 H4 ⟨ap2, ex2, hp2⟩ _ s4 R1' R0' r1' r0' => ?_) fun H4 s4 h4 => ?_
      · subst ex2
        walk_at "rd"
        refine ⟨rfl, ?_⟩
        walk_at "rd"
        refine rd_iT (v := .int pr2.1) (stp ((s13.trans s4) _ _ hp2)) (by rfl) ?_
        exact r1' rfl _ (Same.refl _)
      · have e4 : H4 D2 = some (.lst (iv (ws.map (·.1)))) := by
          rw [h4, filter_tt]; simp
        refine rd_inL (sl e4) ?_
        walk_at "rd"
        refine rd_ite (fun c => ?_) fun c => r0 (decide_eq_false c) _ s4
        walk_at "rd"
        exact r1 (decide_eq_true c) _ _ s4 (.pure trivial)
    · have s13 := s1.trans s3
      walk_at "rd"
      refine rd_lenL (sl h3) ?_
      walk_at "rd"
      have esh : decide ((0 : Int) < (ys.length : Int)) = sharedF M ws ((i : Int) + 1) := by
        rw [← f3.length]; exact len_pos_any _
      rw [esh]
      walk_at "rd"
      refine ⟨_, rfl, ⟨_, sl (s13 _ _ hb)⟩, fun D2 hD2 => ?_⟩
      refine lcI (fun d => decide ((i : Int) + 1 ∈ brA M d)) V.int (sl (s13 _ _ hb)) hD2 (by omega) (fun x H4 hx s4 R1' R0' r1' r0' => ?_) fun H4 s4 h4 => ?_
      · have s14 := s13.trans s4
        have dx := nn x hx
        obtain ⟨xs4, h4', f4⟩ := hm.h4.at_
        obtain ⟨v4, e4, b4, rfl, i4⟩ := f4.getR (getD_at (d := []) (i := x.toNat) (by rw [sh.br]; omega))
        walk_at "rd"
        refine ⟨rfl, ?_⟩
        walk_at "rd"
        refine rd_iL (sl (s14 _ _ hm.m)) (by rfl) ?_
        walk_at "rd"
        refine rd_iL (sl (s14 _ _ h4')) (atI_nn dx.1 e4) ?_
        walk_at "rd"
        refine rd_inL (sl (s14 _ _ i4)) ?_
        walk_at "rd"
        refine rd_ite (fun c => ?_) fun c => r0' (decide_eq_false c) _ (Same.refl _)
        walk_at "rd"
        exact r1' (decide_eq_true c) _ (Same.refl _)
      · have s14 := s13.trans s4
        have s34 := s3.trans s4
        walk_at "rd"
        refine rd_lenL (sl h4) ?_
        walk_at "rd"
        have e5 : (((nd.filter fun d => decide ((i : Int) + 1 ∈ brA M d)).map V.int).length : Int) = ((nd.filter fun d => decide ((i : Int) + 1 ∈ brA M d)).length : Int) := by simp
        rw [e5, len_pos_any]
        have yes : hitB M ws nd qu ((i : Int) + 1) = true → tDrop (tBM K "list" rAppend (tVar 4) (tCons (tVar 5) tNil)) ⟨fun σ H' => ∃ x y z : Option V, σ = [some (.ref A.m), some (.ref a), some (.ref b), some (.ref c), some (.ref q), x, y, z, none, none, none] ∧ Same H H' ∧ H' q = some (.lst (iv (((upto N).take (i + 1)).filter (hitB M ws nd qu)))), Q, fun _ _ => False, fun _ _ => False⟩
            [some (.ref A.m), some (.ref a), some (.ref b), some (.ref c), some (.ref q), some (.int ((i : Int) + 1)), some (.bl (sharedF M ws ((i : Int) + 1))), some (.bl (nd.any fun d => decide ((i : Int) + 1 ∈ brA M d))), none, none, none] H4 := fun hit => by
          walk_at "rd"
          refine rd_tyL (s34 _ _ hq1) ?_
          walk_at "rd"
          refine rd_push (s34 _ _ hq1) (by
            rw [List.length_map]
            have := List.length_filter_le (hitB M ws nd qu) ((upto N).take i)
            have : ((upto N).take i).length ≤ i := by simp; omega
            omega) ?_
          refine ⟨_, _, _, rfl, Same.upd s14 hq, ?_⟩
          rw [upd_same, tk, List.filter_append]
          have z : List.filter (hitB M ws nd qu) [(i : Int) + 1] = [(i : Int) + 1] := by simp [hit]
          rw [z]; simp
        have no : hitB M ws nd qu ((i : Int) + 1) = false → ∃ x y z : Option V, ([some (.ref A.m), some (.ref a), some (.ref b), some (.ref c), some (.ref q), some (.int ((i : Int) + 1)), some (.bl (sharedF M ws ((i : Int) + 1))), some (.bl (nd.any fun d => decide ((i : Int) + 1 ∈ brA M d))), none, none, none] : L2.St) = [some (.ref A.m), some (.ref a), some (.ref b), some (.ref c), some (.ref q), x, y, z, none, none, none] ∧ Same H H4 ∧ H4 q = some (.lst (iv (((upto N).take (i + 1)).filter (hitB M ws nd qu)))) := fun hit => by
          refine ⟨_, _, _, rfl, s14, ?_⟩
          rw [tk, List.filter_append]
          have z : List.filter (hitB M ws nd qu) [(i : Int) + 1] = [] := by simp [hit]
          rw [z, List.append_nil]
          exact s34 _ _ hq1
        have hb0 : hitB M ws nd qu ((i : Int) + 1) = (decide ((i : Int) + 1 ∈ qu) || (nd.any fun d => decide ((i : Int) + 1 ∈ brA M d)) || (sharedF M ws ((i : Int) + 1) && !decide ((i : Int) + 1 ∈ nd))) := rfl
        walk_at "rd"
        refine rd_inL (sl (s14 _ _ hc)) ?_
        walk_at "rd"
        refine rd_ite (fun c1 => ?_) fun c1 => ?_
        · exact yes (by rw [hb0, decide_eq_true c1]; rfl)
        rw [decide_eq_false c1] at hb0
        walk_at "rd"
        generalize hA : (nd.any fun d => decide ((i : Int) + 1 ∈ brA M d)) = anyB at *
        refine rd_iteb (fun c2 => ?_) fun c2 => ?_
        · exact yes (by rw [hb0, c2]; rfl)
        rw [c2] at hb0
        walk_at "rd"
        generalize hS : sharedF M ws ((i : Int) + 1) = shB at *
        refine rd_iteb (fun c3 => ?_) fun c3 => ?_
        · walk_at "rd"
          refine rd_inL (sl (s14 _ _ hb)) ?_
          walk_at "rd"
          refine rd_iteN (fun c4 => ?_) fun c4 => ?_
          · exact yes (by rw [hb0, c3, decide_eq_false c4]; rfl)
          · exact no (by rw [hb0, c3, decide_eq_true c4]; rfl)
        · exact no (by rw [hb0, c3]; rfl)
  · rintro σ H' ⟨x0, y0, z0, rfl, s1, hq1⟩
    rw [List.take_of_length_le (by rw [upto_length]; exact Nat.le_refl _)] at hq1
    have hq1 : H' q = some (.lst (iv (hitF M N ws nd qu))) := hq1
    walk_at "rd"
    refine rd_iL (sl (s1 _ _ hm.m)) (by rfl) ?_
    walk_at "rd"
    refine rd_lenL (sl (s1 _ _ h1)) ?_
    walk_at "rd"
    refine rg2N N l1 (by omega) (by omega) (by omega) fun D hD => ?_
    refine lcRv (fun i => decide ((i : Int) + 1 ∈ hitF M N ws nd qu) || (ndA M ((i : Int) + 1)).any fun d => decide (d ∈ hitF M N ws nd qu)) (fun i => .int ((i : Int) + 1)) hD (by omega) (fun i H3 hi s3 R1 R0 r1 r0 => ?_) fun H3 s3 h3 => ?_
    · have en : (1 : Int) + (i : Int) = (i : Int) + 1 := by omega
      rw [en]
      walk_at "rd"
      refine ⟨rfl, ?_⟩
      walk_at "rd"
      refine rd_inL (sl (s3 _ _ hq1)) ?_
      walk_at "rd"
      refine rd_ite (fun d => ?_) fun d => ?_
      · walk_at "rd"
        exact r1 (by simp only [decide_eq_true d]; rfl) _ (Same.refl _)
      · have s13 := s1.trans s3
        obtain ⟨xs3, h3', f3⟩ := hm.h3.at_
        have egn := getD_at (xs := M.nd) (d := []) (i := ((i : Int) + 1).toNat) (by rw [sh.nd]; omega)
        obtain ⟨v3, e3, b3, rfl, i3⟩ := f3.getR egn
        have ln := sh.ndl _ (List.mem_of_getElem? egn)
        walk_at "rd"
        refine rd_iL (sl (s13 _ _ hm.m)) (by rfl) ?_
        walk_at "rd"
        refine rd_iL (sl (s13 _ _ h3')) (atI_nn (by omega) e3) ?_
        refine ⟨_, rfl, ⟨_, sl (s13 _ _ i3)⟩, fun D2 hD2 => ?_⟩
        refine lcI (fun d => decide (d ∈ hitF M N ws nd qu)) V.int (sl (s13 _ _ i3)) hD2 (by omega) (fun x H4 hx s4 R1' R0' r1' r0' => ?_) fun H4 s4 h4 => ?_
        · walk_at "rd"
          refine ⟨rfl, ?_⟩
          walk_at "rd"
          refine rd_inL (sl ((s3.trans s4) _ _ hq1)) ?_
          walk_at "rd"
          refine rd_ite (fun c => ?_) fun c => r0' (decide_eq_false c) _ (Same.refl _)
          walk_at "rd"
          exact r1' (decide_eq_true c) _ (Same.refl _)
        · walk_at "rd"
          refine rd_lenL (sl h4) ?_
          walk_at "rd"
          have e5 : ((((ndA M ((i : Int) + 1)).filter fun d => decide (d ∈ hitF M N ws nd qu)).map V.int).length : Int) = (((ndA M ((i : Int) + 1)).filter fun d => decide (d ∈ hitF M N ws nd qu)).length : Int) := by simp
          show if decide ((0 : Int) < ((((ndA M ((i : Int) + 1)).filter fun d => decide (d ∈ hitF M N ws nd qu)).map V.int).length : Int)) = true then _ else _
          rw [e5, len_pos_any]
          refine rd_iteb (fun c => ?_) fun c => r0 (by simp only [c, decide_eq_false d]; rfl) _ s4
          walk_at "rd"
          exact r1 (by simp [c]) _ s4
    · walk_at "rd"
      refine h _ _ (s1.trans s3) (s1.free hD) ?_
      rw [h3]
      unfold barsF
      rw [← upto_filter]
      simp [Function.comp_def]
end
end LK
set_option maxHeartbeats 4000000
/-! The law's model: what holds of it as it grows. -/
namespace LK
def wrA (M : Mod) (p : Int) : List (Int × Int) := M.wr.getD p.toNat []
def dmA (M : Mod) (p : Int) : List Int := M.dm.getD p.toNat []
def quA (M : Mod) (p : Int) : List Int := M.qu.getD p.toNat []
structure WrOk (ws : List (Int × Int)) : Prop where
  l1 : 1 ≤ ws.length
  l2 : ws.length ≤ 2
  c : ∀ w ∈ ws, 0 ≤ w.1 ∧ w.1 < 3
  d : (ws.map (·.1)).Nodup
def HitP (M : Mod) (p o : Int) : Prop := o ∈ quA M p ∨ (∃ d ∈ ndA M p, o ∈ brA M d) ∨ (sharedF M (wrA M p) o = true ∧ o ∉ ndA M p)
structure Good (M : Mod) (N : Nat) : Prop where
  nN : N ≤ 20
  lwr : M.wr.length = N + 1
  lsz : M.sz.length = N + 1
  lnd : M.nd.length = N + 1
  lbr : M.br.length = N + 1
  ldm : M.dm.length = N + 1
  lqu : M.qu.length = N + 1
  wl : ∀ x ∈ M.wr, x.length ≤ 2
  nl : ∀ x ∈ M.nd, x.length ≤ 20
  bl : ∀ x ∈ M.br, x.length ≤ N
  dl : ∀ x ∈ M.dm, x.length ≤ 20
  ql : ∀ x ∈ M.qu, x.length ≤ 20
  wr : ∀ p : Int, 1 ≤ p → p ≤ N → WrOk (wrA M p)
  sz : ∀ z ∈ M.sz, 0 ≤ z ∧ z ≤ 3
  dm : ∀ p : Int, 1 ≤ p → p ≤ N → ∀ o ∈ dmA M p, 1 ≤ o ∧ o < p
  qu : ∀ p : Int, 1 ≤ p → p ≤ N → ∀ o ∈ quA M p, 1 ≤ o ∧ o < p
  nd : ∀ p o : Int, 1 ≤ p → p ≤ N → (o ∈ ndA M p ↔ (1 ≤ o ∧ o < p) ∧ (o ∈ dmA M p ∨ ∃ d ∈ dmA M p, o ∈ ndA M d))
  nds : ∀ p : Int, 1 ≤ p → p ≤ N → (ndA M p).Pairwise (· < ·)
  brr : ∀ p o : Int, 1 ≤ p → p ≤ N → o ∈ brA M p → 1 ≤ o ∧ o ≤ N ∧ o ≠ p
  brs : ∀ p o : Int, 1 ≤ p → p ≤ N → 1 ≤ o → o ≤ N → (o ∈ brA M p ↔ p ∈ brA M o)
  brc : ∀ p o : Int, 1 ≤ p → p ≤ N → 1 ≤ o → o < p → (o ∈ brA M p ↔ HitP M p o ∨ ∃ d ∈ ndA M o, HitP M p d)
  disj : ∀ p o : Int, 1 ≤ p → p ≤ N → o ∈ brA M p → o ∉ ndA M p
theorem Good.sh {M : Mod} {N : Nat} (g : Good M N) : Sh M N :=
  ⟨g.lwr, g.lsz, g.lnd, g.lbr, g.ldm, g.lqu, by have := g.nN; omega, fun x h => by have := g.nl x h; omega, fun x h => by have := g.bl x h; have := g.nN; omega, fun x h => by have := g.dl x h; omega, fun x h => by have := g.ql x h; omega⟩
/-- the bars told to those barred -/
def barAdd (p : Int) (bars : List Int) (br : List (List Int)) : List (List Int) := bars.foldl (fun br o => br.set o.toNat (br.getD o.toNat [] ++ [p])) br
theorem getD_set {α : Type} {xs : List α} {i j : Nat} {v d : α} (hi : i < xs.length) : (xs.set i v).getD j d = if i = j then v else xs.getD j d := by
  rw [List.getD_eq_getElem?_getD, List.getD_eq_getElem?_getD, List.getElem?_set]
  by_cases h : i = j
  · subst h; simp [hi]
  · simp [h]
theorem barAdd_length (p : Int) : ∀ (bars : List Int) (br : List (List Int)), (barAdd p bars br).length = br.length
  | [], _ => rfl
  | o :: bars, br => by
    unfold barAdd
    rw [List.foldl_cons]
    exact (barAdd_length p bars _).trans (by simp)
theorem barAdd_at (p : Int) : ∀ (bars : List Int) (br : List (List Int)), bars.Nodup → (∀ o ∈ bars, 0 ≤ o ∧ o.toNat < br.length) → ∀ i : Nat, (barAdd p bars br).getD i [] = br.getD i [] ++ (if (i : Int) ∈ bars then [p] else [])
  | [], br, _, _, i => by simp [barAdd]
  | o :: bars, br, hn, hr, i => by
    have ho := hr o List.mem_cons_self
    have ih := barAdd_at p bars (br.set o.toNat (br.getD o.toNat [] ++ [p])) (List.nodup_cons.mp hn).2 (fun x hx => by rw [List.length_set]; exact hr x (List.mem_cons_of_mem _ hx)) i
    show (barAdd p bars (br.set o.toNat (br.getD o.toNat [] ++ [p]))).getD i [] = _
    rw [ih, getD_set ho.2]
    have hno := (List.nodup_cons.mp hn).1
    by_cases c : o.toNat = i
    · have e : (i : Int) = o := by omega
      rw [if_pos c, e, if_neg hno, if_pos List.mem_cons_self, c]
      simp
    · have e : (i : Int) ≠ o := by omega
      rw [if_neg c]
      have : ((i : Int) ∈ o :: bars) ↔ ((i : Int) ∈ bars) := by simp [e]
      simp [this]
def grown (M : Mod) (N : Nat) (ws : List (Int × Int)) (e : Int) (nd bars ds qs : List Int) : Mod :=
  { base := M.base, wr := M.wr ++ [ws], sz := M.sz ++ [e], nd := M.nd ++ [nd], br := barAdd ((N : Int) + 1) bars (M.br ++ [bars]), dm := M.dm ++ [ds], qu := M.qu ++ [qs] }
theorem getD_app {α : Type} {xs : List α} {x d : α} {i : Nat} : (xs ++ [x]).getD i d = if i = xs.length then x else xs.getD i d := by
  rw [List.getD_eq_getElem?_getD, List.getD_eq_getElem?_getD]
  by_cases h : i = xs.length
  · subst h; simp
  · rw [if_neg h]
    by_cases h2 : i < xs.length
    · rw [List.getElem?_append_left h2]
    · rw [List.getElem?_eq_none (by simp; omega), List.getElem?_eq_none (by omega)]
theorem mem_upto {N : Nat} {o : Int} : o ∈ upto N ↔ 1 ≤ o ∧ o ≤ N := by
  unfold upto
  rw [List.mem_map]
  constructor
  · rintro ⟨i, hi, rfl⟩
    have := List.mem_range.mp hi
    omega
  · intro h
    exact ⟨(o - 1).toNat, List.mem_range.mpr (by omega), by omega⟩
theorem upto_asc (N : Nat) : (upto N).Pairwise (· < ·) := by
  unfold upto
  refine List.pairwise_map.mpr ?_
  refine List.Pairwise.imp ?_ List.pairwise_lt_range
  intro a b h
  omega
theorem upto_nodup (N : Nat) : (upto N).Nodup := (upto_asc N).imp fun h e => by omega
theorem mem_needsF {M : Mod} {N : Nat} {ds : List Int} {o : Int} : o ∈ needsF M N ds ↔ (1 ≤ o ∧ o ≤ N) ∧ (o ∈ ds ∨ ∃ d ∈ ds, o ∈ ndA M d) := by
  unfold needsF
  rw [List.mem_filter, mem_upto]
  simp
theorem mem_hitF {M : Mod} {N : Nat} {ws : List (Int × Int)} {nd qu : List Int} {o : Int} : o ∈ hitF M N ws nd qu ↔ (1 ≤ o ∧ o ≤ N) ∧ (o ∈ qu ∨ (∃ d ∈ nd, o ∈ brA M d) ∨ (sharedF M ws o = true ∧ o ∉ nd)) := by
  unfold hitF hitB
  rw [List.mem_filter, mem_upto]
  simp [or_assoc]
theorem mem_barsF {M : Mod} {N : Nat} {ws : List (Int × Int)} {nd qu : List Int} {o : Int} : o ∈ barsF M N ws nd qu ↔ (1 ≤ o ∧ o ≤ N) ∧ (o ∈ hitF M N ws nd qu ∨ ∃ d ∈ ndA M o, d ∈ hitF M N ws nd qu) := by
  unfold barsF
  rw [List.mem_filter, mem_upto]
  simp
section
variable {M : Mod} {N : Nat} {ws : List (Int × Int)} {e : Int} {nd bars ds qs : List Int}
theorem grown_nd (g : Good M N) {p : Int} (h0 : 0 ≤ p) : ndA (grown M N ws e nd bars ds qs) p = if p = N + 1 then nd else ndA M p := by
  show (M.nd ++ [nd]).getD p.toNat [] = _
  rw [getD_app, g.lnd]
  by_cases h : p = N + 1
  · rw [if_pos (by omega), if_pos h]
  · rw [if_neg (by omega), if_neg h]; rfl
theorem grown_wr (g : Good M N) {p : Int} (h0 : 0 ≤ p) : wrA (grown M N ws e nd bars ds qs) p = if p = N + 1 then ws else wrA M p := by
  show (M.wr ++ [ws]).getD p.toNat [] = _
  rw [getD_app, g.lwr]
  by_cases h : p = N + 1
  · rw [if_pos (by omega), if_pos h]
  · rw [if_neg (by omega), if_neg h]; rfl
theorem grown_dm (g : Good M N) {p : Int} (h0 : 0 ≤ p) : dmA (grown M N ws e nd bars ds qs) p = if p = N + 1 then ds else dmA M p := by
  show (M.dm ++ [ds]).getD p.toNat [] = _
  rw [getD_app, g.ldm]
  by_cases h : p = N + 1
  · rw [if_pos (by omega), if_pos h]
  · rw [if_neg (by omega), if_neg h]; rfl
theorem grown_qu (g : Good M N) {p : Int} (h0 : 0 ≤ p) : quA (grown M N ws e nd bars ds qs) p = if p = N + 1 then qs else quA M p := by
  show (M.qu ++ [qs]).getD p.toNat [] = _
  rw [getD_app, g.lqu]
  by_cases h : p = N + 1
  · rw [if_pos (by omega), if_pos h]
  · rw [if_neg (by omega), if_neg h]; rfl
theorem grown_br (g : Good M N) (hb : bars.Nodup) (hr : ∀ o ∈ bars, 1 ≤ o ∧ o ≤ N) {p : Int} (h0 : 0 ≤ p) : brA (grown M N ws e nd bars ds qs) p = if p = N + 1 then bars else brA M p ++ (if p ∈ bars then [(N : Int) + 1] else []) := by
  show (barAdd ((N : Int) + 1) bars (M.br ++ [bars])).getD p.toNat [] = _
  rw [barAdd_at _ _ _ hb (fun o ho => by have := hr o ho; simp [g.lbr]; omega), getD_app, g.lbr]
  have ep : ((p.toNat : Nat) : Int) = p := by omega
  rw [ep]
  by_cases h : p = N + 1
  · have : p ∉ bars := fun z => by have := hr p z; omega
    rw [if_pos (by omega), if_pos h, if_neg this, List.append_nil]
  · rw [if_neg (by omega), if_neg h]; rfl
theorem grown_good (g : Good M N) (hN : N < 20) (hw : WrOk ws) (he : 0 ≤ e ∧ e ≤ 3) (hd : ∀ o ∈ ds, 1 ≤ o ∧ o ≤ N) (hdl : ds.length ≤ 20) (hq : ∀ o ∈ qs, 1 ≤ o ∧ o ≤ N) (hql : qs.length ≤ 20)
    (en : nd = needsF M N ds) (eb : bars = barsF M N ws nd qs) (dis : ∀ o ∈ bars, o ∉ nd) : Good (grown M N ws e nd bars ds qs) (N + 1) := by
  have br : ∀ o ∈ bars, 1 ≤ o ∧ o ≤ N := fun o ho => by rw [eb] at ho; exact (mem_barsF.mp ho).1
  have bn : bars.Nodup := by rw [eb]; exact (upto_nodup N).filter _
  have bll : bars.length ≤ N := by
    rw [eb]
    have := List.length_filter_le (fun o => decide (o ∈ hitF M N ws nd qs) || (ndA M o).any fun d => decide (d ∈ hitF M N ws nd qs)) (upto N)
    rw [upto_length] at this
    exact this
  have nll : nd.length ≤ N := by
    rw [en]
    have := List.length_filter_le (fun o => decide (o ∈ ds) || ds.any fun d => decide (o ∈ ndA M d)) (upto N)
    rw [upto_length] at this
    exact this
  have nr : ∀ o ∈ nd, 1 ≤ o ∧ o ≤ N := fun o ho => by rw [en] at ho; exact (mem_needsF.mp ho).1
  -- the model as it was
  have oldN : ∀ {p : Int}, 1 ≤ p → p ≤ N → ndA (grown M N ws e nd bars ds qs) p = ndA M p := fun {p} h1 h2 => by rw [grown_nd g (by omega), if_neg (by omega)]
  have oldW : ∀ {p : Int}, 1 ≤ p → p ≤ N → wrA (grown M N ws e nd bars ds qs) p = wrA M p := fun {p} h1 h2 => by rw [grown_wr g (by omega), if_neg (by omega)]
  have oldD : ∀ {p : Int}, 1 ≤ p → p ≤ N → dmA (grown M N ws e nd bars ds qs) p = dmA M p := fun {p} h1 h2 => by rw [grown_dm g (by omega), if_neg (by omega)]
  have oldQ : ∀ {p : Int}, 1 ≤ p → p ≤ N → quA (grown M N ws e nd bars ds qs) p = quA M p := fun {p} h1 h2 => by rw [grown_qu g (by omega), if_neg (by omega)]
  have oldB : ∀ {p : Int}, 1 ≤ p → p ≤ N → ∀ {o : Int}, o ∈ brA (grown M N ws e nd bars ds qs) p ↔ o ∈ brA M p ∨ (o = N + 1 ∧ p ∈ bars) := fun {p} h1 h2 {o} => by
    rw [grown_br g bn br (by omega), if_neg (by omega), List.mem_append]
    by_cases c : p ∈ bars <;> simp [c]
  have newN : ndA (grown M N ws e nd bars ds qs) (N + 1) = nd := by rw [grown_nd g (by omega), if_pos rfl]
  have newW : wrA (grown M N ws e nd bars ds qs) (N + 1) = ws := by rw [grown_wr g (by omega), if_pos rfl]
  have newD : dmA (grown M N ws e nd bars ds qs) (N + 1) = ds := by rw [grown_dm g (by omega), if_pos rfl]
  have newQ : quA (grown M N ws e nd bars ds qs) (N + 1) = qs := by rw [grown_qu g (by omega), if_pos rfl]
  have newB : brA (grown M N ws e nd bars ds qs) (N + 1) = bars := by rw [grown_br g bn br (by omega), if_pos rfl]
  have sh : ∀ {v : List (Int × Int)} {o : Int}, 1 ≤ o → o ≤ N → sharedF (grown M N ws e nd bars ds qs) v o = sharedF M v o := fun {v o} h1 h2 => by
    have := oldW h1 h2
    unfold wrA at this
    unfold sharedF
    rw [this]
  -- hits
  have hitOld : ∀ {p o : Int}, 1 ≤ p → p ≤ N → 1 ≤ o → o < p → (HitP (grown M N ws e nd bars ds qs) p o ↔ HitP M p o) := fun {p o} h1 h2 h3 h4 => by
    unfold HitP
    rw [oldQ h1 h2, oldN h1 h2, oldW h1 h2, sh h3 (by omega)]
    have : (∃ d ∈ ndA M p, o ∈ brA (grown M N ws e nd bars ds qs) d) ↔ (∃ d ∈ ndA M p, o ∈ brA M d) := by
      constructor
      · rintro ⟨d, hd1, hd2⟩
        have := ((g.nd p d h1 h2).mp hd1).1
        rcases (oldB this.1 (by omega)).mp hd2 with z | z
        · exact ⟨d, hd1, z⟩
        · omega
      · rintro ⟨d, hd1, hd2⟩
        have := ((g.nd p d h1 h2).mp hd1).1
        exact ⟨d, hd1, (oldB this.1 (by omega)).mpr (.inl hd2)⟩
    rw [this]
  have hitNew : ∀ {o : Int}, 1 ≤ o → o ≤ N → (HitP (grown M N ws e nd bars ds qs) (N + 1) o ↔ o ∈ hitF M N ws nd qs) := fun {o} h3 h4 => by
    unfold HitP
    rw [newQ, newN, newW, sh h3 h4, mem_hitF]
    have : (∃ d ∈ nd, o ∈ brA (grown M N ws e nd bars ds qs) d) ↔ (∃ d ∈ nd, o ∈ brA M d) := by
      constructor
      · rintro ⟨d, hd1, hd2⟩
        have := nr d hd1
        rcases (oldB this.1 (by omega)).mp hd2 with z | z
        · exact ⟨d, hd1, z⟩
        · omega
      · rintro ⟨d, hd1, hd2⟩
        have := nr d hd1
        exact ⟨d, hd1, (oldB this.1 (by omega)).mpr (.inl hd2)⟩
    rw [this]
    exact ⟨fun z => ⟨⟨h3, h4⟩, z⟩, fun z => z.2⟩
  have cast : ((N + 1 : Nat) : Int) = (N : Int) + 1 := by omega
  constructor
  · omega
  · simp [grown, g.lwr]
  · simp [grown, g.lsz]
  · simp [grown, g.lnd]
  · simp [grown, barAdd_length, g.lbr]
  · simp [grown, g.ldm]
  · simp [grown, g.lqu]
  · intro x hx
    rcases List.mem_append.mp hx with z | z
    · exact g.wl x z
    · rw [List.mem_singleton.mp z]; exact hw.l2
  · intro x hx
    rcases List.mem_append.mp hx with z | z
    · exact g.nl x z
    · rw [List.mem_singleton.mp z]; omega
  · intro x hx
    obtain ⟨i, hi⟩ := List.mem_iff_getElem?.mp hx
    have hlt := (List.getElem?_eq_some_iff.mp hi).1
    have hg := getD_at (d := []) hlt
    rw [hi] at hg
    have e1 : x = brA (grown M N ws e nd bars ds qs) (i : Int) := by
      unfold brA
      rw [Int.toNat_natCast]
      exact Option.some.inj hg
    rw [e1, grown_br g bn br (by omega)]
    split
    · omega
    · rw [List.length_append]
      have : (brA M (i : Int)).length ≤ N := by
        by_cases c : ((i : Int)).toNat < M.br.length
        · exact g.bl _ (getD_mem c)
        · unfold brA
          rw [List.getD_eq_getElem?_getD, List.getElem?_eq_none (by omega)]
          exact Nat.zero_le _
      split <;> simp <;> omega
  · intro x hx
    rcases List.mem_append.mp hx with z | z
    · exact g.dl x z
    · rw [List.mem_singleton.mp z]; exact hdl
  · intro x hx
    rcases List.mem_append.mp hx with z | z
    · exact g.ql x z
    · rw [List.mem_singleton.mp z]; exact hql
  · intro p h1 h2
    by_cases c : p = N + 1
    · subst c; rw [newW]; exact hw
    · rw [oldW h1 (by omega)]; exact g.wr p h1 (by omega)
  · intro x hx
    rcases List.mem_append.mp hx with z | z
    · exact g.sz x z
    · rw [List.mem_singleton.mp z]; exact he
  · intro p h1 h2 o ho
    by_cases c : p = N + 1
    · subst c; rw [newD] at ho; have := hd o ho; omega
    · rw [oldD h1 (by omega)] at ho; exact g.dm p h1 (by omega) o ho
  · intro p h1 h2 o ho
    by_cases c : p = N + 1
    · subst c; rw [newQ] at ho; have := hq o ho; omega
    · rw [oldQ h1 (by omega)] at ho; exact g.qu p h1 (by omega) o ho
  · intro p o h1 h2
    by_cases c : p = N + 1
    · subst c
      rw [newN, newD, en, mem_needsF]
      have : (∃ d ∈ ds, o ∈ ndA (grown M N ws e (needsF M N ds) bars ds qs) d) ↔ (∃ d ∈ ds, o ∈ ndA M d) := by
        rw [← en]
        constructor
        · rintro ⟨d, a, b⟩
          have := hd d a
          rw [oldN this.1 this.2] at b
          exact ⟨d, a, b⟩
        · rintro ⟨d, a, b⟩
          have := hd d a
          exact ⟨d, a, by rw [oldN this.1 this.2]; exact b⟩
      rw [this]
      constructor
      · rintro ⟨a, b⟩; exact ⟨⟨a.1, by omega⟩, b⟩
      · rintro ⟨a, b⟩; exact ⟨⟨a.1, by omega⟩, b⟩
    · rw [oldN h1 (by omega), oldD h1 (by omega), g.nd p o h1 (by omega)]
      have : (∃ d ∈ dmA M p, o ∈ ndA (grown M N ws e nd bars ds qs) d) ↔ (∃ d ∈ dmA M p, o ∈ ndA M d) := by
        constructor
        · rintro ⟨d, a, b⟩
          have := g.dm p h1 (by omega) d a
          rw [oldN this.1 (by omega)] at b
          exact ⟨d, a, b⟩
        · rintro ⟨d, a, b⟩
          have := g.dm p h1 (by omega) d a
          exact ⟨d, a, by rw [oldN this.1 (by omega)]; exact b⟩
      rw [this]
  · intro p h1 h2
    by_cases c : p = N + 1
    · subst c; rw [newN, en]; exact (upto_asc N).filter _
    · rw [oldN h1 (by omega)]; exact g.nds p h1 (by omega)
  · intro p o h1 h2 ho
    by_cases c : p = N + 1
    · subst c
      rw [newB] at ho
      have := br o ho
      omega
    · rcases (oldB h1 (by omega)).mp ho with z | z
      · have := g.brr p o h1 (by omega) z; omega
      · omega
  · intro p o h1 h2 h3 h4
    by_cases c : p = N + 1
    · subst c
      rw [newB]
      by_cases c2 : o = N + 1
      · subst c2; rw [newB]
      · rw [oldB h3 (by omega)]
        constructor
        · intro z; exact .inr ⟨rfl, z⟩
        · rintro (z | z)
          · have := g.brr o _ h3 (by omega) z; omega
          · exact z.2
    · by_cases c2 : o = N + 1
      · subst c2
        rw [newB, oldB h1 (by omega)]
        constructor
        · rintro (z | z)
          · have := g.brr p _ h1 (by omega) z; omega
          · exact z.2
        · intro z; exact .inr ⟨rfl, z⟩
      · rw [oldB h1 (by omega), oldB h3 (by omega), g.brs p o h1 (by omega) h3 (by omega)]
        constructor
        · rintro (z | z)
          · exact .inl z
          · omega
        · rintro (z | z)
          · exact .inl z
          · omega
  · intro p o h1 h2 h3 h4
    by_cases c : p = N + 1
    · subst c
      rw [newB, oldN h3 (by omega), hitNew h3 (by omega), eb, mem_barsF]
      have : (∃ d ∈ ndA M o, HitP (grown M N ws e nd (barsF M N ws nd qs) ds qs) (N + 1) d) ↔ (∃ d ∈ ndA M o, d ∈ hitF M N ws nd qs) := by
        rw [← eb]
        constructor
        · rintro ⟨d, a, b⟩
          have := ((g.nd o d h3 (by omega)).mp a).1
          exact ⟨d, a, (hitNew this.1 (by omega)).mp b⟩
        · rintro ⟨d, a, b⟩
          have := ((g.nd o d h3 (by omega)).mp a).1
          exact ⟨d, a, (hitNew this.1 (by omega)).mpr b⟩
      rw [this]
      exact ⟨fun z => z.2, fun z => ⟨⟨h3, by omega⟩, z⟩⟩
    · rw [oldB h1 (by omega), oldN h3 (by omega), hitOld h1 (by omega) h3 h4]
      have : (∃ d ∈ ndA M o, HitP (grown M N ws e nd bars ds qs) p d) ↔ (∃ d ∈ ndA M o, HitP M p d) := by
        constructor
        · rintro ⟨d, a, b⟩
          have := ((g.nd o d h3 (by omega)).mp a).1
          exact ⟨d, a, (hitOld h1 (by omega) this.1 (by omega)).mp b⟩
        · rintro ⟨d, a, b⟩
          have := ((g.nd o d h3 (by omega)).mp a).1
          exact ⟨d, a, (hitOld h1 (by omega) this.1 (by omega)).mpr b⟩
      rw [this, ← g.brc p o h1 (by omega) h3 h4]
      constructor
      · rintro (z | z)
        · exact z
        · omega
      · exact .inl
  · intro p o h1 h2 ho
    by_cases c : p = N + 1
    · subst c
      rw [newN]
      rw [newB] at ho
      exact dis o ho
    · rw [oldN h1 (by omega)]
      rcases (oldB h1 (by omega)).mp ho with z | z
      · exact g.disj p o h1 (by omega) z
      · intro y
        have := ((g.nd p o h1 (by omega)).mp y).1
        omega
end
end LK
set_option maxHeartbeats 4000000
namespace LK
open PySem PySem.Spec PyProof.Rows L2
local macro_rules | `(tactic| walk_at "rd") => `(tactic| (repeat (first
  | with_reducible refine rd_seq ?_
  | with_reducible refine rd_asg ?_
  | with_reducible refine rd_ret ?_
  | with_reducible refine rd_drop ?_
  | with_reducible refine rd_if ?_
  | with_reducible refine rd_next ?_
  | ((with_reducible apply rd_var); (· exact rfl))
  | with_reducible refine rd_c ?_
  | with_reducible refine rd_op ?_
  | with_reducible refine rd_un ?_
  | with_reducible refine rd_I0 ?_
  | with_reducible refine rd_U ?_
  | with_reducible refine rd_eq ?_
  | with_reducible refine rd_ne ?_
  | with_reducible refine rd_neB ?_
  | with_reducible refine rd_asB ?_
  | with_reducible refine rd_test ?_
  | with_reducible refine rd_tB ?_
  | with_reducible refine rd_not ?_
  | with_reducible refine rd_and ?_
  | with_reducible refine rd_or ?_
  | with_reducible refine rd_andV ?_
  | with_reducible refine rd_orV ?_
  | with_reducible refine rd_notV ?_
  | with_reducible refine rd_ifx ?_
  | with_reducible refine rd_chain ?_
  | with_reducible refine rd_nil ?_
  | with_reducible refine rd_cons ?_
  | with_reducible refine rd_call ?_
  | with_reducible refine rd_cb ?_
  | with_reducible refine rd_lst ?_
  | with_reducible refine rd_tup ?_
  | with_reducible refine rd_min ?_
  | with_reducible refine rd_max ?_
  | with_reducible refine rd_abs ?_
  | with_reducible refine rd_int ?_
  | with_reducible refine rd_bm ?_
  | with_reducible refine rd_nt ?_
  | with_reducible refine rd_nf ?_
  | with_reducible refine rd_rg3 ?_
  | with_reducible refine rd_gnil ?_
  | with_reducible refine rd_gcons ?_
  | with_reducible refine rd_yes ?_
  | with_reducible refine rd_tt ?_
  | with_reducible refine rd_ff ?_
  | with_reducible refine rd_fld ?_
  | with_reducible refine rd_meth ?_
  | with_reducible refine rd_rev ?_
  | with_reducible refine rd_callN ?_
  | with_reducible refine rd_rg1 ?_
  | with_reducible refine rd_rg2 ?_
  | with_reducible refine rd_nm ?_
  | with_reducible refine rd_lc ?_
  | with_reducible refine rd_iL' ?_
  | with_reducible refine rd_iT' ?_)))
local macro_rules | `(tactic| walk_at "hp") => `(tactic| (first
  | assumption
  | exact upd_same ..
  | (refine keep_upd (by assumption) ?_; walk_at "hp")
  | (refine same_app (by assumption) ?_; walk_at "hp")))


theorem wr_one {a b : Int} (h : 0 ≤ a ∧ a < 3) : WrOk [(a, b)] := ⟨by simp, by simp, by simpa using h, by simp⟩
theorem wr_two {a b c d : Int} (h : 0 ≤ a ∧ a < 3) (h2 : 0 ≤ c ∧ c < 3) (hn : a ≠ c) : WrOk [(a, b), (c, d)] := ⟨by simp, by simp, by
  intro w hw
  rcases List.mem_cons.mp hw with z | z
  · rw [z]; exact h
  · rw [List.mem_singleton.mp z]; exact h2, by simpa using hn⟩
section
variable {P : Program} {w : World} {K : PySem.W.Frag} {mg : Str → Option Value} {base : Heap}
def spWrites : Sp := fun vs H Q _ => ∃ (S : Addr) (n : Nat), vs = [.ref S, .int 3] ∧ Src S H n ∧ n < 500000 ∧
  ∀ q ws H', Same (rm [S] H) H' → Src S H' (n + 5) → H q = none → NewD H H' (fun G => LL Pr G (.ref q) ws) → WrOk ws → Q (.ref q) H'
theorem c__law_writes (T : Txt P K mg) : Cal P w K mg base 2 "_law_writes" spWrites := by
  have S : FnScope ["_law_source_here", "_law_cells", "_law_first", "_law_writes_here", "_law_second"] ["_law_source_here", "_law_cells"] (defScope (top 43)) := ⟨rfl, rfl, rfl, by decide +kernel, rfl, by decide +kernel, by decide +kernel⟩
  refine T.d__law_writes.cal S (fun _ _ _ _ _ _ us hl => match us, hl with | [_, _], _ => rfl) (fun vs H Q E ⟨_, _, e, _⟩ => by rw [e]; rfl) fun f cdv A0 outer s H vs Q E hr ⟨p, n, e, hs, hn, h⟩ => ?_
  subst e
  refine ⟨_, (pss_cons (ps_set (i := 2) S.nd rfl (Or.inl rfl) (pe_c (c__law_draw T) hr (by decide) (by rfl) (pa_cons (pv 0) (pa_cons (pv 1) pa_nil))))
      (pss_cons (ps_set (i := 3) S.nd rfl (Or.inl rfl) (pe_lst (pa_cons (pe_tup (pa_cons (pv 2) (pa_cons (pe_op op_sub (pe_c (c__law_draw T) hr (by decide) (by rfl) (pa_cons (pv 0) (pa_cons pe_int pa_nil))) pe_int) pa_nil))) pa_nil)))
      (pss_cons (ps_if (PW.pt (pw_and (pt_cmpR op_gt (pv 1) pe_int (nomark _)) (pw_and1 (pt_cmpR op_eq (pe_c (c__law_draw T) hr (by decide) (by rfl) (pa_cons (pv 0) (pa_cons pe_int pa_nil))) pe_int (nomark _))))) (pss_cons (ps_set (i := 4) S.nd rfl (Or.inl rfl) (pe_op op_mod (pe_callTy k_int (by rfl) T.b_int (by decide +kernel) (pa_cons (pe_op op_add (pe_op op_add (pv 2) pe_int) (pe_c (c__law_draw T) hr (by decide) (by rfl) (pa_cons (pv 0) (pa_cons (pe_op op_sub (pv 1) pe_int) pa_nil)))) pa_nil)) (pv 1)))
      (pss_one (ps_expr (pe_appK (K := K) rfl (pv 3) (pa_cons (pe_tup (pa_cons (pv 4) (pa_cons (pe_op op_sub (pe_c (c__law_draw T) hr (by decide) (by rfl) (pa_cons (pv 0) (pa_cons pe_int pa_nil))) pe_int) pa_nil))) pa_nil))))) pss_nil)
      (pss_one (ps_ret (pv 3)))))), ?_⟩
  walk_at "rd"
  refine ⟨_, _, n, rfl, hs, by omega, by omega, by omega, fun r1 H1 r10 r11 s1 hs1 => ?_⟩
  walk_at "rd"
  refine ⟨_, _, n + 1, rfl, hs1, by omega, by omega, by omega, fun r2 H2 r20 r21 s2 hs2 => ?_⟩
  have s02 := (rm_self s1).trans s2
  walk_at "rd"
  refine ⟨ll (by simp), fun t1 ht1 => ?_⟩
  have ht1p := hs2.ne ht1
  walk_at "rd"
  refine ⟨ll (by simp), fun q hq => ?_⟩
  have hq2 : H2 q = none := none_of_upd hq
  have hqp := hs2.ne hq2
  have hqt : q ≠ t1 := ne_of_upd hq
  have fr : ∀ {a : Addr}, a ≠ p → H2 a = none → H a = none := fun {a} ha h2 => by
    have := s02.free h2
    rwa [rm_at (by simpa using ha)] at this
  have s3 : Same H2 (upd (upd H2 t1 (.tup [.int r1, .int (r2 - 1000)])) q (.lst [.ref t1])) := (Same.new ht1).trans (Same.new hq)
  generalize hH3 : upd (upd H2 t1 (.tup [.int r1, .int (r2 - 1000)])) q (.lst [.ref t1]) = H3 at s3
  have q3 : H3 q = some (.lst [.ref t1]) := by rw [← hH3]; exact upd_same ..
  have t3 : H3 t1 = some (.tup [.int r1, .int (r2 - 1000)]) := by rw [← hH3]; exact keep_upd hq (upd_same ..)
  have hs3 := hs2.mono s3
  walk_at "rd"
  refine rd_iteT' (by decide) ?_
  walk_at "rd"
  refine ⟨_, _, n + 2, rfl, hs3, by omega, by omega, by omega, fun r3 H4 r30 r31 s4 hs4 => ?_⟩
  have q4 : H4 q = some (.lst [.ref t1]) := s4 _ _ (by rw [rm_at (by simpa using hqp)]; exact q3)
  have t4 : H4 t1 = some (.tup [.int r1, .int (r2 - 1000)]) := s4 _ _ (by rw [rm_at (by simpa using ht1p)]; exact t3)
  have s04 : Same (rm [p] H) H4 := (rm_self (s02.trans s3)).trans s4
  walk_at "rd"
  refine rd_ite (fun d => ?_) fun d => ?_
  · walk_at "rd"
    refine ⟨_, _, n + 3, rfl, hs4, by omega, by omega, by omega, fun r4 H5 r40 r41 s5 hs5 => ?_⟩
    walk_at "rd"
    refine rd_mod (by omega) ?_
    walk_at "rd"
    have q5 : H5 q = some (.lst [.ref t1]) := s5 _ _ (by rw [rm_at (by simpa using hqp)]; exact q4)
    refine rd_tyL q5 ?_
    walk_at "rd"
    refine ⟨_, _, n + 4, rfl, hs5, by omega, by omega, by omega, fun r5 H6 r50 r51 s6 hs6 => ?_⟩
    have t5 : H5 t1 = some (.tup [.int r1, .int (r2 - 1000)]) := s5 _ _ (by rw [rm_at (by simpa using ht1p)]; exact t4)
    have q6 : H6 q = some (.lst [.ref t1]) := s6 _ _ (by rw [rm_at (by simpa using hqp)]; exact q5)
    have t6 : H6 t1 = some (.tup [.int r1, .int (r2 - 1000)]) := s6 _ _ (by rw [rm_at (by simpa using ht1p)]; exact t5)
    have s06 : Same (rm [p] H) H6 := (rm_self ((rm_self s04).trans s5)).trans s6
    have fr6 : ∀ {a : Addr}, a ≠ p → H6 a = none → H a = none := fun {a} ha h2 => by
      have := s06.free h2
      rwa [rm_at (by simpa using ha)] at this
    walk_at "rd"
    refine ⟨ll (by simp), fun t2 ht2 => ?_⟩
    have ht2p := hs6.ne ht2
    have ht2q : t2 ≠ q := fun z => by rw [z, q6] at ht2; cases ht2
    have ht21 : t2 ≠ t1 := fun z => by rw [z, t6] at ht2; cases ht2
    walk_at "rd"
    refine rd_push (keep_upd ht2 q6) (by simp) ?_
    walk_at "rd"
    refine h q [(r1, r2 - 1000), ((r1 + 1 + r4) % 3, r5 - 1000)] _ (Same.upd (s06.trans (Same.new ht2)) (rm_none (fr hqp hq2))) ?_ (fr hqp hq2) ?_ (wr_two ⟨r10, r11⟩ ⟨Int.emod_nonneg _ (by omega), Int.emod_lt_of_pos _ (by omega)⟩ (by omega))
    · obtain ⟨c', r', k', e1, e2⟩ := hs6
      exact ⟨c', r', k', by rw [upd_ne (Ne.symm hqp), upd_ne (Ne.symm ht2p)]; exact e1, e2⟩
    · refine ⟨upd (upd (upd (fun _ => none) t1 (.tup [.int r1, .int (r2 - 1000)])) t2 (.tup [.int ((r1 + 1 + r4) % 3), .int (r5 - 1000)])) q (.lst [.ref t1, .ref t2]), fun b u hb => ?_, fun b hb => ?_, q, _, rfl, upd_same .., .cons ⟨t1, rfl, ?_⟩ (.cons ⟨t2, rfl, ?_⟩ .nil)⟩
      · by_cases c1 : b = q
        · subst c1; rw [upd_same] at hb ⊢; exact hb
        · rw [upd_ne c1] at hb ⊢
          by_cases c2 : b = t2
          · subst c2; rw [upd_same] at hb ⊢; exact hb
          · rw [upd_ne c2] at hb ⊢
            by_cases c3 : b = t1
            · subst c3; rw [upd_same] at hb; rw [t6]; exact hb
            · rw [upd_ne c3] at hb; cases hb
      · have n1 : b ≠ q := fun z => hb (by rw [z]; exact fr hqp hq2)
        have n2 : b ≠ t2 := fun z => hb (by rw [z]; exact fr6 ht2p ht2)
        have n3 : b ≠ t1 := fun z => hb (by rw [z]; exact fr ht1p ht1)
        rw [upd_ne n1, upd_ne n2, upd_ne n3]
      · rw [upd_ne (Ne.symm hqt), upd_ne (Ne.symm ht21)]; exact upd_same ..
      · rw [upd_ne ht2q]; exact upd_same ..
  · walk_at "rd"
    refine h q [(r1, r2 - 1000)] _ s04 (hs4.le (by omega)) (fr hqp hq2) ?_ (wr_one ⟨r10, r11⟩)
    refine ⟨upd (upd (fun _ => none) t1 (.tup [.int r1, .int (r2 - 1000)])) q (.lst [.ref t1]), fun b u hb => ?_, fun b hb => ?_, q, _, rfl, upd_same .., .cons ⟨t1, rfl, ?_⟩ .nil⟩
    · by_cases c1 : b = q
      · subst c1; rw [upd_same] at hb; rw [q4]; exact hb
      · rw [upd_ne c1] at hb
        by_cases c3 : b = t1
        · subst c3; rw [upd_same] at hb; rw [t4]; exact hb
        · rw [upd_ne c3] at hb; cases hb
    · have n1 : b ≠ q := fun z => hb (by rw [z]; exact fr hqp hq2)
      have n3 : b ≠ t1 := fun z => hb (by rw [z]; exact fr ht1p ht1)
      rw [upd_ne n1, upd_ne n3]
    · rw [upd_ne (Ne.symm hqt)]; exact upd_same ..
end
end LK
set_option maxHeartbeats 4000000
namespace LK
open PySem PySem.Spec PyProof.Rows L2
local macro_rules | `(tactic| walk_at "rd") => `(tactic| (repeat (first
  | with_reducible refine rd_seq ?_
  | with_reducible refine rd_asg ?_
  | with_reducible refine rd_ret ?_
  | with_reducible refine rd_drop ?_
  | with_reducible refine rd_if ?_
  | with_reducible refine rd_next ?_
  | ((with_reducible apply rd_var); (· exact rfl))
  | with_reducible refine rd_c ?_
  | with_reducible refine rd_op ?_
  | with_reducible refine rd_un ?_
  | with_reducible refine rd_I0 ?_
  | with_reducible refine rd_U ?_
  | with_reducible refine rd_eq ?_
  | with_reducible refine rd_ne ?_
  | with_reducible refine rd_neB ?_
  | with_reducible refine rd_asB ?_
  | with_reducible refine rd_test ?_
  | with_reducible refine rd_tB ?_
  | with_reducible refine rd_not ?_
  | with_reducible refine rd_and ?_
  | with_reducible refine rd_or ?_
  | with_reducible refine rd_andV ?_
  | with_reducible refine rd_orV ?_
  | with_reducible refine rd_notV ?_
  | with_reducible refine rd_ifx ?_
  | with_reducible refine rd_chain ?_
  | with_reducible refine rd_nil ?_
  | with_reducible refine rd_cons ?_
  | with_reducible refine rd_call ?_
  | with_reducible refine rd_cb ?_
  | with_reducible refine rd_lst ?_
  | with_reducible refine rd_tup ?_
  | with_reducible refine rd_min ?_
  | with_reducible refine rd_max ?_
  | with_reducible refine rd_abs ?_
  | with_reducible refine rd_int ?_
  | with_reducible refine rd_bm ?_
  | with_reducible refine rd_nt ?_
  | with_reducible refine rd_nf ?_
  | with_reducible refine rd_rg3 ?_
  | with_reducible refine rd_gnil ?_
  | with_reducible refine rd_gcons ?_
  | with_reducible refine rd_yes ?_
  | with_reducible refine rd_tt ?_
  | with_reducible refine rd_ff ?_
  | with_reducible refine rd_fld ?_
  | with_reducible refine rd_meth ?_
  | with_reducible refine rd_rev ?_
  | with_reducible refine rd_callN ?_
  | with_reducible refine rd_rg1 ?_
  | with_reducible refine rd_rg2 ?_
  | with_reducible refine rd_nm ?_
  | with_reducible refine rd_lc ?_
  | with_reducible refine rd_iL' ?_
  | with_reducible refine rd_iT' ?_)))
local macro_rules | `(tactic| walk_at "hp") => `(tactic| (first
  | assumption
  | exact upd_same ..
  | (refine keep_upd (by assumption) ?_; walk_at "hp")
  | (refine same_app (by assumption) ?_; walk_at "hp")))


def mts (A : MA) (bA : List Addr) : List Addr := A.a1 :: A.a2 :: A.a3 :: A.a4 :: A.a5 :: A.a6 :: bA
/-- the model as it lies, its parts apart -/
structure MM (H : Hp) (A : MA) (bA : List Addr) (M : Mod) : Prop where
  dis : (mts A bA).Nodup
  m : rm (mts A bA) H A.m = some (.lst [.ref A.a0, .ref A.a1, .ref A.a2, .ref A.a3, .ref A.a4, .ref A.a5, .ref A.a6])
  h0 : IL (rm (mts A bA) H) (.ref A.a0) M.base
  h1 : ∃ x, H A.a1 = some (.lst x) ∧ F2 (LL Pr (rm (mts A bA) H)) x M.wr
  h2 : H A.a2 = some (.lst (iv M.sz))
  h3 : ∃ x, H A.a3 = some (.lst x) ∧ F2 (IL (rm (mts A bA) H)) x M.nd
  h4 : H A.a4 = some (.lst (bA.map V.ref))
  h4b : F2 (fun a b => H a = some (.lst (iv b))) bA M.br
  h5 : ∃ x, H A.a5 = some (.lst x) ∧ F2 (IL (rm (mts A bA) H)) x M.dm
  h6 : ∃ x, H A.a6 = some (.lst x) ∧ F2 (IL (rm (mts A bA) H)) x M.qu
theorem MM.mono {H H' : Hp} {A : MA} {bA : List Addr} {M : Mod} (h : MM H A bA M) (s : Same H H') : MM H' A bA M := by
  have r := rm_mono (X := mts A bA) s
  obtain ⟨x1, e1, f1⟩ := h.h1
  obtain ⟨x3, e3, f3⟩ := h.h3
  obtain ⟨x5, e5, f5⟩ := h.h5
  obtain ⟨x6, e6, f6⟩ := h.h6
  exact ⟨h.dis, r _ _ h.m, m_IL _ _ _ _ r h.h0, ⟨x1, s _ _ e1, f1.imp fun _ _ _ q => m_LL m_Pr _ _ _ _ r q⟩, s _ _ h.h2, ⟨x3, s _ _ e3, f3.imp fun _ _ _ q => m_IL _ _ _ _ r q⟩, s _ _ h.h4, h.h4b.imp fun _ _ _ q => s _ _ q,
    ⟨x5, s _ _ e5, f5.imp fun _ _ _ q => m_IL _ _ _ _ r q⟩, ⟨x6, s _ _ e6, f6.imp fun _ _ _ q => m_IL _ _ _ _ r q⟩⟩
theorem MM.mra {H : Hp} {A : MA} {bA : List Addr} {M : Mod} (h : MM H A bA M) : MRa H A M := by
  have r := rm_same (mts A bA) H
  obtain ⟨x1, e1, f1⟩ := h.h1
  obtain ⟨x3, e3, f3⟩ := h.h3
  obtain ⟨x5, e5, f5⟩ := h.h5
  obtain ⟨x6, e6, f6⟩ := h.h6
  refine ⟨r _ _ h.m, m_IL _ _ _ _ r h.h0, ⟨_, x1, rfl, e1, f1.imp fun _ _ _ q => m_LL m_Pr _ _ _ _ r q⟩, ⟨_, rfl, h.h2⟩, ⟨_, x3, rfl, e3, f3.imp fun _ _ _ q => m_IL _ _ _ _ r q⟩, ⟨_, _, rfl, h.h4, ?_⟩, ⟨_, x5, rfl, e5, f5.imp fun _ _ _ q => m_IL _ _ _ _ r q⟩, ⟨_, x6, rfl, e6, f6.imp fun _ _ _ q => m_IL _ _ _ _ r q⟩⟩
  exact F2.mapL (h.h4b.imp fun a b _ q => ⟨a, rfl, q⟩)
theorem MM.in_ {H : Hp} {A : MA} {bA : List Addr} {M : Mod} (h : MM H A bA M) : ∀ x ∈ mts A bA, H x ≠ none := by
  obtain ⟨x1, e1, f1⟩ := h.h1
  obtain ⟨x3, e3, f3⟩ := h.h3
  obtain ⟨x5, e5, f5⟩ := h.h5
  obtain ⟨x6, e6, f6⟩ := h.h6
  intro x hx
  unfold mts at hx
  simp only [List.mem_cons] at hx
  rcases hx with z | z | z | z | z | z | z
  · rw [z, e1]; exact fun q => by cases q
  · rw [z, h.h2]; exact fun q => by cases q
  · rw [z, e3]; exact fun q => by cases q
  · rw [z, h.h4]; exact fun q => by cases q
  · rw [z, e5]; exact fun q => by cases q
  · rw [z, e6]; exact fun q => by cases q
  · obtain ⟨b, _, q⟩ := h.h4b.memL z
    rw [q]; exact fun q => by cases q
theorem NewD.draw {H H' H2 : Hp} {P : Hp → Prop} {p : Addr} (h : NewD H H' P) (hp : H p ≠ none) (s : Same (LK.rm [p] H') H2) : NewD H H2 P := by
  obtain ⟨G, a, b, c⟩ := h
  exact ⟨G, (rm_of a fun x hx => by rw [List.mem_singleton.mp hx]; exact b p hp).trans s, b, c⟩
theorem NewD.plus {H H' : Hp} {P : Hp → Prop} {b : Addr} {o : HO} (h : NewD H H' P) (hb : H' b = none) : NewD (L2.upd H b o) H' P := by
  obtain ⟨G, a, k, c⟩ := h
  refine ⟨G, a, fun x hx => ?_, c⟩
  by_cases e : x = b
  · rw [e]; exact a.free hb
  · rw [upd_ne e] at hx; exact k x hx
theorem F2.ofGet {α β : Type} {R : α → β → Prop} : ∀ {xs : List α} {ys : List β}, xs.length = ys.length → (∀ (i : Nat) (x : α) (y : β), xs[i]? = some x → ys[i]? = some y → R x y) → F2 R xs ys
  | [], [], _, _ => .nil
  | x :: xs, y :: ys, hl, h => .cons (h 0 x y rfl rfl) (F2.ofGet (by simpa using hl) fun i a b e1 e2 => h (i + 1) a b (by simpa using e1) (by simpa using e2))
  | [], _ :: _, hl, _ => by simp at hl
  | _ :: _, [], hl, _ => by simp at hl
theorem lists_set {H : Hp} {as : List Addr} {bs : List (List Int)} {i : Nat} {a : Addr} {v : List Int} (h : F2 (fun a b => H a = some (.lst (iv b))) as bs) (hn : as.Nodup) (ha : as[i]? = some a) : F2 (fun a' b => upd H a (.lst (iv v)) a' = some (.lst (iv b))) as (bs.set i v) := by
  refine F2.ofGet (by rw [List.length_set]; exact h.length) fun j x y hx hy => ?_
  have hi := (List.getElem?_eq_some_iff.mp ha).1
  have hj := (List.getElem?_eq_some_iff.mp hx).1
  by_cases c : i = j
  · subst c
    rw [ha] at hx; cases hx
    rw [List.getElem?_set_self (by rw [← h.length]; exact hi)] at hy
    cases hy
    exact upd_same ..
  · have ne : x ≠ a := fun z => c ((List.getElem?_inj hi hn).mp (by rw [ha, hx, z]))
    rw [upd_ne ne]
    rw [List.getElem?_set_ne c] at hy
    obtain ⟨y', e1, e2⟩ := h.get hx
    rw [e1] at hy; cases hy
    exact e2
theorem rd_if_cut {tt : TT} {t u : TS} {N B C : L2.St → Hp → Prop} {R : VK} {σ : L2.St} {H : Hp} (J : L2.St → Hp → Prop) (tail : ∀ σ H, J σ H → N σ H) (main : (∀ σ H, J σ H → N σ H) → tIfS tt t u ⟨N, R, B, C⟩ σ H) : tIfS tt t u ⟨N, R, B, C⟩ σ H := main tail
end LK
set_option maxHeartbeats 4000000
namespace LK
open PySem PySem.Spec PyProof.Rows L2
local macro_rules | `(tactic| walk_at "rd") => `(tactic| (repeat (first
  | with_reducible refine rd_seq ?_
  | with_reducible refine rd_asg ?_
  | with_reducible refine rd_ret ?_
  | with_reducible refine rd_drop ?_
  | with_reducible refine rd_if ?_
  | with_reducible refine rd_next ?_
  | ((with_reducible apply rd_var); (· exact rfl))
  | with_reducible refine rd_c ?_
  | with_reducible refine rd_op ?_
  | with_reducible refine rd_un ?_
  | with_reducible refine rd_I0 ?_
  | with_reducible refine rd_U ?_
  | with_reducible refine rd_eq ?_
  | with_reducible refine rd_ne ?_
  | with_reducible refine rd_neB ?_
  | with_reducible refine rd_asB ?_
  | with_reducible refine rd_test ?_
  | with_reducible refine rd_tB ?_
  | with_reducible refine rd_not ?_
  | with_reducible refine rd_and ?_
  | with_reducible refine rd_or ?_
  | with_reducible refine rd_andV ?_
  | with_reducible refine rd_orV ?_
  | with_reducible refine rd_notV ?_
  | with_reducible refine rd_ifx ?_
  | with_reducible refine rd_chain ?_
  | with_reducible refine rd_nil ?_
  | with_reducible refine rd_cons ?_
  | with_reducible refine rd_call ?_
  | with_reducible refine rd_cb ?_
  | with_reducible refine rd_lst ?_
  | with_reducible refine rd_tup ?_
  | with_reducible refine rd_min ?_
  | with_reducible refine rd_max ?_
  | with_reducible refine rd_abs ?_
  | with_reducible refine rd_int ?_
  | with_reducible refine rd_bm ?_
  | with_reducible refine rd_nt ?_
  | with_reducible refine rd_nf ?_
  | with_reducible refine rd_rg3 ?_
  | with_reducible refine rd_gnil ?_
  | with_reducible refine rd_gcons ?_
  | with_reducible refine rd_yes ?_
  | with_reducible refine rd_tt ?_
  | with_reducible refine rd_ff ?_
  | with_reducible refine rd_fld ?_
  | with_reducible refine rd_meth ?_
  | with_reducible refine rd_rev ?_
  | with_reducible refine rd_callN ?_
  | with_reducible refine rd_rg1 ?_
  | with_reducible refine rd_rg2 ?_
  | with_reducible refine rd_nm ?_
  | with_reducible refine rd_lc ?_
  | with_reducible refine rd_iL' ?_
  | with_reducible refine rd_iT' ?_)))
local macro_rules | `(tactic| walk_at "hp") => `(tactic| (first
  | assumption
  | exact upd_same ..
  | (refine keep_upd (by assumption) ?_; walk_at "hp")
  | (refine same_app (by assumption) ?_; walk_at "hp")))


/-- H apart from what Z holds -/
def rmH (Z H : Hp) : Hp := fun b => if Z b = none then H b else none
theorem rmH_at {Z H : Hp} {b : Addr} (h : Z b = none) : rmH Z H b = H b := if_pos h
theorem rmH_in {Z H : Hp} {b : Addr} (h : Z b ≠ none) : rmH Z H b = none := if_neg h
theorem rmH_of {Z H : Hp} {b : Addr} {o : HO} (h : rmH Z H b = some o) : Z b = none ∧ H b = some o := by
  by_cases c : Z b = none
  · rw [rmH_at c] at h; exact ⟨c, h⟩
  · rw [rmH_in c] at h; cases h
theorem rmH_same (Z H : Hp) : Same (rmH Z H) H := fun b o e => (rmH_of e).2
theorem rmH_mono {Z H H' : Hp} (s : Same H H') : Same (rmH Z H) (rmH Z H') := fun b o e => by
  obtain ⟨a, c⟩ := rmH_of e
  rw [rmH_at a]; exact s _ _ c
/-- what a growth did -/
structure GrownP (M : Mod) (N : Nat) (M' : Mod) : Prop where
  ex : ∃ ws e nd bars ds qs, M' = grown M N ws e nd bars ds qs ∧ WrOk ws ∧ (0 ≤ e ∧ e ≤ 3) ∧ (∀ o ∈ ds, 1 ≤ o ∧ o ≤ N) ∧ ds.length ≤ 20 ∧ (∀ o ∈ qs, 1 ≤ o ∧ o ≤ N) ∧ qs.length ≤ 20 ∧ nd = needsF M N ds ∧ bars = barsF M N ws nd qs ∧ (∀ o ∈ bars, o ∉ nd)
theorem GrownP.good {M M' : Mod} {N : Nat} (h : GrownP M N M') (g : Good M N) (hN : N < 20) : Good M' (N + 1) := by
  obtain ⟨ws, e, nd, bars, ds, qs, rfl, h1, h2, h3, h4, h5, h6, h7, h8, h9⟩ := h.ex
  exact grown_good g hN h1 h2 h3 h4 h5 h6 h7 h8 h9
theorem src_ne {S : Addr} {H : Hp} {n : Nat} (h : Src S H n) : H S ≠ none := by
  obtain ⟨c, r, k, q, _⟩ := h
  rw [q]; exact fun z => by cases z
theorem src_upd {S a : Addr} {H : Hp} {n : Nat} {o : HO} (h : Src S H n) (ne : a ≠ S) : Src S (upd H a o) n := by
  obtain ⟨c, r, k, q, z⟩ := h
  exact ⟨c, r, k, by rw [upd_ne (Ne.symm ne)]; exact q, z⟩
/-- free after draws: free before -/
theorem free_draw {p a : Addr} {H H' : Hp} (s : Same (rm [p] H) H') (ha : a ≠ p) (h : H' a = none) : H a = none := by
  have := s.free h
  rwa [rm_at (by simpa using ha)] at this
theorem at_draw {p a : Addr} {H H' : Hp} {o : HO} (s : Same (rm [p] H) H') (ha : a ≠ p) (h : H a = some o) : H' a = some o := s _ _ (by rw [rm_at (by simpa using ha)]; exact h)
/-- the model's lists, apart -/
structure Dt (A : MA) : Prop where
  m : A.m ≠ A.a1 ∧ A.m ≠ A.a2 ∧ A.m ≠ A.a3 ∧ A.m ≠ A.a4 ∧ A.m ≠ A.a5 ∧ A.m ≠ A.a6
  n1 : A.a1 ≠ A.a2 ∧ A.a1 ≠ A.a3 ∧ A.a1 ≠ A.a4 ∧ A.a1 ≠ A.a5 ∧ A.a1 ≠ A.a6
  n2 : A.a2 ≠ A.a3 ∧ A.a2 ≠ A.a4 ∧ A.a2 ≠ A.a5 ∧ A.a2 ≠ A.a6
  n3 : A.a3 ≠ A.a4 ∧ A.a3 ≠ A.a5 ∧ A.a3 ≠ A.a6
  n4 : A.a4 ≠ A.a5 ∧ A.a4 ≠ A.a6
  n5 : A.a5 ≠ A.a6
structure MT (H : Hp) (A : MA) (l1 l2 l3 l4 l5 l6 : List V) : Prop where
  m : H A.m = some (.lst [.ref A.a0, .ref A.a1, .ref A.a2, .ref A.a3, .ref A.a4, .ref A.a5, .ref A.a6])
  h1 : H A.a1 = some (.lst l1)
  h2 : H A.a2 = some (.lst l2)
  h3 : H A.a3 = some (.lst l3)
  h4 : H A.a4 = some (.lst l4)
  h5 : H A.a5 = some (.lst l5)
  h6 : H A.a6 = some (.lst l6)
section
variable {H : Hp} {A : MA} {l1 l2 l3 l4 l5 l6 l : List V}
theorem MT.p1 (t : MT H A l1 l2 l3 l4 l5 l6) (d : Dt A) : MT (upd H A.a1 (.lst l)) A l l2 l3 l4 l5 l6 := by
  obtain ⟨⟨q1, q2, q3, q4, q5, q6⟩, ⟨a1, a2, a3, a4, a5⟩, ⟨b1, b2, b3, b4⟩, ⟨c1, c2, c3⟩, ⟨d1, d2⟩, e1⟩ := d
  exact ⟨upd_other q1 t.m, upd_same .., upd_other (Ne.symm a1) t.h2, upd_other (Ne.symm a2) t.h3, upd_other (Ne.symm a3) t.h4, upd_other (Ne.symm a4) t.h5, upd_other (Ne.symm a5) t.h6⟩
theorem MT.p2 (t : MT H A l1 l2 l3 l4 l5 l6) (d : Dt A) : MT (upd H A.a2 (.lst l)) A l1 l l3 l4 l5 l6 := by
  obtain ⟨⟨q1, q2, q3, q4, q5, q6⟩, ⟨a1, a2, a3, a4, a5⟩, ⟨b1, b2, b3, b4⟩, ⟨c1, c2, c3⟩, ⟨d1, d2⟩, e1⟩ := d
  exact ⟨upd_other q2 t.m, upd_other a1 t.h1, upd_same .., upd_other (Ne.symm b1) t.h3, upd_other (Ne.symm b2) t.h4, upd_other (Ne.symm b3) t.h5, upd_other (Ne.symm b4) t.h6⟩
theorem MT.p3 (t : MT H A l1 l2 l3 l4 l5 l6) (d : Dt A) : MT (upd H A.a3 (.lst l)) A l1 l2 l l4 l5 l6 := by
  obtain ⟨⟨q1, q2, q3, q4, q5, q6⟩, ⟨a1, a2, a3, a4, a5⟩, ⟨b1, b2, b3, b4⟩, ⟨c1, c2, c3⟩, ⟨d1, d2⟩, e1⟩ := d
  exact ⟨upd_other q3 t.m, upd_other a2 t.h1, upd_other b1 t.h2, upd_same .., upd_other (Ne.symm c1) t.h4, upd_other (Ne.symm c2) t.h5, upd_other (Ne.symm c3) t.h6⟩
theorem MT.p4 (t : MT H A l1 l2 l3 l4 l5 l6) (d : Dt A) : MT (upd H A.a4 (.lst l)) A l1 l2 l3 l l5 l6 := by
  obtain ⟨⟨q1, q2, q3, q4, q5, q6⟩, ⟨a1, a2, a3, a4, a5⟩, ⟨b1, b2, b3, b4⟩, ⟨c1, c2, c3⟩, ⟨d1, d2⟩, e1⟩ := d
  exact ⟨upd_other q4 t.m, upd_other a3 t.h1, upd_other b2 t.h2, upd_other c1 t.h3, upd_same .., upd_other (Ne.symm d1) t.h5, upd_other (Ne.symm d2) t.h6⟩
theorem MT.p5 (t : MT H A l1 l2 l3 l4 l5 l6) (d : Dt A) : MT (upd H A.a5 (.lst l)) A l1 l2 l3 l4 l l6 := by
  obtain ⟨⟨q1, q2, q3, q4, q5, q6⟩, ⟨a1, a2, a3, a4, a5⟩, ⟨b1, b2, b3, b4⟩, ⟨c1, c2, c3⟩, ⟨d1, d2⟩, e1⟩ := d
  exact ⟨upd_other q5 t.m, upd_other a4 t.h1, upd_other b3 t.h2, upd_other c2 t.h3, upd_other d1 t.h4, upd_same .., upd_other (Ne.symm e1) t.h6⟩
theorem MT.p6 (t : MT H A l1 l2 l3 l4 l5 l6) (d : Dt A) : MT (upd H A.a6 (.lst l)) A l1 l2 l3 l4 l5 l := by
  obtain ⟨⟨q1, q2, q3, q4, q5, q6⟩, ⟨a1, a2, a3, a4, a5⟩, ⟨b1, b2, b3, b4⟩, ⟨c1, c2, c3⟩, ⟨d1, d2⟩, e1⟩ := d
  exact ⟨upd_other q6 t.m, upd_other a5 t.h1, upd_other b4 t.h2, upd_other c3 t.h3, upd_other d2 t.h4, upd_other e1 t.h5, upd_same ..⟩
end
theorem dt_of {A : MA} {bA : List Addr} (h : (mts A bA).Nodup) (hm : A.m ∉ mts A bA) : Dt A := by
  unfold mts at h hm
  simp only [List.nodup_cons, List.mem_cons, not_or] at h hm
  obtain ⟨⟨a1, a2, a3, a4, a5, a6⟩, ⟨b1, b2, b3, b4, b5⟩, ⟨c1, c2, c3, c4⟩, ⟨d1, d2, d3⟩, ⟨e1, e2⟩, _⟩ := h
  obtain ⟨m1, m2, m3, m4, m5, m6, _⟩ := hm
  exact ⟨⟨m1, m2, m3, m4, m5, m6⟩, ⟨a1, a2, a3, a4, a5⟩, ⟨b1, b2, b3, b4⟩, ⟨c1, c2, c3⟩, ⟨d1, d2⟩, e1⟩
theorem bars_at {k : Nat} {bars : List Int} {o : Int} (p : Int) (ho : bars[k]? = some o) (cur0 : List (List Int)) : barAdd p (bars.take (k + 1)) cur0 = (barAdd p (bars.take k) cur0).set o.toNat ((barAdd p (bars.take k) cur0).getD o.toNat [] ++ [p]) := by
  unfold barAdd
  rw [take_snoc ho, List.foldl_append]
  rfl
section
variable {P : Program} {w : World} {K : PySem.W.Frag} {mg : Str → Option Value} {base : Heap}
def spGrow : Sp := fun vs H Q _ => ∃ (S : Addr) (n : Nat) (A : MA) (bA : List Addr) (M : Mod) (N : Nat), vs = [.ref S, .ref A.m, .int 3] ∧ Src S H n ∧ n < 100000 ∧ MM (rm [S] H) A bA M ∧ Good M N ∧ N < 20 ∧
  ∀ H' b M', Same (rm (S :: mts A bA) H) H' → Src S H' (n + 100) → H b = none → (∀ Z : Hp, Z S ≠ none → (∀ b, Z b ≠ none → H b ≠ none) → MM (rmH Z H) A bA M → MM (rmH Z H') A (bA ++ [b]) M') → GrownP M N M' → Q .non H'
theorem c__law_grow (T : Txt P K mg) : Cal P w K mg base 3 "_law_grow" spGrow := by
  have S : FnScope ["_law_source_here", "_law_model_here", "_law_cells", "_law_number", "_law_writes_here", "_law_demands", "_law_quarrels", "_law_needs_here", "_law_bars_here", "_law_extent", "_law_other"] ["_law_source_here", "_law_model_here", "_law_cells"] (defScope (top 44)) := ⟨rfl, rfl, rfl, by decide +kernel, rfl, by decide +kernel, by decide +kernel⟩
  refine T.d__law_grow.cal S (fun _ _ _ _ _ _ us hl => match us, hl with | [_, _, _], _ => rfl) (fun vs H Q E ⟨_, _, _, _, _, _, e, _⟩ => by rw [e]; rfl) fun f cdv A0 outer s H vs Q E hr ⟨p, n, A, bA, M, N, e, hs, hn, mm, g, hN, h⟩ => ?_
  subst e
  refine ⟨_, (pss_cons (ps_set (i := 3) S.nd rfl (Or.inl rfl) (pe_callB (k_lenK (K := K) rfl) (by rfl) T.b_len (by decide +kernel) (pa_cons (pe_ix (ix_ltK (K := K) rfl) (pv 1) pe_int (fun _ _ => rfl)) pa_nil)))
      (pss_cons (ps_set (i := 4) S.nd rfl (Or.inl rfl) (pe_c (c__law_writes T) hr (by decide) (by rfl) (pa_cons (pv 0) (pa_cons (pv 2) pa_nil))))
      (pss_cons (ps_setLc (i := 5) (own := [("_law_other", 10)]) (by rfl) S.nd rfl rfl (sw_true rfl rfl rfl (by decide +kernel)) (pi_range2 (by rfl) T.b_range (pa_cons pe_int (pa_cons (pv 3) pa_nil))) (blkOk_by (own := [("_law_other", 10)]) (by kernel_rfl)) (fun _ _ _ _ _ => (pg_name (i := 10) S.nd rfl (Or.inl rfl))) (fun _ _ _ _ _ => (pts_one (pt_cmpR op_eq (pe_c (c__law_draw T) hr (by decide) (by rfl) (pa_cons (pv 0) (pa_cons pe_int pa_nil))) pe_int (nomark _)))) (fun _ _ _ _ _ => (pv 10)))
      (pss_cons (ps_setLc (i := 6) (own := [("_law_other", 10)]) (by rfl) S.nd rfl rfl (sw_true rfl rfl rfl (by decide +kernel)) (pi_range2 (by rfl) T.b_range (pa_cons pe_int (pa_cons (pv 3) pa_nil))) (blkOk_by (own := [("_law_other", 10)]) (by kernel_rfl)) (fun _ _ _ _ _ => (pg_name (i := 10) S.nd rfl (Or.inl rfl))) (fun _ _ _ _ _ => (pts_one (pt_cmpR op_eq (pe_c (c__law_draw T) hr (by decide) (by rfl) (pa_cons (pv 0) (pa_cons pe_int pa_nil))) pe_int (nomark _)))) (fun _ _ _ _ _ => (pv 10)))
      (pss_cons (ps_set (i := 7) S.nd rfl (Or.inr rfl) (pe_c (c__law_needs T) hr (by decide) (by rfl) (pa_cons (pv 1) (pa_cons (pv 5) pa_nil))))
      (pss_cons (ps_set (i := 8) S.nd rfl (Or.inl rfl) (pe_c (c__law_bars T) hr (by decide) (by rfl) (pa_cons (pv 1) (pa_cons (pv 4) (pa_cons (pv 7) (pa_cons (pv 6) pa_nil))))))
      (pss_cons (ps_if (pt_cmpR op_gt (pe_callB (k_lenK (K := K) rfl) (by rfl) T.b_len (by decide +kernel) (pa_cons (pe_lc (own := [("_law_other", 10)]) (by rfl) S.nd (pi_listK (K := K) rfl (pv 8)) (blkOk_by (own := [("_law_other", 10)]) (by kernel_rfl)) (fun _ _ _ _ _ => (pg_name (i := 10) S.nd rfl (Or.inl rfl))) (fun _ _ _ _ _ => (pts_one (pt_cmpR (op_inK (K := K) rfl) (pv 10) (pv 7) (by rfl)))) (fun _ _ _ _ _ => (pv 10))) pa_nil)) pe_int (nomark _)) (pss_cons (ps_set (i := 5) S.nd rfl (Or.inl rfl) (pe_lst pa_nil))
      (pss_cons (ps_set (i := 7) S.nd rfl (Or.inr rfl) (pe_lst pa_nil))
      (pss_one (ps_set (i := 8) S.nd rfl (Or.inl rfl) (pe_c (c__law_bars T) hr (by decide) (by rfl) (pa_cons (pv 1) (pa_cons (pv 4) (pa_cons (pv 7) (pa_cons (pv 6) pa_nil))))))))) pss_nil)
      (pss_cons (ps_set (i := 9) S.nd rfl (Or.inl rfl) (pe_c (c__law_draw T) hr (by decide) (by rfl) (pa_cons (pv 0) (pa_cons pe_int pa_nil))))
      (pss_cons (ps_expr (pe_appK (K := K) rfl (pe_ix (ix_ltK (K := K) rfl) (pv 1) pe_int (fun _ _ => rfl)) (pa_cons (pv 4) pa_nil)))
      (pss_cons (ps_expr (pe_appK (K := K) rfl (pe_ix (ix_ltK (K := K) rfl) (pv 1) pe_int (fun _ _ => rfl)) (pa_cons (pe_ifExp (pt_cmpR op_gt (pv 9) pe_int (nomark _)) (pv 9) (pe_callB (k_lenK (K := K) rfl) (by rfl) T.b_len (by decide +kernel) (pa_cons (pv 4) pa_nil))) pa_nil)))
      (pss_cons (ps_expr (pe_appK (K := K) rfl (pe_ix (ix_ltK (K := K) rfl) (pv 1) pe_int (fun _ _ => rfl)) (pa_cons (pv 7) pa_nil)))
      (pss_cons (ps_expr (pe_appK (K := K) rfl (pe_ix (ix_ltK (K := K) rfl) (pv 1) pe_int (fun _ _ => rfl)) (pa_cons (pv 8) pa_nil)))
      (pss_cons (ps_expr (pe_appK (K := K) rfl (pe_ix (ix_ltK (K := K) rfl) (pv 1) pe_int (fun _ _ => rfl)) (pa_cons (pv 5) pa_nil)))
      (pss_cons (ps_expr (pe_appK (K := K) rfl (pe_ix (ix_ltK (K := K) rfl) (pv 1) pe_int (fun _ _ => rfl)) (pa_cons (pv 6) pa_nil)))
      (pss_one (ps_for PassesOwn.never rfl (pi_listK (K := K) rfl (pv 8)) (pg_name (i := 10) S.nd rfl (Or.inl rfl)) (pss_one (ps_expr (pe_appK (K := K) rfl (pe_ix (ix_ltK (K := K) rfl) (pe_ix (ix_ltK (K := K) rfl) (pv 1) pe_int (fun _ _ => rfl)) (pv 10) (fun _ _ => rfl)) (pa_cons (pv 3) pa_nil)))))))))))))))))))), ?_⟩
  have sh := g.sh
  have hp0 := src_ne hs
  have mra := mm.mra
  obtain ⟨xs1, h1, f1⟩ := mra.h1.at_
  have l1 : (xs1.length : Int) = 1 + (N : Nat) := by rw [f1.length, g.lwr]; omega
  have r0 := rm_same [p] H
  walk_at "rd"
  refine rd_iL (sl (r0 _ _ mra.m)) (by rfl) ?_
  walk_at "rd"
  refine rd_lenL (sl (r0 _ _ h1)) ?_
  walk_at "rd"
  rw [l1]
  refine ⟨p, n, rfl, hs, by omega, fun q ws H1 s1 hs1 hq nq okw => ?_⟩
  have hqp := hs.ne hq
  walk_at "rd"
  refine rg2N N rfl (by omega) (by omega) (by omega) fun dD hdD => ?_
  have ddp := hs1.ne hdD
  refine lc_range (fun i H' => Same (rm [p] H1) H' ∧ Src p H' (n + 5 + i) ∧ ∃ ds : List Int, H' dD = some (.lst (iv ds)) ∧ ds.length ≤ i ∧ ∀ o ∈ ds, 1 ≤ o ∧ o ≤ (i : Int)) ⟨(rm_same _ _).trans (Same.new hdD), src_upd hs1 ddp, [], upd_same .., by simp, by simp⟩ (fun i Hc hi ⟨sc, hsc, ds, e1, e2, e3⟩ => ?_) fun H2 ⟨s2, hs2, ds, hds, dsl, dsr⟩ => ?_
  · have en : (1 : Int) + (i : Int) = (i : Int) + 1 := by omega
    rw [en]
    walk_at "rd"
    refine ⟨rfl, ?_⟩
    walk_at "rd"
    refine ⟨_, _, _, rfl, hsc, by omega, by omega, by omega, fun r Hd r0 r1 sd hsd => ?_⟩
    have e4 := at_draw sd ddp e1
    walk_at "rd"
    refine rd_ite (fun d => ?_) fun d => ?_
    · walk_at "rd"
      refine ⟨_, e4, by rw [line]; simp; omega, Same.upd ((rm_self sc).trans sd) (rm_none hdD), src_upd hsd ddp, ds ++ [(i : Int) + 1], by rw [upd_same]; simp, by simp; omega, fun o ho => ?_⟩
      rcases List.mem_append.mp ho with z | z
      · have := e3 o z; omega
      · have := List.mem_singleton.mp z; omega
    · exact ⟨(rm_self sc).trans sd, hsd, ds, e4, by omega, fun o ho => by have := e3 o ho; omega⟩
  walk_at "rd"
  refine rg2N N rfl (by omega) (by omega) (by omega) fun qD hqD => ?_
  have qdp := hs2.ne hqD
  refine lc_range (fun i H' => Same (rm [p] H2) H' ∧ Src p H' (n + 5 + N + i) ∧ ∃ ds : List Int, H' qD = some (.lst (iv ds)) ∧ ds.length ≤ i ∧ ∀ o ∈ ds, 1 ≤ o ∧ o ≤ (i : Int)) ⟨(rm_same _ _).trans (Same.new hqD), src_upd hs2 qdp, [], upd_same .., by simp, by simp⟩ (fun i Hc hi ⟨sc, hsc, ds, e1, e2, e3⟩ => ?_) fun H3 ⟨s3, hs3, qs, hqs, qsl, qsr⟩ => ?_
  · have en : (1 : Int) + (i : Int) = (i : Int) + 1 := by omega
    rw [en]
    walk_at "rd"
    refine ⟨rfl, ?_⟩
    walk_at "rd"
    refine ⟨_, _, _, rfl, hsc, by omega, by omega, by omega, fun r Hd r0 r1 sd hsd => ?_⟩
    have e4 := at_draw sd qdp e1
    walk_at "rd"
    refine rd_ite (fun d => ?_) fun d => ?_
    · walk_at "rd"
      refine ⟨_, e4, by rw [line]; simp; omega, Same.upd ((rm_self sc).trans sd) (rm_none hqD), src_upd hsd qdp, ds ++ [(i : Int) + 1], by rw [upd_same]; simp, by simp; omega, fun o ho => ?_⟩
      rcases List.mem_append.mp ho with z | z
      · have := e3 o z; omega
      · have := List.mem_singleton.mp z; omega
    · exact ⟨(rm_self sc).trans sd, hsd, ds, e4, by omega, fun o ho => by have := e3 o ho; omega⟩
  -- what lies at H3
  have s12 : Same (rm [p] H) H2 := (rm_self s1).trans s2
  have s13 : Same (rm [p] H) H3 := (rm_self s12).trans s3
  have hdD0 : H dD = none := free_draw s1 ddp hdD
  have hqD0 : H qD = none := free_draw s12 qdp hqD
  have hds3 : H3 dD = some (.lst (iv ds)) := at_draw s3 ddp hds
  have nq3 : NewD H H3 (fun G => LL Pr G (.ref q) ws) := (nq.draw hp0 s2).draw hp0 s3
  have nd3 : NewD H H3 (fun G => IL G (.ref dD) ds) := .one hdD0 hds3 ⟨dD, rfl, upd_same ..⟩
  have nu3 : NewD H H3 (fun G => IL G (.ref qD) qs) := .one hqD0 hqs ⟨qD, rfl, upd_same ..⟩
  have m3 : MR H3 (.ref A.m) M := ⟨A, rfl, mra.mono s13⟩
  have lw3 : LL Pr H3 (.ref q) ws := nq3.at_ fun G G' s => m_LL m_Pr _ _ _ _ s
  have wl100 : ∀ x ∈ M.wr, x.length ≤ 100 := fun x hx => by have := g.wl x hx; omega
  walk_at "rd"
  refine ⟨_, M, N, dD, ds, rfl, m3, sh, hds3, by omega, fun d hd => by have := dsr d hd; omega, fun nD H4 s4 hnD hnd => ?_⟩
  have hnD0 : H nD = none := by
    by_cases c : nD = p
    · rw [c] at hnD; exact absurd hnD (src_ne hs3)
    · exact free_draw s13 c hnD
  have s14 := s13.trans s4
  have hs4 := hs3.mono s4
  have nn4 : NewD H H4 (fun G => IL G (.ref nD) (needsF M N ds)) := .one hnD0 hnd ⟨nD, rfl, upd_same ..⟩
  have nlen : (needsF M N ds).length ≤ 20 := by
    have := List.length_filter_le (fun o => decide (o ∈ ds) || ds.any fun d => decide (o ∈ ndA M d)) (upto N)
    rw [upto_length] at this
    show (List.filter _ _).length ≤ 20
    omega
  have nrng : ∀ d ∈ needsF M N ds, 0 ≤ d ∧ d ≤ N := fun d hd => by have := (mem_needsF.mp hd).1; omega
  walk_at "rd"
  refine ⟨_, M, N, q, nD, qD, ws, _, qs, rfl, m_MR _ _ _ _ s4 m3, sh, wl100, m_LL m_Pr _ _ _ _ s4 lw3, by have := okw.l2; omega, hnd, by omega, nrng, s4 _ _ hqs, fun bD H5 s5 hbD hbd => ?_⟩
  have hbD0 : H bD = none := by
    by_cases c : bD = p
    · rw [c] at hbD; exact absurd hbD (src_ne hs4)
    · exact free_draw s14 c hbD
  have s15 := s14.trans s5
  have hs5 := hs4.mono s5
  refine rd_seq ?_
  refine rd_if_cut (fun σ H' => ∃ (dD nD bD : Addr) (ds nd bars : List Int) (x y : Option V), σ = [some (.ref p), some (.ref A.m), some (.int 3), some (.int (1 + (N : Nat))), some (.ref q), some (.ref dD), some (.ref qD), some (.ref nD), some (.ref bD), x, y] ∧ Same (rm [p] H) H' ∧ Src p H' (n + 5 + N + N) ∧
      H bD = none ∧ H' bD = some (.lst (iv bars)) ∧ NewD (upd H bD (.lst [])) H' (fun G => LL Pr G (.ref q) ws) ∧ NewD (upd H bD (.lst [])) H' (fun G => IL G (.ref dD) ds) ∧ NewD (upd H bD (.lst [])) H' (fun G => IL G (.ref qD) qs) ∧ NewD (upd H bD (.lst [])) H' (fun G => IL G (.ref nD) nd) ∧
      (∀ o ∈ ds, 1 ≤ o ∧ o ≤ N) ∧ ds.length ≤ 20 ∧ nd = needsF M N ds ∧ bars = barsF M N ws nd qs ∧ (∀ o ∈ bars, o ∉ nd)) ?_ fun tail => ?_
  rotate_left 1
  · -- the bars against the needs
    have blen : (barsF M N ws (needsF M N ds) qs).length ≤ 20 := by
      have := List.length_filter_le (fun o => decide (o ∈ hitF M N ws (needsF M N ds) qs) || (ndA M o).any fun d => decide (d ∈ hitF M N ws (needsF M N ds) qs)) (upto N)
      rw [upto_length] at this
      show (List.filter _ _).length ≤ 20
      omega
    walk_at "rd"
    refine ⟨_, rfl, ⟨_, sl hbd⟩, fun D hD => ?_⟩
    refine lcI (fun o => decide (o ∈ needsF M N ds)) V.int (sl hbd) hD (by omega) (fun x H6 hx s6 R1 R0 r1 r0 => ?_) fun H6 s6 h6 => ?_
    · walk_at "rd"
      refine ⟨rfl, ?_⟩
      walk_at "rd"
      refine rd_inL (sl ((s5.trans s6) _ _ hnd)) ?_
      walk_at "rd"
      refine rd_ite (fun c => ?_) fun c => r0 (decide_eq_false c) _ (Same.refl _)
      walk_at "rd"
      exact r1 (decide_eq_true c) _ (Same.refl _)
    have s16 := s15.trans s6
    have hs6 := hs5.mono s6
    walk_at "rd"
    refine rd_lenL (sl h6) ?_
    walk_at "rd"
    have e5 : ((((barsF M N ws (needsF M N ds) qs).filter fun o => decide (o ∈ needsF M N ds)).map V.int).length : Int) = (((barsF M N ws (needsF M N ds) qs).filter fun o => decide (o ∈ needsF M N ds)).length : Int) := by simp
    rw [e5, len_pos_any]
    refine rd_iteb (fun c => ?_) fun c => ?_
    · walk_at "rd"
      refine ⟨ll (by simp), fun d2 hd2 => ?_⟩
      walk_at "rd"
      refine ⟨ll (by simp), fun n2 hn2 => ?_⟩
      walk_at "rd"
      have s67 : Same H6 (upd (upd H6 d2 (.lst [])) n2 (.lst [])) := (Same.new hd2).trans (Same.new hn2)
      have s07 := s16.trans s67
      have hd2' : (upd (upd H6 d2 (.lst [])) n2 (.lst [])) d2 = some (.lst (iv [])) := keep_upd hn2 (upd_same ..)
      have hn2' : (upd (upd H6 d2 (.lst [])) n2 (.lst [])) n2 = some (.lst (iv [])) := upd_same ..
      have fr : ∀ {a : Addr}, H6 a = none → H a = none := fun {a} ha => by
        by_cases c : a = p
        · rw [c] at ha; exact absurd ha (src_ne hs6)
        · exact free_draw s16 c ha
      generalize (upd (upd H6 d2 (.lst [])) n2 (.lst [])) = H7 at *
      refine ⟨_, M, N, q, n2, qD, ws, [], qs, rfl, m_MR _ _ _ _ (((s4.trans s5).trans s6).trans s67) m3, sh, wl100, m_LL m_Pr _ _ _ _ (((s4.trans s5).trans s6).trans s67) lw3, by have := okw.l2; omega, hn2', by simp, by simp, (((s4.trans s5).trans s6).trans s67) _ _ hqs, fun b2 H8 s8 hb2 hb2' => ?_⟩
      have hb20 : H b2 = none := fr ((s67).free hb2)
      have s37 := ((s4.trans s5).trans s6).trans s67
      refine tail _ _ ⟨d2, n2, b2, [], [], _, _, _, rfl, s07.trans s8, (hs6.mono s67).mono s8, hb20, hb2', (((nq3.mono s37).plus hb2).mono s8), ?_, (((nu3.mono s37).plus hb2).mono s8), ?_, by simp, by simp, ?_, rfl, by simp⟩
      · exact ((NewD.one (P := fun G => IL G (.ref d2) []) (fr hd2) hd2' ⟨d2, rfl, upd_same ..⟩).plus hb2).mono s8
      · exact ((NewD.one (P := fun G => IL G (.ref n2) []) (fr (none_of_upd hn2)) hn2' ⟨n2, rfl, upd_same ..⟩).plus hb2).mono s8
      · unfold needsF; simp
    · refine rd_next ?_
      have s46 := s5.trans s6
      have s36 := s4.trans s46
      have s56 := s6
      refine tail _ _ ⟨dD, nD, bD, ds, _, _, _, _, rfl, s16, hs6, hbD0, s6 _ _ hbd, (((nq3.mono s4).plus hbD).mono s46), (((nd3.mono s4).plus hbD).mono s46), (((nu3.mono s4).plus hbD).mono s46), ((nn4.plus hbD).mono s46), fun o ho => by have := dsr o ho; omega, by omega, rfl, rfl, fun o ho hn => ?_⟩
      have := List.any_eq_false.mp c o ho
      simp [hn] at this
  · rintro σ H' ⟨dD, nD, bD, ds, nd, bars, x, y, rfl, s7, hs7, hbD0, hbd, nw, ndd, nqq, nnn, dr, dl, en, eb, dis⟩
    walk_at "rd"
    refine ⟨_, _, _, rfl, hs7, by omega, by omega, by omega, fun ex H8 e0 e1 s8 hs8 => ?_⟩
    have bDp : bD ≠ p := fun z => hp0 (by rw [← z]; exact hbD0)
    have pZ : upd H bD (.lst []) p ≠ none := by rw [upd_ne (Ne.symm bDp)]; exact hp0
    have s08 : Same (rm [p] H) H8 := (rm_self s7).trans s8
    have mm8 : MM (rm [p] H8) A bA M := mm.mono (rm_self s08)
    have R8 := rm_same [p] H8
    have nw8 := nw.draw pZ s8
    have nd8 := ndd.draw pZ s8
    have nq8 := nqq.draw pZ s8
    have nn8 := nnn.draw pZ s8
    have hbd8 := at_draw s8 bDp hbd
    obtain ⟨x1, a1, g1⟩ := mm.h1
    obtain ⟨x3, a3, g3⟩ := mm.h3
    obtain ⟨x5, a5, g5⟩ := mm.h5
    obtain ⟨x6, a6, g6⟩ := mm.h6
    have nm : A.m ∉ mts A bA := fun z => by
      have := mm.m
      rw [rm_in z] at this; cases this
    have dt := dt_of mm.dis nm
    have t0 : MT H8 A x1 (iv M.sz) x3 (bA.map V.ref) x5 x6 := ⟨s08 _ _ mm.mra.m, s08 _ _ a1, s08 _ _ mm.h2, s08 _ _ a3, s08 _ _ mm.h4, s08 _ _ a5, s08 _ _ a6⟩
    obtain ⟨xw, hwq, fwq⟩ := (nw8.at_ fun G G' s => m_LL m_Pr _ _ _ _ s).at_
    have hinX : ∀ b, b ∈ mts A bA → H b ≠ none := fun b hb z => mm.in_ b hb (rm_none z)
    have hqX : q ∉ mts A bA := fun z => hinX q z hq
    have bDX : bD ∉ mts A bA := fun z => hinX bD z hbD0
    have inm : ∀ {a : Addr}, a ∈ [A.a1, A.a2, A.a3, A.a4, A.a5, A.a6] → a ∈ mts A bA := fun {a} ha => by
      unfold mts
      simp only [List.mem_cons, List.not_mem_nil, or_false] at ha ⊢
      rcases ha with z | z | z | z | z | z <;> simp [z]
    have lm : M.wr.length ≤ 1000 := by rw [g.lwr]; omega
    have lx1 := g1.length
    have lx3 := g3.length
    have lx5 := g5.length
    have lx6 := g6.length
    have lb := mm.h4b.length
    have t1 := t0.p1 dt (l := x1 ++ [.ref q])
    have hwq9 : upd H8 A.a1 (.lst (x1 ++ [.ref q])) q = some (.lst xw) := upd_other (fun z => hqX (by rw [z]; exact inm (by simp))) hwq
    walk_at "rd"
    refine rd_iL (v := .ref A.a1) (sl t0.m) (by rfl) ?_
    refine rd_tyL t0.h1 ?_
    walk_at "rd"
    refine rd_push t0.h1 (by omega) ?_
    have o1 : ∀ b, b ∉ [A.a1, A.a2, A.a3, A.a4, A.a5, A.a6] → upd H8 A.a1 (.lst (x1 ++ [.ref q])) b = H8 b := fun b hb => upd_ne (fun z => hb (by rw [z]; simp))
    generalize upd H8 A.a1 (.lst (x1 ++ [.ref q])) = H9 at *
    walk_at "rd"
    refine rd_iL (v := .ref A.a2) (sl t1.m) (by rfl) ?_
    refine rd_tyL t1.h2 ?_
    walk_at "rd"
    refine rd_ifxV (x := .int ex) (y := .int xw.length) (fun Q q => by walk_at "rd"; exact q) (fun Q q => by walk_at "rd"; refine rd_lenL (sl hwq9) ?_; walk_at "rd"; exact q) ?_
    rw [iteV]
    have ee : 0 ≤ (if decide ((0 : Int) < ex) = true then ex else (xw.length : Int)) ∧ (if decide ((0 : Int) < ex) = true then ex else (xw.length : Int)) ≤ 3 := by
      have w2 := okw.l2
      rw [fwq.length]
      split <;> omega
    generalize (if decide ((0 : Int) < ex) = true then ex else (xw.length : Int)) = ez at ee
    walk_at "rd"
    have t2 := t1.p2 dt (l := iv M.sz ++ [.int ez])
    refine rd_push t1.h2 (by simp [g.lsz]; omega) ?_
    have o2 : ∀ b, b ∉ [A.a1, A.a2, A.a3, A.a4, A.a5, A.a6] → upd H9 A.a2 (.lst (iv M.sz ++ [.int ez])) b = H8 b := fun b hb => (upd_ne (fun z => hb (by rw [z]; simp))).trans (o1 b hb)
    generalize upd H9 A.a2 (.lst (iv M.sz ++ [.int ez])) = H10 at *
    walk_at "rd"
    refine rd_iL (v := .ref A.a3) (sl t2.m) (by rfl) ?_
    refine rd_tyL t2.h3 ?_
    walk_at "rd"
    have t3 := t2.p3 dt (l := x3 ++ [.ref nD])
    refine rd_push t2.h3 (by have := g.lnd; omega) ?_
    have o3 : ∀ b, b ∉ [A.a1, A.a2, A.a3, A.a4, A.a5, A.a6] → upd H10 A.a3 (.lst (x3 ++ [.ref nD])) b = H8 b := fun b hb => (upd_ne (fun z => hb (by rw [z]; simp))).trans (o2 b hb)
    generalize upd H10 A.a3 (.lst (x3 ++ [.ref nD])) = H11 at *
    walk_at "rd"
    refine rd_iL (v := .ref A.a4) (sl t3.m) (by rfl) ?_
    refine rd_tyL t3.h4 ?_
    walk_at "rd"
    have t4 := t3.p4 dt (l := bA.map V.ref ++ [.ref bD])
    refine rd_push t3.h4 (by have := g.lbr; simp; omega) ?_
    have o4 : ∀ b, b ∉ [A.a1, A.a2, A.a3, A.a4, A.a5, A.a6] → upd H11 A.a4 (.lst (bA.map V.ref ++ [.ref bD])) b = H8 b := fun b hb => (upd_ne (fun z => hb (by rw [z]; simp))).trans (o3 b hb)
    generalize upd H11 A.a4 (.lst (bA.map V.ref ++ [.ref bD])) = H12 at *
    walk_at "rd"
    refine rd_iL (v := .ref A.a5) (sl t4.m) (by rfl) ?_
    refine rd_tyL t4.h5 ?_
    walk_at "rd"
    have t5 := t4.p5 dt (l := x5 ++ [.ref dD])
    refine rd_push t4.h5 (by have := g.ldm; omega) ?_
    have o5 : ∀ b, b ∉ [A.a1, A.a2, A.a3, A.a4, A.a5, A.a6] → upd H12 A.a5 (.lst (x5 ++ [.ref dD])) b = H8 b := fun b hb => (upd_ne (fun z => hb (by rw [z]; simp))).trans (o4 b hb)
    generalize upd H12 A.a5 (.lst (x5 ++ [.ref dD])) = H13 at *
    walk_at "rd"
    refine rd_iL (v := .ref A.a6) (sl t5.m) (by rfl) ?_
    refine rd_tyL t5.h6 ?_
    walk_at "rd"
    have t6 := t5.p6 dt (l := x6 ++ [.ref qD])
    refine rd_push t5.h6 (by have := g.lqu; omega) ?_
    have o6 : ∀ b, b ∉ [A.a1, A.a2, A.a3, A.a4, A.a5, A.a6] → upd H13 A.a6 (.lst (x6 ++ [.ref qD])) b = H8 b := fun b hb => (upd_ne (fun z => hb (by rw [z]; simp))).trans (o5 b hb)
    generalize upd H13 A.a6 (.lst (x6 ++ [.ref qD])) = H14 at *
    have noL : ∀ {b}, b ∉ mts A bA → b ∉ [A.a1, A.a2, A.a3, A.a4, A.a5, A.a6] := fun hb z => hb (inm z)
    have bNoL : ∀ {b}, b ∈ bA → b ∉ [A.a1, A.a2, A.a3, A.a4, A.a5, A.a6] := fun {b} hb z => by
      have d := mm.dis
      unfold mts at d
      simp only [List.nodup_cons, List.mem_cons, not_or] at d
      simp only [List.mem_cons, List.not_mem_nil, or_false] at z
      obtain ⟨⟨_, _, _, _, _, k1⟩, ⟨_, _, _, _, k2⟩, ⟨_, _, _, k3⟩, ⟨_, _, k4⟩, ⟨_, k5⟩, k6, _⟩ := d
      rcases z with z | z | z | z | z | z <;> rw [z] at hb
      · exact k1 hb
      · exact k2 hb
      · exact k3 hb
      · exact k4 hb
      · exact k5 hb
      · exact k6 hb
    have bIn : ∀ {b}, b ∈ bA → b ∈ mts A bA := fun {b} hb => by unfold mts; simp [hb]
    have bDA : bD ∉ bA := fun z => bDX (bIn z)
    have bnd : (bA ++ [bD]).Nodup := by
      have d := mm.dis
      unfold mts at d
      simp only [List.nodup_cons] at d
      exact List.nodup_append.mpr ⟨d.2.2.2.2.2.2, by simp, fun a ha b hb z => bDA (by rw [← List.mem_singleton.mp hb, ← z]; exact ha)⟩
    have hbd14 : H14 bD = some (.lst (iv bars)) := (o6 _ (noL bDX)).trans hbd8
    have brng : ∀ o ∈ bars, 1 ≤ o ∧ o ≤ N := fun o ho => by rw [eb] at ho; exact (mem_barsF.mp ho).1
    refine rd_for ?_
    walk_at "rd"
    refine ⟨_, rfl, ⟨_, sl hbd14⟩, ?_⟩
    refine for_list (xs := iv bars) (fun k σ H' => ∃ z, σ = [some (.ref p), some (.ref A.m), some (.int 3), some (.int (1 + (N : Nat))), some (.ref q), some (.ref dD), some (.ref qD), some (.ref nD), some (.ref bD), some (.int ex), z] ∧ Same (rm bA H14) H' ∧ F2 (fun a b => H' a = some (.lst (iv b))) (bA ++ [bD]) (barAdd ((N : Int) + 1) (bars.take k) (M.br ++ [bars])))
      ⟨_, rfl, rm_same _ _, F2.snoc (mm.h4b.imp fun a b ha e => (o6 _ (bNoL ha)).trans (s08 _ _ e)) hbd14⟩ (fun k σ H' _ ⟨_, _, sk, _⟩ => sl (sk _ _ (by rw [rm_at bDA]; exact hbd14))) ?_ ?_
    · rintro k x0 σ H' hx ⟨z0, rfl, sk, fk⟩
      obtain ⟨o, ho, rfl⟩ := F2.getI hx
      have orng := brng o (List.mem_of_getElem? ho)
      have hol : o.toNat < bA.length := by rw [lb, g.lbr]; omega
      obtain ⟨aB, eaB⟩ : ∃ aB, bA[o.toNat]? = some aB := ⟨_, List.getElem?_eq_getElem hol⟩
      have eaB' : (bA ++ [bD])[o.toNat]? = some aB := by rw [List.getElem?_append_left hol]; exact eaB
      obtain ⟨cur, ecur, hcur⟩ := fk.get eaB'
      have curl : cur.length ≤ N + 1 := by
        have e9 := barAdd_at ((N : Int) + 1) (bars.take k) (M.br ++ [bars]) (List.Nodup.sublist (List.take_sublist _ _) (by rw [eb]; exact (upto_nodup N).filter _)) (fun o ho => by have := brng o (List.mem_of_mem_take ho); simp [g.lbr]; omega) o.toNat
        rw [List.getD_eq_getElem?_getD, ecur] at e9
        have e10 : (M.br ++ [bars]).getD o.toNat [] = M.br.getD o.toNat [] := by rw [getD_app, if_neg (by rw [g.lbr]; omega)]
        rw [e10] at e9
        have e11 := g.bl _ (getD_mem (xs := M.br) (i := o.toNat) (d := []) (by rw [g.lbr]; omega))
        have e12 : cur = _ := e9
        rw [e12, List.length_append]
        split <;> simp only [List.length_singleton, List.length_nil] <;> omega
      have amX : A.m ∉ bA := fun z => nm (bIn z)
      have a4X : A.a4 ∉ bA := fun z => bNoL z (by simp)
      walk_at "rd"
      refine rd_iL (v := .ref A.a4) (sl (sk _ _ (by rw [rm_at amX]; exact t6.m))) (by rfl) ?_
      walk_at "rd"
      refine rd_iL (v := .ref aB) (sl (sk _ _ (by rw [rm_at a4X]; exact t6.h4))) (atI_nn (by omega) (by rw [List.getElem?_append_left (by simpa using hol), List.getElem?_map, eaB]; rfl)) ?_
      refine rd_tyL hcur ?_
      walk_at "rd"
      refine rd_push hcur (by simp; omega) ?_
      refine ⟨_, rfl, (rm_self sk).trans (rm_upd (List.mem_of_getElem? eaB)), ?_⟩
      rw [bars_at _ ho]
      have e13 : (barAdd ((N : Int) + 1) (bars.take k) (M.br ++ [bars])).getD o.toNat [] = cur := by rw [List.getD_eq_getElem?_getD, ecur]; rfl
      rw [e13]
      have e14 : (iv cur ++ [V.int (1 + (N : Int))]) = iv (cur ++ [(N : Int) + 1]) := by
        rw [Int.add_comm]; simp
      rw [e14]
      exact lists_set fk bnd eaB'
    · rintro σ H' ⟨z0, rfl, sk, fk⟩
      have e15 : (iv bars).length = bars.length := by simp
      rw [e15, List.take_length] at fk
      have pX : p ∉ mts A bA := fun z => by
        have := mm.in_ p z
        rw [rm_in (by simp)] at this
        exact this rfl
      have far : ∀ {b : Addr} {o : HO}, b ∉ mts A bA → H8 b = some o → H' b = some o := fun {b o} hb e => sk _ _ (by rw [rm_at (fun z => hb (bIn z)), o6 _ (noL hb)]; exact e)
      have eX : mts A (bA ++ [bD]) = mts A bA ++ [bD] := rfl
      refine h H' bD (grown M N ws ez nd bars ds qs) (fun b o e => ?_) ?_ hbD0 (fun Z zp zd mz => ?_) ⟨ws, ez, nd, bars, ds, qs, rfl, okw, ee, dr, dl, fun o ho => by have := qsr o ho; omega, by omega, en, eb, dis⟩
      · have b1 : b ∉ p :: mts A bA := fun z => by rw [rm_in z] at e; cases e
        rw [rm_at b1] at e
        simp only [List.mem_cons, not_or] at b1
        exact far b1.2 (at_draw s08 b1.1 e)
      · obtain ⟨c', r', k', z1, z2, z3, z4⟩ := hs8
        exact ⟨c', r', k', far pX z1, z2, z3, by omega⟩
      have zX : ∀ {a}, a ∈ mts A bA → Z a = none := fun {a} ha => by
        have := mz.in_ a ha
        by_cases c : Z a = none
        · exact c
        · rw [rmH_in c] at this; exact absurd rfl this
      have zB : Z bD = none := by
        by_cases c : Z bD = none
        · exact c
        · exact absurd hbD0 (zd bD c)
      have zne : ∀ {b}, Z b = none → b ≠ p := fun {b} hb z => zp (by rw [← z]; exact hb)
      have tr : ∀ {P : Hp → Prop}, NewD (upd H bD (.lst [])) H8 P → ∃ G, Same G (rm (mts A (bA ++ [bD])) (rmH Z H')) ∧ P G := fun {P} ⟨G, q1, q2, q3⟩ => by
        refine ⟨G, fun b o e => ?_, q3⟩
        have b1 : b ∉ mts A bA := fun z => by
          have := q2 b (by rw [upd_ne (fun y => hinX b z (by rw [y]; exact hbD0))]; exact hinX b z)
          rw [this] at e; cases e
        have b2 : b ≠ bD := fun z => by
          have := q2 b (by rw [z, upd_same]; exact fun y => by cases y)
          rw [this] at e; cases e
        have b3 : Z b = none := by
          by_cases c : Z b = none
          · exact c
          · have := q2 b (by rw [upd_ne b2]; exact zd b c)
            rw [this] at e; cases e
        rw [rm_at (by rw [eX]; simp [b1, b2]), rmH_at b3]
        exact far b1 (q1 _ _ e)
      have T : Same (rm (mts A bA) (rmH Z H)) (rm (mts A (bA ++ [bD])) (rmH Z H')) := fun b o e => by
        have b1 : b ∉ mts A bA := fun z => by rw [rm_in z] at e; cases e
        rw [rm_at b1] at e
        obtain ⟨b3, e2⟩ := rmH_of e
        have b2 : b ≠ bD := fun z => by rw [z, hbD0] at e2; cases e2
        rw [rm_at (by rw [eX]; simp [b1, b2]), rmH_at b3]
        exact far b1 (at_draw s08 (zne b3) e2)
      have lst : ∀ {a : Addr} {o : HO}, a ∈ [A.a1, A.a2, A.a3, A.a4, A.a5, A.a6] → H14 a = some o → rmH Z H' a = some o := fun {a o} ha e => by
        rw [rmH_at (zX (inm ha))]
        exact sk _ _ (by rw [rm_at (fun z => bNoL z ha)]; exact e)
      obtain ⟨Gw, w1, w2⟩ := tr nw8
      obtain ⟨Gd, d1, d2⟩ := tr nd8
      obtain ⟨Gq, q1, q2⟩ := tr nq8
      obtain ⟨Gn, n1, n2⟩ := tr nn8
      obtain ⟨y1, c1, k1⟩ := mz.h1
      obtain ⟨y3, c3, k3⟩ := mz.h3
      obtain ⟨y5, c5, k5⟩ := mz.h5
      obtain ⟨y6, c6, k6⟩ := mz.h6
      have same : ∀ {a : Addr} {u v : List V}, rmH Z H a = some (.lst u) → rm [p] H a = some (.lst v) → u = v := fun {a u v} h1 h2 => by
        have e1 := (rmH_of h1).2
        have e2 := rm_same [p] H _ _ h2
        rw [e1] at e2
        cases e2; rfl
      have i1 := same c1 a1
      have i3 := same c3 a3
      have i5 := same c5 a5
      have i6 := same c6 a6
      subst i1 i3 i5 i6
      refine ⟨?_, T _ _ mz.m, m_IL _ _ _ _ T mz.h0, ⟨_, lst (by simp) t6.h1, ?_⟩, lst (by simp) (by rw [t6.h2]; simp [grown]), ⟨_, lst (by simp) t6.h3, ?_⟩, lst (by simp) (by rw [t6.h4]; simp), ?_, ⟨_, lst (by simp) t6.h5, ?_⟩, ⟨_, lst (by simp) t6.h6, ?_⟩⟩
      · rw [eX]
        exact List.nodup_append.mpr ⟨mm.dis, by simp, fun a ha b hb z => bDX (by rw [← List.mem_singleton.mp hb, ← z]; exact ha)⟩
      · exact F2.snoc (k1.imp fun _ _ _ z => m_LL m_Pr _ _ _ _ T z) (m_LL m_Pr _ _ _ _ w1 w2)
      · exact F2.snoc (k3.imp fun _ _ _ z => m_IL _ _ _ _ T z) (m_IL _ _ _ _ n1 n2)
      · refine fk.imp fun a b ha e => ?_
        rw [rmH_at ?_]
        · exact e
        · rcases List.mem_append.mp ha with y | y
          · exact zX (bIn y)
          · rw [List.mem_singleton.mp y]; exact zB
      · exact F2.snoc (k5.imp fun _ _ _ z => m_IL _ _ _ _ T z) (m_IL _ _ _ _ d1 d2)
      · exact F2.snoc (k6.imp fun _ _ _ z => m_IL _ _ _ _ T z) (m_IL _ _ _ _ q1 q2)
end
end LK
set_option maxHeartbeats 4000000
/-! Masks. -/
namespace LK
open PySem
def Bits (m : Int) (P : Int → Prop) : Prop := ∃ k : Nat, m = (k : Int) ∧ ∀ i : Nat, k.testBit i = true ↔ P (i : Int)
theorem Bits.congr {m : Int} {P Q : Int → Prop} (h : Bits m P) (e : ∀ i : Int, 0 ≤ i → (P i ↔ Q i)) : Bits m Q := by
  obtain ⟨k, rfl, b⟩ := h
  exact ⟨k, rfl, fun i => (b i).trans (e i (Int.natCast_nonneg i))⟩
theorem Bits.zero : Bits 0 (fun _ => False) := ⟨0, rfl, fun i => by simp⟩
theorem bitAnd_nat (a b : Nat) : Builtin.bitAnd (a : Int) (b : Int) = ((a &&& b : Nat) : Int) := by
  unfold Builtin.bitAnd
  split <;> simp_all
theorem bitNot2 (x : Int) : Builtin.bitNot (Builtin.bitNot x) = x := by unfold Builtin.bitNot; omega
theorem bitNot_neg (a : Nat) : decide (0 ≤ Builtin.bitNot (a : Int)) = false := by
  unfold Builtin.bitNot
  exact decide_eq_false (by omega)
theorem nn_dec (a : Nat) : decide (0 ≤ (a : Int)) = true := decide_eq_true (by omega)
theorem bitOr_nat (a b : Nat) : Builtin.bitOr (a : Int) (b : Int) = ((a ||| b : Nat) : Int) := by
  have e : Builtin.bitAnd (Builtin.bitNot (a : Int)) (Builtin.bitNot (b : Int)) = Builtin.bitNot ((a ||| b : Nat) : Int) := by
    unfold Builtin.bitAnd
    rw [bitNot_neg, bitNot_neg]
    show Builtin.bitNot (((Builtin.bitNot (Builtin.bitNot (a : Int))).toNat ||| (Builtin.bitNot (Builtin.bitNot (b : Int))).toNat : Nat) : Int) = _
    rw [bitNot2, bitNot2, Int.toNat_natCast, Int.toNat_natCast]
  unfold Builtin.bitOr
  rw [e, bitNot2]
theorem bitAndNot_nat (a b : Nat) : Builtin.bitAnd (a : Int) (Builtin.bitNot (b : Int)) = ((a - (a &&& b) : Nat) : Int) := by
  unfold Builtin.bitAnd
  rw [bitNot_neg, nn_dec]
  show (a : Int) - (((a : Int).toNat &&& (Builtin.bitNot (Builtin.bitNot (b : Int))).toNat : Nat) : Int) = _
  rw [bitNot2, Int.toNat_natCast, Int.toNat_natCast]
  have := @Nat.and_le_left a b
  omega
theorem and_mod2 (a b : Nat) : (a &&& b) % 2 = (a % 2) * (b % 2) := by
  rcases Nat.mod_two_eq_zero_or_one a with h1 | h1 <;> rcases Nat.mod_two_eq_zero_or_one b with h2 | h2
  all_goals
    have e : (a &&& b).testBit 0 = (a.testBit 0 && b.testBit 0) := Nat.testBit_and a b 0
    simp only [Nat.testBit_zero, h1, h2] at e
    rw [h1, h2]
    rcases Nat.mod_two_eq_zero_or_one (a &&& b) with h3 | h3 <;> rw [h3] at e <;> simp at e <;> simp [h3]
theorem sub_and (i : Nat) : ∀ a b : Nat, (a - (a &&& b)).testBit i = (a.testBit i && !b.testBit i) := by
  induction i with
  | zero =>
    intro a b
    have h1 := and_mod2 a b
    have h2 := @Nat.and_le_left a b
    simp only [Nat.testBit_zero]
    rcases Nat.mod_two_eq_zero_or_one a with ha | ha <;> rcases Nat.mod_two_eq_zero_or_one b with hb | hb
    all_goals
      rw [ha, hb] at h1
      rw [ha, hb]
      simp
      omega
  | succ i ih =>
    intro a b
    rw [Nat.testBit_succ, Nat.testBit_succ, Nat.testBit_succ, ← ih]
    have h1 := and_mod2 a b
    have h2 := @Nat.and_le_left a b
    have h3 : (a &&& b) / 2 = a / 2 &&& b / 2 := Nat.and_div_two
    congr 1
    rw [← h3]
    rcases Nat.mod_two_eq_zero_or_one a with ha | ha <;> rcases Nat.mod_two_eq_zero_or_one b with hb | hb
    all_goals
      rw [ha, hb] at h1
      omega
theorem Bits.and {m k : Int} {P Q : Int → Prop} (h : Bits m P) (h2 : Bits k Q) : Bits (Builtin.bitAnd m k) (fun i => P i ∧ Q i) := by
  obtain ⟨a, rfl, ha⟩ := h
  obtain ⟨b, rfl, hb⟩ := h2
  exact ⟨a &&& b, bitAnd_nat a b, fun i => by rw [Nat.testBit_and, Bool.and_eq_true, ha, hb]⟩
theorem Bits.or {m k : Int} {P Q : Int → Prop} (h : Bits m P) (h2 : Bits k Q) : Bits (Builtin.bitOr m k) (fun i => P i ∨ Q i) := by
  obtain ⟨a, rfl, ha⟩ := h
  obtain ⟨b, rfl, hb⟩ := h2
  exact ⟨a ||| b, bitOr_nat a b, fun i => by rw [Nat.testBit_or, Bool.or_eq_true, ha, hb]⟩
theorem Bits.less {m k : Int} {P Q : Int → Prop} (h : Bits m P) (h2 : Bits k Q) : Bits (Builtin.bitAnd m (Builtin.bitNot k)) (fun i => P i ∧ ¬ Q i) := by
  obtain ⟨a, rfl, ha⟩ := h
  obtain ⟨b, rfl, hb⟩ := h2
  refine ⟨a - (a &&& b), bitAndNot_nat a b, fun i => ?_⟩
  rw [sub_and, Bool.and_eq_true, ha, Bool.not_eq_true']
  show _ ↔ P i ∧ ¬ Q i
  rw [← hb]
  simp
theorem Bits.one {n : Int} (h0 : 0 ≤ n) : Bits (2 ^ n.toNat) (fun i => i = n) := by
  refine ⟨2 ^ n.toNat, by simp, fun i => ?_⟩
  rw [Nat.testBit_two_pow]
  simp
  omega
theorem Bits.add {m n : Int} {P : Int → Prop} (h : Bits m P) (h0 : 0 ≤ n) : Bits (Builtin.bitOr m (2 ^ n.toNat)) (fun i => P i ∨ i = n) := h.or (Bits.one h0)
/-- mask >> n & 1 -/
theorem Bits.at_ {m n : Int} {P : Int → Prop} (h : Bits m P) (h0 : 0 ≤ n) : (Builtin.bitAnd (m / 2 ^ n.toNat) 1 = 1) ↔ P n := by
  obtain ⟨k, rfl, hb⟩ := h
  have e : ((k : Int) / 2 ^ n.toNat) = ((k / 2 ^ n.toNat : Nat) : Int) := by simp
  rw [e]
  show Builtin.bitAnd ((k / 2 ^ n.toNat : Nat) : Int) ((1 : Nat) : Int) = 1 ↔ _
  rw [bitAnd_nat, Nat.and_one_is_mod]
  have := hb n.toNat
  rw [Nat.testBit_eq_decide_div_mod_eq, decide_eq_true_eq, Int.toNat_of_nonneg h0] at this
  rw [← this]
  omega
theorem Bits.ne0 {m : Int} {P : Int → Prop} (h : Bits m P) : m ≠ 0 ↔ ∃ i : Int, 0 ≤ i ∧ P i := by
  obtain ⟨k, rfl, hb⟩ := h
  constructor
  · intro hk
    have hk' : k ≠ 0 := fun z => hk (by rw [z]; rfl)
    obtain ⟨i, hi⟩ := Nat.exists_testBit_of_ne_zero hk'
    exact ⟨i, Int.natCast_nonneg i, (hb i).mp hi⟩
  · rintro ⟨i, h0, hi⟩ z
    have z' : k = 0 := by omega
    subst z'
    have := (hb i.toNat).mpr (by rwa [Int.toNat_of_nonneg h0])
    simp at this
theorem Bits.sub {m k : Int} {P Q : Int → Prop} (h : Bits m P) (h2 : Bits k Q) : Builtin.bitAnd m k ≠ m ↔ ∃ i : Int, 0 ≤ i ∧ P i ∧ ¬ Q i := by
  obtain ⟨a, rfl, ha⟩ := h
  obtain ⟨b, rfl, hb⟩ := h2
  rw [bitAnd_nat]
  constructor
  · intro hk
    refine Classical.byContradiction fun no => hk ?_
    have : a &&& b = a := Nat.eq_of_testBit_eq fun i => by
      rw [Nat.testBit_and]
      cases h1 : a.testBit i with
      | false => rfl
      | true =>
        cases h2 : b.testBit i with
        | true => rfl
        | false =>
          exact absurd ⟨(i : Int), Int.natCast_nonneg i, (ha i).mp h1, fun z => by rw [(hb i).mpr z] at h2; cases h2⟩ no
    rw [this]
  · rintro ⟨i, h0, hp, hq⟩ z
    have z' : a &&& b = a := by omega
    have h1 := (ha i.toNat).mpr (by rwa [Int.toNat_of_nonneg h0])
    have h2 : b.testBit i.toNat = true := by
      have : (a &&& b).testBit i.toNat = true := by rw [z']; exact h1
      rw [Nat.testBit_and, Bool.and_eq_true] at this
      exact this.2
    exact hq (by have := (hb i.toNat).mp h2; rwa [Int.toNat_of_nonneg h0] at this)
end LK
set_option maxHeartbeats 4000000
namespace LK
open PySem PySem.Spec PyProof.Rows L2
local macro_rules | `(tactic| walk_at "rd") => `(tactic| (repeat (first
  | with_reducible refine rd_seq ?_
  | with_reducible refine rd_asg ?_
  | with_reducible refine rd_ret ?_
  | with_reducible refine rd_drop ?_
  | with_reducible refine rd_if ?_
  | with_reducible refine rd_next ?_
  | ((with_reducible apply rd_var); (· exact rfl))
  | with_reducible refine rd_c ?_
  | with_reducible refine rd_op ?_
  | with_reducible refine rd_un ?_
  | with_reducible refine rd_I0 ?_
  | with_reducible refine rd_U ?_
  | with_reducible refine rd_eq ?_
  | with_reducible refine rd_ne ?_
  | with_reducible refine rd_neB ?_
  | with_reducible refine rd_asB ?_
  | with_reducible refine rd_test ?_
  | with_reducible refine rd_tB ?_
  | with_reducible refine rd_not ?_
  | with_reducible refine rd_and ?_
  | with_reducible refine rd_or ?_
  | with_reducible refine rd_andV ?_
  | with_reducible refine rd_orV ?_
  | with_reducible refine rd_notV ?_
  | with_reducible refine rd_ifx ?_
  | with_reducible refine rd_chain ?_
  | with_reducible refine rd_nil ?_
  | with_reducible refine rd_cons ?_
  | with_reducible refine rd_call ?_
  | with_reducible refine rd_cb ?_
  | with_reducible refine rd_lst ?_
  | with_reducible refine rd_tup ?_
  | with_reducible refine rd_min ?_
  | with_reducible refine rd_max ?_
  | with_reducible refine rd_abs ?_
  | with_reducible refine rd_int ?_
  | with_reducible refine rd_bm ?_
  | with_reducible refine rd_nt ?_
  | with_reducible refine rd_nf ?_
  | with_reducible refine rd_rg3 ?_
  | with_reducible refine rd_gnil ?_
  | with_reducible refine rd_gcons ?_
  | with_reducible refine rd_yes ?_
  | with_reducible refine rd_tt ?_
  | with_reducible refine rd_ff ?_
  | with_reducible refine rd_fld ?_
  | with_reducible refine rd_meth ?_
  | with_reducible refine rd_rev ?_
  | with_reducible refine rd_callN ?_
  | with_reducible refine rd_rg1 ?_
  | with_reducible refine rd_rg2 ?_
  | with_reducible refine rd_nm ?_
  | with_reducible refine rd_lc ?_
  | with_reducible refine rd_iL' ?_
  | with_reducible refine rd_iT' ?_)))
local macro_rules | `(tactic| walk_at "hp") => `(tactic| (first
  | assumption
  | exact upd_same ..
  | (refine keep_upd (by assumption) ?_; walk_at "hp")
  | (refine same_app (by assumption) ?_; walk_at "hp")))


structure BA where
  b : Addr
  dx : Addr
  ba : Addr
  n0 : Addr
  n1 : Addr
  n2 : Addr
  n3 : Addr
  n4 : Addr
  n5 : Addr
def bfs (B : BA) : List (Str × V) := [("cells", .int 3), ("_base", .ref B.ba), ("_numbers", .ref B.n0), ("_values", .ref B.n1), ("_sizes", .ref B.n2), ("_needs", .ref B.n3), ("_bars", .ref B.n4), ("_writers", .ref B.n5)]
def bmt (B : BA) : List Addr := [B.n0, B.n1, B.n2, B.n3, B.n4, B.n5]
/-- a book of the model's first N patches -/
structure BR (K : PySem.W.Frag) (H : Hp) (B : BA) (M : Mod) (N : Nat) : Prop where
  b : H B.b = some (.ins (BK K) B.dx (bfs B))
  h0 : H B.n0 = some (.lst (iv (upto N)))
  h1 : ∃ xs, H B.n1 = some (.lst xs) ∧ xs.length = N + 1
  h2 : ∃ xs, H B.n2 = some (.lst xs) ∧ xs.length = N + 1
  h3 : ∃ ms : List Int, H B.n3 = some (.lst (iv ms)) ∧ ms.length = N + 1 ∧ ∀ p : Int, 1 ≤ p → p ≤ N → Bits (ms.getD p.toNat 0) (fun o => o ∈ ndA M p)
  h4 : ∃ ms : List Int, H B.n4 = some (.lst (iv ms)) ∧ ms.length = N + 1 ∧ ∀ p : Int, 1 ≤ p → p ≤ N → Bits (ms.getD p.toNat 0) (fun o => o ∈ brA M p ∧ o ≤ N)
  h5 : ∃ ms : List Int, H B.n5 = some (.lst (iv ms)) ∧ ms.length = 3 ∧ ∀ c : Int, 0 ≤ c → c < 3 → Bits (ms.getD c.toNat 0) (fun p => (1 ≤ p ∧ p ≤ N) ∧ ∃ w ∈ wrA M p, w.1 = c)
  dis : (bmt B).Nodup
theorem BR.mono {K : PySem.W.Frag} {H H' : Hp} {B : BA} {M : Mod} {N : Nat} (h : BR K H B M N) (s : Same H H') : BR K H' B M N := by
  obtain ⟨x1, a1, b1⟩ := h.h1
  obtain ⟨x2, a2, b2⟩ := h.h2
  obtain ⟨x3, a3, b3⟩ := h.h3
  obtain ⟨x4, a4, b4⟩ := h.h4
  obtain ⟨x5, a5, b5⟩ := h.h5
  exact ⟨s _ _ h.b, s _ _ h.h0, ⟨x1, s _ _ a1, b1⟩, ⟨x2, s _ _ a2, b2⟩, ⟨x3, s _ _ a3, b3⟩, ⟨x4, s _ _ a4, b4⟩, ⟨x5, s _ _ a5, b5⟩, h.dis⟩
section
variable {P : Program} {w : World} {K : PySem.W.Frag} {mg : Str → Option Value} {base : Heap} {H : Hp} {B : BA} {M : Mod} {N : Nat} {Q : VK}
theorem fl_cells {R : V → Prop} (T : Txt P K mg) (h : H B.b = some (.ins (BK K) B.dx (bfs B))) (q : R (.int 3)) : ∃ a C dx fs v, V.ref B.b = .ref a ∧ H a = some (.ins C dx fs) ∧ Cls K C ∧ NoAttr K C "cells" ∧ fs.lookup ("cells" : Str) = some v ∧ R v := ⟨_, _, _, _, _, rfl, h, T.cl, T.n_cells, rfl, q⟩
theorem fl_n0 {R : V → Prop} (T : Txt P K mg) (h : H B.b = some (.ins (BK K) B.dx (bfs B))) (q : R (.ref B.n0)) : ∃ a C dx fs v, V.ref B.b = .ref a ∧ H a = some (.ins C dx fs) ∧ Cls K C ∧ NoAttr K C "_numbers" ∧ fs.lookup ("_numbers" : Str) = some v ∧ R v := ⟨_, _, _, _, _, rfl, h, T.cl, T.n_numbers, rfl, q⟩
theorem fl_n1 {R : V → Prop} (T : Txt P K mg) (h : H B.b = some (.ins (BK K) B.dx (bfs B))) (q : R (.ref B.n1)) : ∃ a C dx fs v, V.ref B.b = .ref a ∧ H a = some (.ins C dx fs) ∧ Cls K C ∧ NoAttr K C "_values" ∧ fs.lookup ("_values" : Str) = some v ∧ R v := ⟨_, _, _, _, _, rfl, h, T.cl, T.n_values, rfl, q⟩
theorem fl_n2 {R : V → Prop} (T : Txt P K mg) (h : H B.b = some (.ins (BK K) B.dx (bfs B))) (q : R (.ref B.n2)) : ∃ a C dx fs v, V.ref B.b = .ref a ∧ H a = some (.ins C dx fs) ∧ Cls K C ∧ NoAttr K C "_sizes" ∧ fs.lookup ("_sizes" : Str) = some v ∧ R v := ⟨_, _, _, _, _, rfl, h, T.cl, T.n_sizes, rfl, q⟩
theorem fl_n3 {R : V → Prop} (T : Txt P K mg) (h : H B.b = some (.ins (BK K) B.dx (bfs B))) (q : R (.ref B.n3)) : ∃ a C dx fs v, V.ref B.b = .ref a ∧ H a = some (.ins C dx fs) ∧ Cls K C ∧ NoAttr K C "_needs" ∧ fs.lookup ("_needs" : Str) = some v ∧ R v := ⟨_, _, _, _, _, rfl, h, T.cl, T.n_needs, rfl, q⟩
theorem fl_n4 {R : V → Prop} (T : Txt P K mg) (h : H B.b = some (.ins (BK K) B.dx (bfs B))) (q : R (.ref B.n4)) : ∃ a C dx fs v, V.ref B.b = .ref a ∧ H a = some (.ins C dx fs) ∧ Cls K C ∧ NoAttr K C "_bars" ∧ fs.lookup ("_bars" : Str) = some v ∧ R v := ⟨_, _, _, _, _, rfl, h, T.cl, T.n_bars, rfl, q⟩
theorem fl_n5 {R : V → Prop} (T : Txt P K mg) (h : H B.b = some (.ins (BK K) B.dx (bfs B))) (q : R (.ref B.n5)) : ∃ a C dx fs v, V.ref B.b = .ref a ∧ H a = some (.ins C dx fs) ∧ Cls K C ∧ NoAttr K C "_writers" ∧ fs.lookup ("_writers" : Str) = some v ∧ R v := ⟨_, _, _, _, _, rfl, h, T.cl, T.n_writers, rfl, q⟩
theorem fits_iff {ts : List Int} {n : Int} : fits M ts n = true ↔ (∀ o ∈ ndA M n, o ∈ ts) ∧ ∀ o ∈ brA M n, o ∉ ts := by
  unfold fits
  simp
/-! ### holds -/
def spHolds (K : PySem.W.Frag) : Sp := fun vs H Q _ => ∃ (B : BA) (M : Mod) (N : Nat) (u : V) (xs : List Int), vs = [.ref B.b, u] ∧ BR K H B M N ∧ Good M N ∧ IT H u xs ∧ xs.length < 1000 ∧ Q (.bl (isV M N xs)) H
theorem c_Book_holds (T : Txt P K mg) : Mt P w K mg base 1 (BK K) "holds" (spHolds K) := by
  have S : FnScope ["self", "numbers", "mask", "previous", "number", "needs"] ["self", "numbers"] (defScope (inClass (top 20) 17)) := ⟨rfl, rfl, rfl, by decide +kernel, rfl, by decide +kernel, by decide +kernel⟩
  refine T.m_holds.mt S (fun _ _ _ _ _ _ us hl => match us, hl with | [_, _], _ => rfl) (fun vs H Q E ⟨_, _, _, _, _, e, _⟩ => by rw [e]; rfl) fun f cdv A0 outer s H vs Q E hr ⟨B, M, N, u, xs, e, br, g, ⟨a, eu, ha⟩, hl, h⟩ => ?_
  subst e eu
  refine ⟨_, (pss_cons (ps_set (i := 2) S.nd rfl (Or.inl rfl) pe_int)
      (pss_cons (ps_set (i := 3) S.nd rfl (Or.inl rfl) pe_int)
      (pss_cons (ps_for PassesOwn.never rfl (pi_tupK (K := K) rfl (pv 1)) (pg_name (i := 4) S.nd rfl (Or.inl rfl)) (pss_cons (ps_if (pt_not (pt_chain op_lt op_le (pv 3) (pv 4) (pe_callB (k_lenK (K := K) rfl) (by rfl) T.b_len (by decide +kernel) (pa_cons (pe_fldK (K := K) rfl (pv 0) rfl) pa_nil)))) (pss_one (ps_ret pe_bl)) pss_nil)
      (pss_cons (ps_set (i := 5) S.nd rfl (Or.inl rfl) (pe_ix (ix_ltK (K := K) rfl) (pe_fldK (K := K) rfl (pv 0) rfl) (pv 4) (fun _ _ => rfl)))
      (pss_cons (ps_if (PW.pt (pw_or (pt_cmpR op_ne (pe_op op_and (pv 5) (pv 2)) (pv 5) (nomark _)) (pw_or1 (pt_cmpR op_ne (pe_op op_and (pe_ix (ix_ltK (K := K) rfl) (pe_fldK (K := K) rfl (pv 0) rfl) (pv 4) (fun _ _ => rfl)) (pv 2)) pe_int (nomark _))))) (pss_one (ps_ret pe_bl)) pss_nil)
      (pss_cons (ps_set (i := 2) S.nd rfl (Or.inl rfl) (pe_op op_or (pv 2) (pe_op op_shl pe_int (pv 4))))
      (pss_one (ps_set (i := 3) S.nd rfl (Or.inl rfl) (pv 4))))))))
      (pss_one (ps_ret pe_bl))))), ?_⟩
  obtain ⟨ms3, m3, l3, b3⟩ := br.h3
  obtain ⟨ms4, m4, l4, b4⟩ := br.h4
  walk_at "rd"
  refine rd_for ?_
  walk_at "rd"
  refine ⟨_, rfl, ⟨_, stp ha⟩, ?_⟩
  refine for_tup (xs := iv xs) (fun i σ H' => ∃ (mask prev : Int) (x y : Option V), σ = [some (.ref B.b), some (.ref a), some (.int mask), some (.int prev), x, y] ∧ H' = H ∧ Bits mask (fun o => o ∈ xs.take i) ∧ isV M N xs = goV M N (xs.take i) (xs.drop i) ∧ 0 ≤ prev ∧ (∀ l, (xs.take i).getLast? = some l → l = prev) ∧ (i = 0 → prev = 0))
    ⟨0, 0, _, _, rfl, rfl, Bits.zero.congr (by simp), by simp [isV], by omega, by simp, fun _ => rfl⟩ (fun i σ H' _ ⟨_, _, _, _, _, e, _⟩ => e ▸ stp ha) ?_ ?_
  · rintro i x σ H' hx ⟨mask, prev, x0, y0, rfl, rfl, hb, hv, p0, pl, pz⟩
    obtain ⟨n, hn, rfl⟩ := F2.getI hx
    have hil : i < xs.length := (List.getElem?_eq_some_iff.mp hn).1
    rw [drop_at hn] at hv
    have hN := g.nN
    have bad : isV M N xs = false → Q (.bl false) H' := fun z => z ▸ h
    have lastP : 1 ≤ i → ∃ l, (xs.take i).getLast? = some l := fun hi => by
      obtain ⟨j, rfl⟩ : ∃ j, i = j + 1 := ⟨i - 1, by omega⟩
      have hj : j < xs.length := by omega
      exact ⟨xs[j], by rw [take_snoc (List.getElem?_eq_getElem hj), List.getLast?_concat]⟩
    have lt_iff : (prev < n) ↔ (1 ≤ n ∧ ∀ l, (xs.take i).getLast? = some l → l < n) := by
      constructor
      · intro z
        exact ⟨by omega, fun l el => by rw [pl l el]; exact z⟩
      · rintro ⟨z1, z2⟩
        by_cases c : i = 0
        · rw [pz c]; omega
        · obtain ⟨l, el⟩ := lastP (by omega)
          have := pl l el
          have := z2 l el
          omega
    have hU : ((iv (upto N)).length : Int) = N := by simp [upto]
    have badLt : ¬ (prev < n ∧ n ≤ N) → isV M N xs = false := fun z => by
      rw [hv]
      simp only [goV]
      have : (decide (1 ≤ n) && decide (n ≤ N) && decide (∀ l, (xs.take i).getLast? = some l → l < n)) = false := by
        cases q : (decide (1 ≤ n) && decide (n ≤ N) && decide (∀ l, (xs.take i).getLast? = some l → l < n)) with
        | false => rfl
        | true =>
          simp only [Bool.and_eq_true, decide_eq_true_eq] at q
          exact absurd ⟨lt_iff.mpr ⟨q.1.1, q.2⟩, q.1.2⟩ z
      rw [this, Bool.false_and]
    walk_at "rd"
    refine rd_iteb (fun c1 => ?_) fun c1 => ?_
    rotate_left 1
    · walk_at "rd"
      refine bad (badLt fun z => ?_)
      exact absurd z.1 (of_decide_eq_false c1)
    walk_at "rd"
    refine fl_n0 T br.b ?_
    walk_at "rd"
    refine rd_lenL (sl br.h0) ?_
    walk_at "rd"
    rw [hU]
    cases c2 : decide (n ≤ (N : Int)) with
    | false =>
      walk_at "rd"
      exact bad (badLt fun z => absurd z.2 (of_decide_eq_false c2))
    | true =>
      have q1 : prev < n := of_decide_eq_true c1
      have q2 : n ≤ N := of_decide_eq_true c2
      obtain ⟨n1, n2⟩ := lt_iff.mp q1
      have e3 : ms3[n.toNat]? = some (ms3.getD n.toNat 0) := getD_at (by rw [l3]; omega)
      have e4 : ms4[n.toNat]? = some (ms4.getD n.toNat 0) := getD_at (by rw [l4]; omega)
      have B3 := b3 n n1 q2
      have B4 := b4 n n1 q2
      generalize ms3.getD n.toNat 0 = k3 at e3 B3
      generalize ms4.getD n.toNat 0 = k4 at e4 B4
      have next : isV M N xs = (fits M (xs.take i) n && goV M N (xs.take (i + 1)) (xs.drop (i + 1))) := by
        rw [hv, take_snoc hn]
        simp only [goV]
        have z3 : decide (∀ l, (xs.take i).getLast? = some l → l < n) = true := decide_eq_true n2
        rw [z3, decide_eq_true n1, decide_eq_true q2]
        rfl
      walk_at "rd"
      refine fl_n3 T br.b ?_
      walk_at "rd"
      refine rd_iL (sl m3) (atI_nn (by omega) (by rw [List.getElem?_map, e3]; rfl)) ?_
      walk_at "rd"
      refine rd_iteN (fun c3 => ?_) fun c3 => ?_
      · walk_at "rd"
        obtain ⟨o, _, o1, o2⟩ := (B3.sub hb).mp c3
        refine bad ?_
        have : fits M (xs.take i) n = false := by
          cases q : fits M (xs.take i) n with
          | false => rfl
          | true => exact absurd ((fits_iff.mp q).1 o o1) o2
        rw [next, this, Bool.false_and]
      walk_at "rd"
      refine fl_n4 T br.b ?_
      walk_at "rd"
      refine rd_iL (sl m4) (atI_nn (by omega) (by rw [List.getElem?_map, e4]; rfl)) ?_
      walk_at "rd"
      refine rd_iteN (fun c4 => ?_) fun c4 => ?_
      · walk_at "rd"
        obtain ⟨o, _, o1, o2⟩ := ((B4.and hb).ne0).mp c4
        refine bad ?_
        have : fits M (xs.take i) n = false := by
          cases q : fits M (xs.take i) n with
          | false => rfl
          | true => exact absurd o2 ((fits_iff.mp q).2 o o1.1)
        rw [next, this, Bool.false_and]
      walk_at "rd"
      refine rd_shl (by omega) (by omega) ?_
      walk_at "rd"
      have fok : fits M (xs.take i) n = true := by
        refine fits_iff.mpr ⟨fun o ho => ?_, fun o ho hi => ?_⟩
        · have o1 := ((g.nd n o n1 q2).mp ho).1
          exact Classical.byContradiction fun no => absurd c3 ((B3.sub hb).mpr ⟨o, by omega, ho, no⟩)
        · have o1 := g.brr n o n1 q2 ho
          exact absurd c4 (((B4.and hb).ne0).mpr ⟨o, by omega, ⟨ho, o1.2.1⟩, hi⟩)
      refine ⟨_, _, _, _, rfl, rfl, (hb.add (by omega)).congr fun o _ => ?_, ?_, by omega, ?_, by omega⟩
      · rw [take_snoc hn]; simp
      · rw [next, fok, Bool.true_and]
      · intro l el
        rw [take_snoc hn, List.getLast?_concat] at el
        cases el; rfl
  · rintro σ H' ⟨mask, prev, x0, y0, rfl, rfl, hb, hv, p0, pl, pz⟩
    have e0 : (iv xs).length = xs.length := by simp
    rw [e0, List.drop_length] at hv
    walk_at "rd"
    rw [hv] at h
    exact h
end
end LK
set_option maxHeartbeats 4000000
namespace LK
open PySem PySem.Spec PyProof.Rows L2
local macro_rules | `(tactic| walk_at "rd") => `(tactic| (repeat (first
  | with_reducible refine rd_seq ?_
  | with_reducible refine rd_asg ?_
  | with_reducible refine rd_ret ?_
  | with_reducible refine rd_drop ?_
  | with_reducible refine rd_if ?_
  | with_reducible refine rd_next ?_
  | ((with_reducible apply rd_var); (· exact rfl))
  | with_reducible refine rd_c ?_
  | with_reducible refine rd_op ?_
  | with_reducible refine rd_un ?_
  | with_reducible refine rd_I0 ?_
  | with_reducible refine rd_U ?_
  | with_reducible refine rd_eq ?_
  | with_reducible refine rd_ne ?_
  | with_reducible refine rd_neB ?_
  | with_reducible refine rd_asB ?_
  | with_reducible refine rd_test ?_
  | with_reducible refine rd_tB ?_
  | with_reducible refine rd_not ?_
  | with_reducible refine rd_and ?_
  | with_reducible refine rd_or ?_
  | with_reducible refine rd_andV ?_
  | with_reducible refine rd_orV ?_
  | with_reducible refine rd_notV ?_
  | with_reducible refine rd_ifx ?_
  | with_reducible refine rd_chain ?_
  | with_reducible refine rd_nil ?_
  | with_reducible refine rd_cons ?_
  | with_reducible refine rd_call ?_
  | with_reducible refine rd_cb ?_
  | with_reducible refine rd_lst ?_
  | with_reducible refine rd_tup ?_
  | with_reducible refine rd_min ?_
  | with_reducible refine rd_max ?_
  | with_reducible refine rd_abs ?_
  | with_reducible refine rd_int ?_
  | with_reducible refine rd_bm ?_
  | with_reducible refine rd_nt ?_
  | with_reducible refine rd_nf ?_
  | with_reducible refine rd_rg3 ?_
  | with_reducible refine rd_gnil ?_
  | with_reducible refine rd_gcons ?_
  | with_reducible refine rd_yes ?_
  | with_reducible refine rd_tt ?_
  | with_reducible refine rd_ff ?_
  | with_reducible refine rd_fld ?_
  | with_reducible refine rd_meth ?_
  | with_reducible refine rd_rev ?_
  | with_reducible refine rd_callN ?_
  | with_reducible refine rd_rg1 ?_
  | with_reducible refine rd_rg2 ?_
  | with_reducible refine rd_nm ?_
  | with_reducible refine rd_lc ?_
  | with_reducible refine rd_iL' ?_
  | with_reducible refine rd_iT' ?_)))
local macro_rules | `(tactic| walk_at "hp") => `(tactic| (first
  | assumption
  | exact upd_same ..
  | (refine keep_upd (by assumption) ?_; walk_at "hp")
  | (refine same_app (by assumption) ?_; walk_at "hp")))


theorem upd_back {H : Hp} {d : Addr} {o u : HO} (h : H d = some u) : upd (upd H d o) d u = H := by
  funext b
  by_cases c : b = d
  · subst c; rw [upd_same, h]
  · rw [upd_ne c, upd_ne c]
theorem rd_lock {t : TS} {N B C : L2.St → Hp → Prop} {R : VK} {σ : L2.St} {H : Hp} {d : Addr} {kvs : List (Key × V)} (h : H d = some (.dK kvs))
    (k : ∀ od, t ⟨fun σ' H' => H' d = some (.frz od (.dK kvs)) ∧ N σ' (upd H' d (.dK kvs)), fun v H' => H' d = some (.frz od (.dK kvs)) ∧ R v (upd H' d (.dK kvs)), fun σ' H' => H' d = some (.frz od (.dK kvs)) ∧ B σ' (upd H' d (.dK kvs)), fun σ' H' => H' d = some (.frz od (.dK kvs)) ∧ C σ' (upd H' d (.dK kvs))⟩ σ (upd H d (.frz od (.dK kvs)))) : tLock t ⟨N, R, B, C⟩ σ H := ⟨d, _, h, by simp [Mut], k⟩
theorem dnew {σ : L2.St} {H : Hp} {Q : VK} (h : ∀ p, H p = none → Q (.ref p) (upd H p (.dK []))) : tDNewK σ H Q := h
section
variable {td ty tv tk : TE} {σ : L2.St} {H : Hp} {Q : VK} {N B C : L2.St → Hp → Prop} {R : VK}
theorem rd_dput (h : tv σ H fun v H1 => td σ H1 fun x H2 => ty σ H2 fun y H3 => ∃ a H4, x = .ref a ∧ DPut H3 a y v H4 ∧ N σ H4) : sDPut td ty tv ⟨N, R, B, C⟩ σ H := h
theorem rd_din (h : ty σ H fun y H1 => td σ H1 fun x H2 => ∃ a o, x = .ref a ∧ DGet H2 a y o ∧ Q (.bl o.isSome) H2) : tDIn ty td σ H Q := h
theorem rd_dget (h : td σ H fun x H1 => ty σ H1 fun y H2 => ∃ a v, x = .ref a ∧ DGet H2 a y (some v) ∧ Q v H2) : tDGet td ty σ H Q := h
theorem rd_dc {wi : TI} {g : TG} {tt : TT} {vs : List Nat} (h : wi σ H fun J H1 => ∀ D, H1 D = none → ∃ W : Nat → Nat → Hp → Prop, (∃ m, W 0 m (upd H1 D (.dK []))) ∧ ∀ i m H, W i m H →
  (J.stop i H ∧ Q (.ref D) H) ∨ (J.go i H ∧ ∃ Nx : Hp → Prop, (∀ H', Nx H' → ∃ m', m' < m ∧ W (i + 1) m' H') ∧ ∀ x H', J.yld i H x H' → g x (wipe σ vs) H' fun σ2 H2 => wipe σ2 vs = wipe σ vs ∧ tt σ2 H2 fun b H3 =>
    if b = true then tk σ2 H3 fun y H4 => tv σ2 H4 fun z H5 => ∃ kvs k, y = kV k ∧ H5 D = some (.dK kvs) ∧ kvs.length < sizeLine ∧ Nx (upd H5 D (.dK (putK kvs k z))) else Nx H3)) : tDc wi g tt tk tv vs σ H Q := h
end
theorem eqbit {c : Int} : decide (c = 1) = decide (c = 1) := rfl
section
variable {P : Program} {w : World} {K : PySem.W.Frag} {mg : Str → Option Value} {base : Heap}
def spMaskOf (K : PySem.W.Frag) : Sp := fun vs H Q _ => ∃ (u : V) (c : V) (xs : List Int), vs = [c, u] ∧ IT H u xs ∧ (∀ x ∈ xs, 0 ≤ x ∧ x < 1000) ∧ ∀ m, Bits m (fun o => o ∈ xs) → Q (.int m) H
theorem c_Book_mask_of (T : Txt P K mg) : Mt P w K mg base 1 (BK K) "mask_of" (spMaskOf K) := by
  have S : FnScope ["self", "numbers", "mask", "number"] ["self", "numbers"] (defScope (inClass (top 20) 16)) := ⟨rfl, rfl, rfl, by decide +kernel, rfl, by decide +kernel, by decide +kernel⟩
  refine T.m_mask_of.mt S (fun _ _ _ _ _ _ us hl => match us, hl with | [_, _], _ => rfl) (fun vs H Q E ⟨_, _, _, e, _⟩ => by rw [e]; rfl) fun f cdv A0 outer s H vs Q E hr ⟨u, c, xs, e, ⟨a, eu, ha⟩, hb, h⟩ => ?_
  subst e eu
  refine ⟨_, (pss_cons (ps_set (i := 2) S.nd rfl (Or.inl rfl) pe_int)
      (pss_cons (ps_for PassesOwn.never rfl (pi_tupK (K := K) rfl (pv 1)) (pg_name (i := 3) S.nd rfl (Or.inl rfl)) (pss_one (ps_set (i := 2) S.nd rfl (Or.inl rfl) (pe_op op_or (pv 2) (pe_op op_shl pe_int (pv 3))))))
      (pss_one (ps_ret (pv 2))))), ?_⟩
  walk_at "rd"
  refine rd_for ?_
  walk_at "rd"
  refine ⟨_, rfl, ⟨_, stp ha⟩, ?_⟩
  refine for_tup (xs := iv xs) (fun i σ H' => ∃ (m : Int) (x : Option V), σ = [some c, some (.ref a), some (.int m), x] ∧ H' = H ∧ Bits m (fun o => o ∈ xs.take i)) ⟨0, _, rfl, rfl, Bits.zero.congr (by simp)⟩ (fun i σ H' _ ⟨_, _, _, e, _⟩ => e ▸ stp ha) ?_ ?_
  · rintro i x σ H' hx ⟨m, x0, rfl, rfl, b⟩
    obtain ⟨n, hn, rfl⟩ := F2.getI hx
    have hn0 := hb n (List.mem_of_getElem? hn)
    walk_at "rd"
    refine rd_shl hn0.1 hn0.2 ?_
    walk_at "rd"
    exact ⟨_, _, rfl, rfl, (b.add hn0.1).congr fun o _ => by rw [take_snoc hn]; simp⟩
  · rintro σ H' ⟨m, x0, rfl, rfl, b⟩
    have e0 : (iv xs).length = xs.length := by simp
    rw [e0, List.take_length] at b
    walk_at "rd"
    exact h m b
def spMembers (K : PySem.W.Frag) : Sp := fun vs H Q _ => ∃ (B : BA) (N : Nat) (m : Int) (P : Int → Prop), vs = [.ref B.b, .int m] ∧ (H B.b = some (.ins (BK K) B.dx (bfs B)) ∧ H B.n0 = some (.lst (iv (upto N)))) ∧ N ≤ 21 ∧ Bits m P ∧
  ∀ a xs H', Same H H' → H a = none → H' a = some (.tup (iv xs)) → (∀ o, o ∈ xs ↔ (1 ≤ o ∧ o ≤ N) ∧ P o) → xs.Nodup → xs.length ≤ N → Q (.ref a) H'
theorem c_Book_members (T : Txt P K mg) : Mt P w K mg base 1 (BK K) "_members" (spMembers K) := by
  have S : FnScope ["self", "mask", "number"] ["self", "mask"] (defScope (inClass (top 20) 3)) := ⟨rfl, rfl, rfl, by decide +kernel, rfl, by decide +kernel, by decide +kernel⟩
  refine T.m_members.mt S (fun _ _ _ _ _ _ us hl => match us, hl with | [_, _], _ => rfl) (fun vs H Q E ⟨_, _, _, _, e, _⟩ => by rw [e]; rfl) fun f cdv A0 outer s H vs Q E hr ⟨B, N, m, P, e, ⟨hbb, hb0⟩, hN, b, h⟩ => ?_
  subst e
  refine ⟨_, (pss_one (ps_ret (pe_callTy (k_tupK (K := K) rfl) (by rfl) T.b_tuple (by decide +kernel) (pa_cons (pe_lc (own := [("number", 2)]) (by rfl) S.nd (pi_listK (K := K) rfl (pe_fldK (K := K) rfl (pv 0) rfl)) (blkOk_by (own := [("number", 2)]) (by kernel_rfl)) (fun _ _ _ _ _ => (pg_name (i := 2) S.nd rfl (Or.inl rfl))) (fun _ _ _ _ _ => (pts_one (pt_cmpR op_eq (pe_op op_and (pe_op op_shr (pv 1) (pv 2)) pe_int) pe_int (nomark _)))) (fun _ _ _ _ _ => (pv 2))) pa_nil)))), ?_⟩
  walk_at "rd"
  refine fl_n0 T hbb ?_
  refine ⟨_, rfl, ⟨_, sl hb0⟩, fun D hD => ?_⟩
  refine lcI (fun o => decide (Builtin.bitAnd (m / 2 ^ o.toNat) 1 = 1)) V.int (sl hb0) hD (by rw [upto_length]; omega) (fun o H3 ho s3 R1 R0 r1 r0 => ?_) fun H3 s3 h3 => ?_
  · have o1 := mem_upto.mp ho
    walk_at "rd"
    refine ⟨rfl, ?_⟩
    walk_at "rd"
    refine rd_shr (by omega) ?_
    walk_at "rd"
    refine rd_ite (fun c => ?_) fun c => r0 (decide_eq_false c) _ (Same.refl _)
    walk_at "rd"
    exact r1 (decide_eq_true c) _ (Same.refl _)
  · walk_at "rd"
    refine rd_tupL (sl h3) fun l hl => ?_
    refine h l ((upto N).filter fun o => decide (Builtin.bitAnd (m / 2 ^ o.toNat) 1 = 1)) _ (s3.trans (Same.new hl)) (s3.free hl) (upd_same ..) (fun o => ?_) ((upto_nodup N).filter _) ?_
    · rw [List.mem_filter, mem_upto, decide_eq_true_eq]
      constructor
      · rintro ⟨z1, z2⟩; exact ⟨z1, (b.at_ (by omega)).mp z2⟩
      · rintro ⟨z1, z2⟩; exact ⟨z1, (b.at_ (by omega)).mpr z2⟩
    · have := List.length_filter_le (fun o => decide (Builtin.bitAnd (m / 2 ^ o.toNat) 1 = 1)) (upto N)
      rwa [upto_length] at this
def spCheck (K : PySem.W.Frag) : Sp := fun vs H Q _ => ∃ (B : BA) (M : Mod) (N : Nat) (n : Int), vs = [.ref B.b, .int n] ∧ BR K H B M N ∧ 1 ≤ n ∧ n ≤ N ∧ Q .non H
theorem c_Book_check_number (T : Txt P K mg) : Mt P w K mg base 1 (BK K) "check_number" (spCheck K) := by
  have S : FnScope ["self", "number"] ["self", "number"] (defScope (inClass (top 20) 4)) := ⟨rfl, rfl, rfl, by decide +kernel, rfl, by decide +kernel, by decide +kernel⟩
  refine T.m_check_number.mt S (fun _ _ _ _ _ _ us hl => match us, hl with | [_, _], _ => rfl) (fun vs H Q E ⟨_, _, _, _, e, _⟩ => by rw [e]; rfl) fun f cdv A0 outer s H vs Q E hr ⟨B, M, N, n, e, br, n1, n2, h⟩ => ?_
  subst e
  refine ⟨_, (pss_one (ps_if (pt_not (pt_chain op_le op_le pe_int (pv 1) (pe_callB (k_lenK (K := K) rfl) (by rfl) T.b_len (by decide +kernel) (pa_cons (pe_fldK (K := K) rfl (pv 0) rfl) pa_nil)))) (pss_one ps_never) pss_nil)), ?_⟩
  have hU : ((iv (upto N)).length : Int) = N := by simp [upto]
  walk_at "rd"
  refine rd_iteT' n1 ?_
  walk_at "rd"
  refine fl_n0 T br.b ?_
  walk_at "rd"
  refine rd_lenL (sl br.h0) ?_
  walk_at "rd"
  rw [hU, decide_eq_true n2]
  walk_at "rd"
  exact h
def spLen (K : PySem.W.Frag) : Sp := fun vs H Q _ => ∃ (B : BA) (M : Mod) (N : Nat), vs = [.ref B.b] ∧ BR K H B M N ∧ Q (.int N) H
theorem c_Book_len (T : Txt P K mg) : Mt P w K mg base 1 (BK K) "__len__" (spLen K) := by
  have S : FnScope ["self"] ["self"] (defScope (inClass (top 20) 18)) := ⟨rfl, rfl, rfl, by decide +kernel, rfl, by decide +kernel, by decide +kernel⟩
  refine T.m_len.mt S (fun _ _ _ _ _ _ us hl => match us, hl with | [_], _ => rfl) (fun vs H Q E ⟨_, _, _, e, _⟩ => by rw [e]; rfl) fun f cdv A0 outer s H vs Q E hr ⟨B, M, N, e, br, h⟩ => ?_
  subst e
  refine ⟨_, (pss_one (ps_ret (pe_callB (k_lenK (K := K) rfl) (by rfl) T.b_len (by decide +kernel) (pa_cons (pe_fldK (K := K) rfl (pv 0) rfl) pa_nil)))), ?_⟩
  have hU : ((iv (upto N)).length : Int) = N := by simp [upto]
  walk_at "rd"
  refine fl_n0 T br.b ?_
  walk_at "rd"
  refine rd_lenL (sl br.h0) ?_
  rw [hU]
  exact h
theorem c_Book_contains (T : Txt P K mg) : Mt P w K mg base 2 (BK K) "__contains__" (spHolds K) := by
  have S : FnScope ["self", "version"] ["self", "version"] (defScope (inClass (top 20) 20)) := ⟨rfl, rfl, rfl, by decide +kernel, rfl, by decide +kernel, by decide +kernel⟩
  refine T.m_contains.mt S (fun _ _ _ _ _ _ us hl => match us, hl with | [_, _], _ => rfl) (fun vs H Q E ⟨_, _, _, _, _, e, _⟩ => by rw [e]; rfl) fun f cdv A0 outer s H vs Q E hr ⟨B, M, N, u, xs, e, br, g, hu, hl, h⟩ => ?_
  subst e
  refine ⟨_, (pss_one (ps_ret (pe_m (pv 0) T.cl (c_Book_holds T) hr (by decide) (pa_cons (pv 1) pa_nil)))), ?_⟩
  walk_at "rd"
  refine ⟨_, _, _, rfl, br.b, rfl, ?_⟩
  walk_at "rd"
  exact ⟨B, M, N, u, xs, rfl, br, g, hu, hl, h⟩
/-! ### checked writes -/
def kvsOf (ws : List (Int × Int)) : List (Key × V) := ws.map fun w => (.inl w.1, .int w.2)
theorem valV_kvsOf {ws : List (Int × Int)} {c : Int} (h : c ∉ ws.map (·.1)) : valV (kvsOf ws) (.inl c) = none := by
  induction ws with
  | nil => rfl
  | cons w ws ih =>
    have h1 : ¬ (Sum.inl w.1 : Key) = .inl c := fun z => h (by have := Sum.inl.inj z; simp [this])
    show valV ((_, _) :: kvsOf ws) _ = none
    rw [valV_neg h1]
    exact ih fun z => h (by rw [List.map_cons]; exact List.mem_cons_of_mem _ z)
theorem valV_mem {ws : List (Int × Int)} {c : Int} (h : c ∈ ws.map (·.1)) : ∃ v, valV (kvsOf ws) (.inl c) = some v := by
  induction ws with
  | nil => cases h
  | cons w ws ih =>
    by_cases e : w.1 = c
    · show ∃ v, valV (((Sum.inl w.1 : Key), V.int w.2) :: kvsOf ws) (Sum.inl c) = some v
      exact ⟨_, valV_pos (by rw [e])⟩
    · have h1 : ¬ (Sum.inl w.1 : Key) = .inl c := fun z => e (Sum.inl.inj z)
      obtain ⟨v, hv⟩ := ih (by
        rcases List.mem_cons.mp h with z | z
        · exact absurd z.symm e
        · exact z)
      exact ⟨v, (show valV (((Sum.inl w.1 : Key), V.int w.2) :: kvsOf ws) (Sum.inl c) = some v from (valV_neg h1).trans hv)⟩
def spChecked : Sp := fun vs H Q _ => ∃ (a : Addr) (ws : List (Int × Int)), vs = [.ref a, .int 3] ∧ LL Pr H (.ref a) ws ∧ WrOk ws ∧
  ∀ d H' (kvs : List (Key × V)) (ks : List Int), Same H H' → H d = none → H' d = some (.dK kvs) → kvs.map (·.1) = ks.map Sum.inl → ks.Perm (ws.map (·.1)) → Q (.ref d) H'
theorem dc_list {K : PySem.W.Frag} {a : Addr} {xs : List V} {g : TG} {tt : TT} {tk tv : TE} {vs : List Nat} {σ : L2.St} {H1 : Hp} {D : Addr} {Qd : Hp → Prop} (Pv : Nat → Hp → Prop) (h0 : Pv 0 (upd H1 D (.dK []))) (hl : ∀ i H, i ≤ xs.length → Pv i H → SqL K H a xs)
    (hs : ∀ i x H, xs[i]? = some x → Pv i H → g x (wipe σ vs) H fun σ2 H2 => wipe σ2 vs = wipe σ vs ∧ tt σ2 H2 fun b H3 =>
      if b = true then tk σ2 H3 fun y H4 => tv σ2 H4 fun z H5 => ∃ kvs k, y = kV k ∧ H5 D = some (.dK kvs) ∧ kvs.length < sizeLine ∧ Pv (i + 1) (upd H5 D (.dK (putK kvs k z))) else Pv (i + 1) H3) (hd : ∀ H, Pv xs.length H → Qd H) :
    ∃ W : Nat → Nat → Hp → Prop, (∃ m, W 0 m (upd H1 D (.dK []))) ∧ ∀ i m H, W i m H →
      ((Itl K a).stop i H ∧ Qd H) ∨ ((Itl K a).go i H ∧ ∃ Nx : Hp → Prop, (∀ H', Nx H' → ∃ m', m' < m ∧ W (i + 1) m' H') ∧ ∀ x H', (Itl K a).yld i H x H' → g x (wipe σ vs) H' fun σ2 H2 => wipe σ2 vs = wipe σ vs ∧ tt σ2 H2 fun b H3 =>
        if b = true then tk σ2 H3 fun y H4 => tv σ2 H4 fun z H5 => ∃ kvs k, y = kV k ∧ H5 D = some (.dK kvs) ∧ kvs.length < sizeLine ∧ Nx (upd H5 D (.dK (putK kvs k z))) else Nx H3) := by
  refine ⟨fun i m H => m = xs.length - i ∧ i ≤ xs.length ∧ Pv i H, ⟨xs.length, by simp, Nat.zero_le _, h0⟩, ?_⟩
  rintro i m H ⟨rfl, hi, p⟩
  have q := hl i H hi p
  by_cases hlt : i < xs.length
  · refine .inr ⟨⟨xs, xs[i], q, by simp [hlt]⟩, Pv (i + 1), fun H' p' => ⟨xs.length - (i + 1), by omega, rfl, hlt, p'⟩, fun x H' y => ?_⟩
    obtain ⟨e, y⟩ := y
    subst e
    exact hs i x _ (y xs q) p
  · have e : i = xs.length := by omega
    subst e
    exact .inl ⟨⟨xs, q, Nat.le_refl _⟩, hd H p⟩
theorem kvs_none {kvs : List (Key × V)} {ks : List Int} {c : Int} (h : kvs.map (·.1) = ks.map Sum.inl) (hc : c ∉ ks) : valV kvs (.inl c) = none := by
  cases e : valV kvs (.inl c) with
  | none => rfl
  | some v =>
    have := valV_in e
    rw [h] at this
    obtain ⟨x, hx, ex⟩ := List.mem_map.mp this
    exact absurd (Sum.inl.inj ex ▸ hx) hc
theorem c_checked_writes (T : Txt P K mg) : Cal P w K mg base 1 "checked_writes" spChecked := by
  have S : FnScope ["writes", "cells", "values", "cell", "value"] ["writes", "cells"] (defScope (top 19)) := ⟨rfl, rfl, rfl, by decide +kernel, rfl, by decide +kernel, by decide +kernel⟩
  refine T.d_checked_writes.cal S (fun _ _ _ _ _ _ us hl => match us, hl with | [_, _], _ => rfl) (fun vs H Q E ⟨_, _, e, _⟩ => by rw [e]; rfl) fun f cdv A0 outer s H vs Q E hr ⟨a, ws, e, hw, ok, h⟩ => ?_
  subst e
  refine ⟨_, (pss_cons (ps_if (pt_cmpR op_eq (pe_callB (k_lenK (K := K) rfl) (by rfl) T.b_len (by decide +kernel) (pa_cons (pv 0) pa_nil)) pe_int (nomark _)) (pss_one ps_never) pss_nil)
      (pss_cons (ps_set (i := 2) S.nd rfl (Or.inr rfl) pe_dnewK)
      (pss_cons (ps_for PassesOwn.never rfl (pi_listK (K := K) rfl (pv 0)) (pg_tupK (K := K) (n := 2) rfl rfl (pgs_cons (pg_name (i := 3) S.nd rfl (Or.inl rfl)) (pgs_cons (pg_name (i := 4) S.nd rfl (Or.inl rfl)) pgs_nil))) (pss_cons (ps_if (pt_not (pt_chain op_le op_lt pe_int (pv 3) (pv 1))) (pss_one ps_never) pss_nil)
      (pss_cons (ps_if (pt_cmp (pc_din (hu_of hr) (pv 3) (pv 2))) (pss_one ps_never) pss_nil)
      (pss_one (ps_dput (hu_of hr) (pv 2) (pv 3) (pv 4) rfl)))))
      (pss_one (ps_ret (pe_dc (own := [("cell", 3)]) (by rfl) S.nd (pi_listK (K := K) rfl (pe_callB (call_sortedDI rfl) (by rfl) T.b_sorted (by decide +kernel) (pa_cons (pv 2) pa_nil))) (blkOk_by (own := [("cell", 3)]) (by kernel_rfl)) (fun _ _ _ _ _ => (pg_name (i := 3) S.nd rfl (Or.inl rfl))) (fun _ _ _ _ _ => pts_nil) (fun _ _ _ _ _ => (pv 3)) (fun _ _ _ _ _ => (pe_dget (hu_of hr) (pv 2) (pv 3) (fun _ _ => rfl))))))))), ?_⟩
  obtain ⟨xs, ha, fx⟩ := hw.at_
  have l1 := ok.l1
  have l2 := ok.l2
  have hxl := fx.length
  walk_at "rd"
  refine rd_lenL (sl ha) ?_
  walk_at "rd"
  refine rd_iteF' (by omega) ?_
  walk_at "rd"
  refine dnew fun d hd => ?_
  walk_at "rd"
  refine rd_for ?_
  walk_at "rd"
  refine ⟨_, rfl, ⟨_, sl (Same.new hd _ _ ha)⟩, ?_⟩
  refine for_list (xs := xs) (fun i σ H' => ∃ x y, σ = [some (.ref a), some (.int 3), some (.ref d), x, y] ∧ Same H H' ∧ H' d = some (.dK (kvsOf (ws.take i)))) ⟨_, _, rfl, Same.new hd, by rw [upd_same]; rfl⟩ (fun i σ H' _ ⟨_, _, _, s1, _⟩ => sl (s1 _ _ ha)) ?_ ?_
  · rintro i x σ H' hx ⟨x0, y0, rfl, s1, hd1⟩
    obtain ⟨wi, hwi, ap, rfl, hp⟩ := fx.get hx
    have hc := ok.c wi (List.mem_of_getElem? hwi)
    have hnew : wi.1 ∉ (ws.take i).map (·.1) := fun z => by
      have hdup := ok.d
      obtain ⟨w', hw', e'⟩ := List.mem_map.mp z
      obtain ⟨j, hj⟩ := List.mem_iff_getElem?.mp hw'
      have hji : j < i := by
        have := (List.getElem?_eq_some_iff.mp hj).1
        simp at this; omega
      have hj2 : ws[j]? = some w' := by rw [List.getElem?_take_of_lt hji] at hj; exact hj
      have a1 : (ws.map (·.1))[j]? = some wi.1 := by rw [List.getElem?_map, hj2]; simp [e']
      have a2 : (ws.map (·.1))[i]? = some wi.1 := by rw [List.getElem?_map, hwi]; rfl
      have := (List.getElem?_inj (by rw [List.length_map]; exact (List.getElem?_eq_some_iff.mp hj2).1) hdup).mp (a1.trans a2.symm)
      omega
    have hv := valV_kvsOf hnew
    refine rd_gtup (stp (s1 _ _ hp)) rfl ?_
    walk_at "rd"
    refine rd_iteT' hc.1 ?_
    walk_at "rd"
    rw [decide_eq_true hc.2]
    walk_at "rd"
    refine rd_din ?_
    walk_at "rd"
    refine ⟨d, _, rfl, .k (k := .inl wi.1) hd1, ?_⟩
    rw [hv]
    show asB _ (.bl false) _
    walk_at "rd"
    refine rd_dput ?_
    walk_at "rd"
    refine ⟨d, _, rfl, .k (k := .inl wi.1) hd1 (by rw [line]; simp [kvsOf]; omega), ?_⟩
    rw [putK_new _ hv]
    refine ⟨_, _, rfl, Same.upd s1 hd, ?_⟩
    rw [upd_same, take_snoc hwi]
    simp [kvsOf]
  · rintro σ H' ⟨x0, y0, rfl, s1, hd1⟩
    rw [hxl, List.take_length] at hd1
    walk_at "rd"
    refine rd_dc ?_
    walk_at "rd"
    refine ⟨d, kvsOf ws, ws.map (·.1), rfl, .inl hd1, by simp [kvsOf], by simp; omega, fun ys p hperm hsort hp => ?_⟩
    refine ⟨_, rfl, ⟨_, sl (upd_same ..)⟩, fun D hD => ?_⟩
    have s2 : Same H' (upd H' p (.lst (ys.map V.int))) := Same.new hp
    have hp2 : (upd H' p (.lst (ys.map V.int))) p = some (.lst (iv ys)) := upd_same ..
    generalize upd H' p (.lst (ys.map V.int)) = H2 at *
    have yn : ys.Nodup := hperm.nodup_iff.mpr ok.d
    refine dc_list (xs := iv ys) (fun i H3 => Same H2 H3 ∧ ∃ kvs : List (Key × V), H3 D = some (.dK kvs) ∧ kvs.map (·.1) = (ys.take i).map Sum.inl) ⟨Same.new hD, [], upd_same .., rfl⟩ (fun i H3 _ ⟨s3, _⟩ => sl (s3 _ _ hp2)) (fun i x H3 hx ⟨s3, kvs, k1, k2⟩ => ?_) fun H3 ⟨s3, kvs, k1, k2⟩ => ?_
    · obtain ⟨c, hc, rfl⟩ := F2.getI hx
      have hcm : c ∈ ws.map (·.1) := (hperm.mem_iff).mp (List.mem_of_getElem? hc)
      obtain ⟨v, hv⟩ := valV_mem hcm
      have hcn : c ∉ ys.take i := fun z => by
        obtain ⟨j, hj⟩ := List.mem_iff_getElem?.mp z
        have hji : j < i := by
          have := (List.getElem?_eq_some_iff.mp hj).1
          simp at this; omega
        rw [List.getElem?_take_of_lt hji] at hj
        have := (List.getElem?_inj (List.getElem?_eq_some_iff.mp hj).1 yn).mp (hj.trans hc.symm)
        omega
      walk_at "rd"
      refine ⟨rfl, ?_⟩
      walk_at "rd"
      have hd3 := s3 _ _ (s2 _ _ hd1)
      refine rd_dget ?_
      walk_at "rd"
      refine ⟨d, v, rfl, by rw [← hv]; exact .k (k := .inl c) hd3, ?_⟩
      refine ⟨kvs, .inl c, rfl, k1, ?_, Same.upd s3 hD, _, upd_same .., ?_⟩
      · rw [line]
        have e9 : kvs.length = (ys.take i).length := by
          have := congrArg List.length k2
          simpa using this
        have e8 := hperm.length_eq
        simp at e8 e9
        omega
      · rw [putK_new _ (kvs_none k2 hcn), take_snoc hc, List.map_append, List.map_append, k2]
        rfl
    · have e0 : (iv ys).length = ys.length := by simp
      rw [e0, List.take_length] at k2
      walk_at "rd"
      exact h D H3 kvs ys ((s1.trans s2).trans s3) ((s1.trans s2).free hD) k1 k2 hperm
end
end LK
set_option maxHeartbeats 4000000
namespace LK
open PySem PySem.Spec PyProof.Rows L2
local macro_rules | `(tactic| walk_at "rd") => `(tactic| (repeat (first
  | with_reducible refine rd_seq ?_
  | with_reducible refine rd_asg ?_
  | with_reducible refine rd_ret ?_
  | with_reducible refine rd_drop ?_
  | with_reducible refine rd_if ?_
  | with_reducible refine rd_next ?_
  | ((with_reducible apply rd_var); (· exact rfl))
  | with_reducible refine rd_c ?_
  | with_reducible refine rd_op ?_
  | with_reducible refine rd_un ?_
  | with_reducible refine rd_I0 ?_
  | with_reducible refine rd_U ?_
  | with_reducible refine rd_eq ?_
  | with_reducible refine rd_ne ?_
  | with_reducible refine rd_neB ?_
  | with_reducible refine rd_asB ?_
  | with_reducible refine rd_test ?_
  | with_reducible refine rd_tB ?_
  | with_reducible refine rd_not ?_
  | with_reducible refine rd_and ?_
  | with_reducible refine rd_or ?_
  | with_reducible refine rd_andV ?_
  | with_reducible refine rd_orV ?_
  | with_reducible refine rd_notV ?_
  | with_reducible refine rd_ifx ?_
  | with_reducible refine rd_chain ?_
  | with_reducible refine rd_nil ?_
  | with_reducible refine rd_cons ?_
  | with_reducible refine rd_call ?_
  | with_reducible refine rd_cb ?_
  | with_reducible refine rd_lst ?_
  | with_reducible refine rd_tup ?_
  | with_reducible refine rd_min ?_
  | with_reducible refine rd_max ?_
  | with_reducible refine rd_abs ?_
  | with_reducible refine rd_int ?_
  | with_reducible refine rd_bm ?_
  | with_reducible refine rd_nt ?_
  | with_reducible refine rd_nf ?_
  | with_reducible refine rd_rg3 ?_
  | with_reducible refine rd_gnil ?_
  | with_reducible refine rd_gcons ?_
  | with_reducible refine rd_yes ?_
  | with_reducible refine rd_tt ?_
  | with_reducible refine rd_ff ?_
  | with_reducible refine rd_fld ?_
  | with_reducible refine rd_meth ?_
  | with_reducible refine rd_rev ?_
  | with_reducible refine rd_callN ?_
  | with_reducible refine rd_rg1 ?_
  | with_reducible refine rd_rg2 ?_
  | with_reducible refine rd_nm ?_
  | with_reducible refine rd_lc ?_
  | with_reducible refine rd_iL' ?_
  | with_reducible refine rd_iT' ?_)))
local macro_rules | `(tactic| walk_at "hp") => `(tactic| (first
  | assumption
  | exact upd_same ..
  | (refine keep_upd (by assumption) ?_; walk_at "hp")
  | (refine same_app (by assumption) ?_; walk_at "hp")))


section
variable {P : Program} {w : World} {K : PySem.W.Frag} {mg : Str → Option Value} {base : Heap}
/-- patch o writes the cell c -/
def WrP (M : Mod) (N : Nat) (o c : Int) : Prop := (1 ≤ o ∧ o ≤ N) ∧ ∃ w ∈ wrA M o, w.1 = c
def HitB (M : Mod) (N : Nat) (ks : List Int) (Pn Pd : Int → Prop) (o : Int) : Prop := (Pd o ∨ ∃ c ∈ ks, WrP M N o c ∧ ¬ Pn o) ∨ ∃ j : Int, ((1 ≤ j ∧ j ≤ N) ∧ Pn j) ∧ (o ∈ brA M j ∧ o ≤ N)
def spNewBars (K : PySem.W.Frag) : Sp := fun vs H Q _ => ∃ (B : BA) (M : Mod) (N : Nat) (d : Addr) (kvs : List (Key × V)) (ks : List Int) (m1 m2 : Int) (Pn Pd : Int → Prop), vs = [.ref B.b, .ref d, .int m1, .int m2] ∧ BR K H B M N ∧ N ≤ 20 ∧ H d = some (.dK kvs) ∧ kvs.map (·.1) = ks.map Sum.inl ∧ (∀ c ∈ ks, 0 ≤ c ∧ c < 3) ∧
  Bits m1 Pn ∧ Bits m2 Pd ∧ (∀ o j : Int, 1 ≤ o ∧ o ≤ N → j ∈ ndA M o → 0 ≤ j) ∧ ∀ H' m, Same H H' → Bits m (fun o => HitB M N ks Pn Pd o ∨ ((1 ≤ o ∧ o ≤ N) ∧ ∃ j ∈ ndA M o, HitB M N ks Pn Pd j)) → Q (.int m) H'
theorem it_keys {td : TE} {σ : L2.St} {H : Hp} {R : It → Hp → Prop} (h : td σ H fun x H1 => ∃ d o, x = .ref d ∧ ((∃ kvs, H1 d = some (.frz o (.dK kvs)) ∧ R (Itk d o kvs) H1) ∨ ∃ kvs, H1 d = some (.frz o (.dT kvs)) ∧ R (Itkt d o kvs) H1)) : iKeys td σ H R := h
theorem key_at {kvs : List (Key × V)} {ks : List Int} {i : Nat} {k : Key} {v : V} (h : kvs.map (·.1) = ks.map Sum.inl) (e : kvs[i]? = some (k, v)) : ∃ c, ks[i]? = some c ∧ k = .inl c := by
  have : (kvs.map (·.1))[i]? = some k := by rw [List.getElem?_map, e]; rfl
  rw [h, List.getElem?_map] at this
  cases q : ks[i]? with
  | none => rw [q] at this; cases this
  | some c => rw [q] at this; exact ⟨c, rfl, (Option.some.inj this).symm⟩
theorem c_Book_new_bars (T : Txt P K mg) : Mt P w K mg base 2 (BK K) "_new_bars" (spNewBars K) := by
  have S : FnScope ["self", "values", "needs", "direct", "hit", "cell", "other", "bars"] ["self", "values", "needs", "direct"] (defScope (inClass (top 20) 2)) := ⟨rfl, rfl, rfl, by decide +kernel, rfl, by decide +kernel, by decide +kernel⟩
  refine T.m_new_bars.mt S (fun _ _ _ _ _ _ us hl => match us, hl with | [_, _, _, _], _ => rfl) (fun vs H Q E ⟨_, _, _, _, _, _, _, _, _, _, e, _⟩ => by rw [e]; rfl) fun f cdv A0 outer s H vs Q E hr ⟨B, M, N, d, kvs, ks, m1, m2, Pn, Pd, e, br, hN, hd, hk, hkc, b1, b2, hnn, h⟩ => ?_
  subst e
  refine ⟨_, (pss_cons (ps_set (i := 4) S.nd rfl (Or.inl rfl) (pv 3))
      (pss_cons (ps_lock (ps_for PassesOwn.never rfl (pi_keys (pv 1)) (pg_name (i := 5) S.nd rfl (Or.inl rfl)) (pss_one (ps_set (i := 4) S.nd rfl (Or.inl rfl) (pe_op op_or (pv 4) (pe_op op_and (pe_ix (ix_ltK (K := K) rfl) (pe_fldK (K := K) rfl (pv 0) rfl) (pv 5) (fun _ _ => rfl)) (pe_un un_inv (pv 2))))))))
      (pss_cons (ps_for PassesOwn.never rfl (pi_tupK (K := K) rfl (pe_m (pv 0) T.cl (c_Book_members T) hr (by decide) (pa_cons (pv 2) pa_nil))) (pg_name (i := 6) S.nd rfl (Or.inl rfl)) (pss_one (ps_set (i := 4) S.nd rfl (Or.inl rfl) (pe_op op_or (pv 4) (pe_ix (ix_ltK (K := K) rfl) (pe_fldK (K := K) rfl (pv 0) rfl) (pv 6) (fun _ _ => rfl))))))
      (pss_cons (ps_set (i := 7) S.nd rfl (Or.inl rfl) (pv 4))
      (pss_cons (ps_for PassesOwn.never rfl (pi_listK (K := K) rfl (pe_fldK (K := K) rfl (pv 0) rfl)) (pg_name (i := 6) S.nd rfl (Or.inl rfl)) (pss_one (ps_if (pt_cmpR op_ne (pe_op op_and (pe_ix (ix_ltK (K := K) rfl) (pe_fldK (K := K) rfl (pv 0) rfl) (pv 6) (fun _ _ => rfl)) (pv 4)) pe_int (nomark _)) (pss_one (ps_set (i := 7) S.nd rfl (Or.inl rfl) (pe_op op_or (pv 7) (pe_op op_shl pe_int (pv 6))))) pss_nil)))
      (pss_one (ps_ret (pv 7)))))))), ?_⟩
  obtain ⟨ms3, m3, l3, b3⟩ := br.h3
  obtain ⟨ms4, m4, l4, b4⟩ := br.h4
  obtain ⟨ms5, m5, l5, b5⟩ := br.h5
  have hkl : kvs.length = ks.length := by
    have := congrArg List.length hk
    simpa using this
  walk_at "rd"
  refine rd_lock hd fun od => ?_
  have nb : B.b ≠ d := fun z => by have := br.b; rw [z, hd] at this; cases this
  have n5 : B.n5 ≠ d := fun z => by rw [z, hd] at m5; cases m5
  have hfz : (upd H d (.frz od (.dK kvs))) d = some (.frz od (.dK kvs)) := upd_same ..
  have hbz : (upd H d (.frz od (.dK kvs))) B.b = some (.ins (BK K) B.dx (bfs B)) := upd_other nb br.b
  have h5z : (upd H d (.frz od (.dK kvs))) B.n5 = some (.lst (iv ms5)) := upd_other n5 m5
  have hback : upd (upd H d (.frz od (.dK kvs))) d (.dK kvs) = H := upd_back hd
  generalize upd H d (.frz od (.dK kvs)) = Hz at *
  refine rd_for ?_
  refine it_keys ?_
  walk_at "rd"
  refine ⟨d, od, rfl, .inl ⟨kvs, hfz, ?_⟩⟩
  refine for_it walk_keys (fun i σ H' => ∃ (hit : Int) (x : Option V), σ = [some (.ref B.b), some (.ref d), some (.int m1), some (.int m2), some (.int hit), x, none, none] ∧ H' = Hz ∧ Bits hit (fun o => Pd o ∨ ∃ c ∈ ks.take i, WrP M N o c ∧ ¬ Pn o)) ⟨m2, _, rfl, rfl, b2.congr fun o _ => by simp⟩ (fun i σ H' _ ⟨_, _, _, e, _⟩ => by rw [e]; exact hfz) ?_ ?_
  · rintro i x σ H1 H' hi ⟨hit, x0, rfl, rfl, bh⟩ ⟨rfl, k, v, ek, rfl⟩
    obtain ⟨c, hc, rfl⟩ := key_at hk ek
    have c3 := hkc c (List.mem_of_getElem? hc)
    have e5 : ms5[c.toNat]? = some (ms5.getD c.toNat 0) := getD_at (by rw [l5]; omega)
    have B5 := b5 c c3.1 c3.2
    generalize ms5.getD c.toNat 0 = k5 at e5 B5
    show (gName 5 (.int c)) _ _ _
    walk_at "rd"
    refine fl_n5 T hbz ?_
    walk_at "rd"
    refine rd_iL (sl h5z) (atI_nn c3.1 (by rw [List.getElem?_map, e5]; rfl)) ?_
    walk_at "rd"
    refine ⟨_, _, rfl, rfl, (bh.or (B5.less b1)).congr fun o _ => ?_⟩
    rw [take_snoc hc]
    constructor
    · rintro ((z | ⟨c', hc', z⟩) | z)
      · exact .inl z
      · exact .inr ⟨c', by simp [hc'], z⟩
      · exact .inr ⟨c, by simp, z⟩
    · rintro (z | ⟨c', hc', z⟩)
      · exact .inl (.inl z)
      · rcases List.mem_append.mp hc' with y | y
        · exact .inl (.inr ⟨c', y, z⟩)
        · rw [List.mem_singleton.mp y] at z
          exact .inr z
  · rintro σ H' ⟨hit, x0, rfl, rfl, bh⟩
    rw [hkl, List.take_length] at bh
    refine ⟨hfz, ?_⟩
    rw [hback]
    walk_at "rd"
    refine rd_for ?_
    walk_at "rd"
    refine ⟨_, _, _, rfl, br.b, rfl, ?_⟩
    walk_at "rd"
    refine ⟨B, N, m1, Pn, rfl, ⟨br.b, br.h0⟩, by omega, b1, fun a xs H1 s1 ha0 ha hxs hnd hlen => ?_⟩
    refine ⟨_, rfl, ⟨_, stp ha⟩, ?_⟩
    have br1 := br.mono s1
    refine for_tup (xs := iv xs) (fun i σ H' => ∃ (hit : Int) (x y : Option V), σ = [some (.ref B.b), some (.ref d), some (.int m1), some (.int m2), some (.int hit), x, y, none] ∧ H' = H1 ∧ Bits hit (fun o => (Pd o ∨ ∃ c ∈ ks, WrP M N o c ∧ ¬ Pn o) ∨ ∃ j ∈ xs.take i, o ∈ brA M j ∧ o ≤ N)) ⟨hit, _, _, rfl, rfl, bh.congr fun o _ => by simp⟩ (fun i σ H' _ ⟨_, _, _, _, e, _⟩ => e ▸ stp ha) ?_ ?_
    · rintro i x σ H' hx ⟨hit, x0, y0, rfl, rfl, bh⟩
      obtain ⟨o, ho, rfl⟩ := F2.getI hx
      have o1 := ((hxs o).mp (List.mem_of_getElem? ho)).1
      have e4 : ms4[o.toNat]? = some (ms4.getD o.toNat 0) := getD_at (by rw [l4]; omega)
      have B4 := b4 o o1.1 o1.2
      generalize ms4.getD o.toNat 0 = k4 at e4 B4
      walk_at "rd"
      refine fl_n4 T br1.b ?_
      walk_at "rd"
      refine rd_iL (sl (s1 _ _ m4)) (atI_nn (by omega) (by rw [List.getElem?_map, e4]; rfl)) ?_
      walk_at "rd"
      refine ⟨_, _, _, rfl, rfl, (bh.or B4).congr fun q _ => ?_⟩
      rw [take_snoc ho]
      constructor
      · rintro ((z | ⟨c', hc', z⟩) | z)
        · exact .inl z
        · exact .inr ⟨c', by simp [hc'], z⟩
        · exact .inr ⟨o, by simp, z⟩
      · rintro (z | ⟨c', hc', z⟩)
        · exact .inl (.inl z)
        · rcases List.mem_append.mp hc' with y | y
          · exact .inl (.inr ⟨c', y, z⟩)
          · rw [List.mem_singleton.mp y] at z
            exact .inr z
    · rintro σ H' ⟨hit, x0, y0, rfl, rfl, bh⟩
      have e0 : (iv xs).length = xs.length := by simp
      rw [e0, List.take_length] at bh
      have bh2 : Bits hit (HitB M N ks Pn Pd) := bh.congr fun o _ => by
        unfold HitB
        constructor
        · rintro (z | ⟨j, hj, z⟩)
          · exact .inl z
          · exact .inr ⟨j, (hxs j).mp hj, z⟩
        · rintro (z | ⟨j, hj, z⟩)
          · exact .inl z
          · exact .inr ⟨j, (hxs j).mpr hj, z⟩
      walk_at "rd"
      refine rd_for ?_
      walk_at "rd"
      refine fl_n0 T br1.b ?_
      refine ⟨_, rfl, ⟨_, sl br1.h0⟩, ?_⟩
      refine for_list (xs := iv (upto N)) (fun i σ H1 => ∃ (bars : Int) (x y : Option V), σ = [some (.ref B.b), some (.ref d), some (.int m1), some (.int m2), some (.int hit), x, y, some (.int bars)] ∧ H1 = H' ∧ Bits bars (fun o => HitB M N ks Pn Pd o ∨ (o ∈ (upto N).take i ∧ ∃ j ∈ ndA M o, 0 ≤ j ∧ HitB M N ks Pn Pd j))) ⟨hit, _, _, rfl, rfl, bh2.congr fun o _ => by simp⟩ (fun i σ H1 _ ⟨_, _, _, _, e, _⟩ => e ▸ sl br1.h0) ?_ ?_
      · rintro i x σ H2 hx ⟨bars, x1, y1, rfl, rfl, bb⟩
        obtain ⟨o, ho, rfl⟩ := F2.getI hx
        have o1 := mem_upto.mp (List.mem_of_getElem? ho)
        have e3 : ms3[o.toNat]? = some (ms3.getD o.toNat 0) := getD_at (by rw [l3]; omega)
        have B3 := b3 o o1.1 o1.2
        generalize ms3.getD o.toNat 0 = k3 at e3 B3
        walk_at "rd"
        refine fl_n3 T br1.b ?_
        walk_at "rd"
        refine rd_iL (sl (s1 _ _ m3)) (atI_nn (by omega) (by rw [List.getElem?_map, e3]; rfl)) ?_
        walk_at "rd"
        refine rd_iteN (fun c => ?_) fun c => ?_
        · obtain ⟨j, j0, j1, j2⟩ := ((B3.and bh2).ne0).mp c
          walk_at "rd"
          refine rd_shl (by omega) (by omega) ?_
          walk_at "rd"
          refine ⟨_, _, _, rfl, rfl, (bb.add (by omega)).congr fun q _ => ?_⟩
          rw [take_snoc ho]
          constructor
          · rintro ((z | ⟨z1, z2⟩) | z)
            · exact .inl z
            · exact .inr ⟨by simp [z1], z2⟩
            · subst z; exact .inr ⟨by simp, j, j1, j0, j2⟩
          · rintro (z | ⟨z1, z2⟩)
            · exact .inl (.inl z)
            · rcases List.mem_append.mp z1 with y | y
              · exact .inl (.inr ⟨y, z2⟩)
              · exact .inr (List.mem_singleton.mp y)
        · walk_at "rd"
          refine ⟨_, _, _, rfl, rfl, bb.congr fun q _ => ?_⟩
          rw [take_snoc ho]
          constructor
          · rintro (z | ⟨z1, z2⟩)
            · exact .inl z
            · exact .inr ⟨by simp [z1], z2⟩
          · rintro (z | ⟨z1, j, j1, j0, j2⟩)
            · exact .inl z
            · rcases List.mem_append.mp z1 with y | y
              · exact .inr ⟨y, j, j1, j0, j2⟩
              · rw [List.mem_singleton.mp y] at j1
                exact absurd c (((B3.and bh2).ne0).mpr ⟨j, j0, j1, j2⟩)
      · rintro σ H2 ⟨bars, x1, y1, rfl, rfl, bb⟩
        have e1 : (iv (upto N)).length = (upto N).length := by simp
        rw [e1, List.take_length] at bb
        walk_at "rd"
        refine h _ _ s1 (bb.congr fun o _ => ?_)
        rw [mem_upto]
        constructor
        · rintro (z | ⟨z1, j, j1, j0, j2⟩)
          · exact .inl z
          · exact .inr ⟨z1, j, j1, j2⟩
        · rintro (z | ⟨z1, j, j1, j2⟩)
          · exact .inl z
          · exact .inr ⟨z1, j, j1, hnn o j z1 j1, j2⟩
end
end LK
set_option maxHeartbeats 4000000
namespace LK
open PySem PySem.Spec PyProof.Rows L2
local macro_rules | `(tactic| walk_at "rd") => `(tactic| (repeat (first
  | with_reducible refine rd_seq ?_
  | with_reducible refine rd_asg ?_
  | with_reducible refine rd_ret ?_
  | with_reducible refine rd_drop ?_
  | with_reducible refine rd_if ?_
  | with_reducible refine rd_next ?_
  | ((with_reducible apply rd_var); (· exact rfl))
  | with_reducible refine rd_c ?_
  | with_reducible refine rd_op ?_
  | with_reducible refine rd_un ?_
  | with_reducible refine rd_I0 ?_
  | with_reducible refine rd_U ?_
  | with_reducible refine rd_eq ?_
  | with_reducible refine rd_ne ?_
  | with_reducible refine rd_neB ?_
  | with_reducible refine rd_asB ?_
  | with_reducible refine rd_test ?_
  | with_reducible refine rd_tB ?_
  | with_reducible refine rd_not ?_
  | with_reducible refine rd_and ?_
  | with_reducible refine rd_or ?_
  | with_reducible refine rd_andV ?_
  | with_reducible refine rd_orV ?_
  | with_reducible refine rd_notV ?_
  | with_reducible refine rd_ifx ?_
  | with_reducible refine rd_chain ?_
  | with_reducible refine rd_nil ?_
  | with_reducible refine rd_cons ?_
  | with_reducible refine rd_call ?_
  | with_reducible refine rd_cb ?_
  | with_reducible refine rd_lst ?_
  | with_reducible refine rd_tup ?_
  | with_reducible refine rd_min ?_
  | with_reducible refine rd_max ?_
  | with_reducible refine rd_abs ?_
  | with_reducible refine rd_int ?_
  | with_reducible refine rd_bm ?_
  | with_reducible refine rd_nt ?_
  | with_reducible refine rd_nf ?_
  | with_reducible refine rd_rg3 ?_
  | with_reducible refine rd_gnil ?_
  | with_reducible refine rd_gcons ?_
  | with_reducible refine rd_yes ?_
  | with_reducible refine rd_tt ?_
  | with_reducible refine rd_ff ?_
  | with_reducible refine rd_fld ?_
  | with_reducible refine rd_meth ?_
  | with_reducible refine rd_rev ?_
  | with_reducible refine rd_callN ?_
  | with_reducible refine rd_rg1 ?_
  | with_reducible refine rd_rg2 ?_
  | with_reducible refine rd_nm ?_
  | with_reducible refine rd_lc ?_
  | with_reducible refine rd_iL' ?_
  | with_reducible refine rd_iT' ?_)))
local macro_rules | `(tactic| walk_at "hp") => `(tactic| (first
  | assumption
  | exact upd_same ..
  | (refine keep_upd (by assumption) ?_; walk_at "hp")
  | (refine same_app (by assumption) ?_; walk_at "hp")))


structure BT (K : PySem.W.Frag) (H : Hp) (B : BA) (l0 l1 l2 l3 l4 l5 : List V) : Prop where
  b : H B.b = some (.ins (BK K) B.dx (bfs B))
  h0 : H B.n0 = some (.lst l0)
  h1 : H B.n1 = some (.lst l1)
  h2 : H B.n2 = some (.lst l2)
  h3 : H B.n3 = some (.lst l3)
  h4 : H B.n4 = some (.lst l4)
  h5 : H B.n5 = some (.lst l5)
structure BD (B : BA) : Prop where
  n0 : B.n0 ≠ B.n1 ∧ B.n0 ≠ B.n2 ∧ B.n0 ≠ B.n3 ∧ B.n0 ≠ B.n4 ∧ B.n0 ≠ B.n5
  n1 : B.n1 ≠ B.n2 ∧ B.n1 ≠ B.n3 ∧ B.n1 ≠ B.n4 ∧ B.n1 ≠ B.n5
  n2 : B.n2 ≠ B.n3 ∧ B.n2 ≠ B.n4 ∧ B.n2 ≠ B.n5
  n3 : B.n3 ≠ B.n4 ∧ B.n3 ≠ B.n5
  n4 : B.n4 ≠ B.n5
theorem bd_of {B : BA} (h : (bmt B).Nodup) : BD B := by
  unfold bmt at h
  simp only [List.nodup_cons, List.mem_cons, List.not_mem_nil, or_false, not_or, List.nodup_nil, and_true, not_false_eq_true] at h
  obtain ⟨⟨a1, a2, a3, a4, a5⟩, ⟨b1, b2, b3, b4⟩, ⟨c1, c2, c3⟩, ⟨d1, d2⟩, e1⟩ := h
  exact ⟨⟨a1, a2, a3, a4, a5⟩, ⟨b1, b2, b3, b4⟩, ⟨c1, c2, c3⟩, ⟨d1, d2⟩, e1⟩
section
variable {K : PySem.W.Frag} {H : Hp} {B : BA} {l0 l1 l2 l3 l4 l5 l : List V}
theorem BT.nb (t : BT K H B l0 l1 l2 l3 l4 l5) {a : Addr} {xs : List V} (h : H a = some (.lst xs)) : B.b ≠ a := fun z => by
  have := t.b
  rw [z, h] at this; cases this
theorem BT.p0 (t : BT K H B l0 l1 l2 l3 l4 l5) (d : BD B) : BT K (upd H B.n0 (.lst l)) B l l1 l2 l3 l4 l5 := by
  obtain ⟨⟨a1, a2, a3, a4, a5⟩, ⟨b1, b2, b3, b4⟩, ⟨c1, c2, c3⟩, ⟨d1, d2⟩, e1⟩ := d
  exact ⟨upd_other (t.nb t.h0) t.b, upd_same .., upd_other (Ne.symm a1) t.h1, upd_other (Ne.symm a2) t.h2, upd_other (Ne.symm a3) t.h3, upd_other (Ne.symm a4) t.h4, upd_other (Ne.symm a5) t.h5⟩
theorem BT.p1 (t : BT K H B l0 l1 l2 l3 l4 l5) (d : BD B) : BT K (upd H B.n1 (.lst l)) B l0 l l2 l3 l4 l5 := by
  obtain ⟨⟨a1, a2, a3, a4, a5⟩, ⟨b1, b2, b3, b4⟩, ⟨c1, c2, c3⟩, ⟨d1, d2⟩, e1⟩ := d
  exact ⟨upd_other (t.nb t.h1) t.b, upd_other a1 t.h0, upd_same .., upd_other (Ne.symm b1) t.h2, upd_other (Ne.symm b2) t.h3, upd_other (Ne.symm b3) t.h4, upd_other (Ne.symm b4) t.h5⟩
theorem BT.p2 (t : BT K H B l0 l1 l2 l3 l4 l5) (d : BD B) : BT K (upd H B.n2 (.lst l)) B l0 l1 l l3 l4 l5 := by
  obtain ⟨⟨a1, a2, a3, a4, a5⟩, ⟨b1, b2, b3, b4⟩, ⟨c1, c2, c3⟩, ⟨d1, d2⟩, e1⟩ := d
  exact ⟨upd_other (t.nb t.h2) t.b, upd_other a2 t.h0, upd_other b1 t.h1, upd_same .., upd_other (Ne.symm c1) t.h3, upd_other (Ne.symm c2) t.h4, upd_other (Ne.symm c3) t.h5⟩
theorem BT.p3 (t : BT K H B l0 l1 l2 l3 l4 l5) (d : BD B) : BT K (upd H B.n3 (.lst l)) B l0 l1 l2 l l4 l5 := by
  obtain ⟨⟨a1, a2, a3, a4, a5⟩, ⟨b1, b2, b3, b4⟩, ⟨c1, c2, c3⟩, ⟨d1, d2⟩, e1⟩ := d
  exact ⟨upd_other (t.nb t.h3) t.b, upd_other a3 t.h0, upd_other b2 t.h1, upd_other c1 t.h2, upd_same .., upd_other (Ne.symm d1) t.h4, upd_other (Ne.symm d2) t.h5⟩
theorem BT.p4 (t : BT K H B l0 l1 l2 l3 l4 l5) (d : BD B) : BT K (upd H B.n4 (.lst l)) B l0 l1 l2 l3 l l5 := by
  obtain ⟨⟨a1, a2, a3, a4, a5⟩, ⟨b1, b2, b3, b4⟩, ⟨c1, c2, c3⟩, ⟨d1, d2⟩, e1⟩ := d
  exact ⟨upd_other (t.nb t.h4) t.b, upd_other a4 t.h0, upd_other b3 t.h1, upd_other c2 t.h2, upd_other d1 t.h3, upd_same .., upd_other (Ne.symm e1) t.h5⟩
theorem BT.p5 (t : BT K H B l0 l1 l2 l3 l4 l5) (d : BD B) : BT K (upd H B.n5 (.lst l)) B l0 l1 l2 l3 l4 l := by
  obtain ⟨⟨a1, a2, a3, a4, a5⟩, ⟨b1, b2, b3, b4⟩, ⟨c1, c2, c3⟩, ⟨d1, d2⟩, e1⟩ := d
  exact ⟨upd_other (t.nb t.h5) t.b, upd_other a5 t.h0, upd_other b4 t.h1, upd_other c3 t.h2, upd_other d2 t.h3, upd_other e1 t.h4, upd_same ..⟩
theorem BT.mono {H' : Hp} (t : BT K H B l0 l1 l2 l3 l4 l5) (s : Same H H') : BT K H' B l0 l1 l2 l3 l4 l5 := ⟨s _ _ t.b, s _ _ t.h0, s _ _ t.h1, s _ _ t.h2, s _ _ t.h3, s _ _ t.h4, s _ _ t.h5⟩
end
theorem Same.trans_upd {X : List Addr} {H H' : Hp} {a : Addr} {o : HO} (s : Same (rm X H) H') (h : a ∈ X) : Same (rm X H) (L2.upd H' a o) := fun b u e => by
  have hb : b ≠ a := fun z => by rw [z, rm_in h] at e; cases e
  rw [upd_ne hb]; exact s _ _ e
/-! what the book's bars say of a new patch -/
section
variable {M : Mod} {L N : Nat} {ks : List Int}
theorem shared_iff {p o : Int} (hk : ∀ c, c ∈ ks ↔ c ∈ (wrA M p).map (·.1)) : sharedF M (wrA M p) o = true ↔ ∃ c ∈ ks, ∃ w ∈ wrA M o, w.1 = c := by
  unfold sharedF
  rw [List.any_eq_true]
  constructor
  · rintro ⟨x, hx, hd⟩
    exact ⟨x.1, (hk _).mpr (of_decide_eq_true hd), x, hx, rfl⟩
  · rintro ⟨c, hc, x, hx, rfl⟩
    exact ⟨x, hx, decide_eq_true ((hk _).mp hc)⟩
theorem hit_iff (g : Good M L) (hN : N + 1 ≤ L) (hk : ∀ c, c ∈ ks ↔ c ∈ (wrA M (N + 1)).map (·.1)) (o : Int) : HitB M N ks (fun x => x ∈ ndA M (N + 1)) (fun x => x ∈ quA M (N + 1)) o ↔ (1 ≤ o ∧ o ≤ N) ∧ HitP M (N + 1) o := by
  have p1 : (1 : Int) ≤ N + 1 := by omega
  have p2 : ((N : Int) + 1) ≤ L := by omega
  unfold HitB HitP WrP
  rw [shared_iff hk]
  constructor
  · rintro ((z | ⟨c, hc, ⟨o1, w⟩, z⟩) | ⟨j, ⟨j1, j2⟩, j3, j4⟩)
    · have := g.qu _ p1 p2 o z
      exact ⟨by omega, .inl z⟩
    · exact ⟨o1, .inr (.inr ⟨⟨c, hc, w⟩, z⟩)⟩
    · have := g.brr j o j1.1 (by omega) j3
      exact ⟨by omega, .inr (.inl ⟨j, j2, j3⟩)⟩
  · rintro ⟨o1, z | ⟨j, j1, j2⟩ | ⟨⟨c, hc, w⟩, z⟩⟩
    · exact .inl (.inl z)
    · have := ((g.nd _ j p1 p2).mp j1).1
      exact .inr ⟨j, ⟨by omega, j1⟩, j2, by omega⟩
    · exact .inl (.inr ⟨c, hc, ⟨o1, w⟩, z⟩)
theorem bars_iff (g : Good M L) (hN : N + 1 ≤ L) (hk : ∀ c, c ∈ ks ↔ c ∈ (wrA M (N + 1)).map (·.1)) (o : Int) :
    (HitB M N ks (fun x => x ∈ ndA M (N + 1)) (fun x => x ∈ quA M (N + 1)) o ∨ ((1 ≤ o ∧ o ≤ N) ∧ ∃ j ∈ ndA M o, HitB M N ks (fun x => x ∈ ndA M (N + 1)) (fun x => x ∈ quA M (N + 1)) j)) ↔ (o ∈ brA M (N + 1) ∧ o ≤ N) := by
  have p1 : (1 : Int) ≤ N + 1 := by omega
  have p2 : ((N : Int) + 1) ≤ L := by omega
  rw [hit_iff g hN hk]
  constructor
  · rintro (⟨o1, z⟩ | ⟨o1, j, j1, j2⟩)
    · exact ⟨(g.brc _ o p1 p2 o1.1 (by omega)).mpr (.inl z), o1.2⟩
    · exact ⟨(g.brc _ o p1 p2 o1.1 (by omega)).mpr (.inr ⟨j, j1, ((hit_iff g hN hk j).mp j2).2⟩), o1.2⟩
  · rintro ⟨z, o2⟩
    have o1 := (g.brr _ o p1 p2 z).1
    rcases (g.brc _ o p1 p2 o1 (by omega)).mp z with y | ⟨j, j1, j2⟩
    · exact .inl ⟨⟨o1, o2⟩, y⟩
    · have := ((g.nd o j o1 (by omega)).mp j1).1
      exact .inr ⟨⟨o1, o2⟩, j, j1, (hit_iff g hN hk j).mpr ⟨by omega, j2⟩⟩
end
section
variable {P : Program} {w : World} {K : PySem.W.Frag} {mg : Str → Option Value} {base : Heap}
def spMake (K : PySem.W.Frag) : Sp := fun vs H Q _ => ∃ (B : BA) (M : Mod) (L N : Nat) (a : Addr) (u v : V) (sz : Int), vs = [.ref B.b, .ref a, u, v, .int sz] ∧ BR K H B M N ∧ Good M L ∧ N + 1 ≤ L ∧ LL Pr H (.ref a) (wrA M (N + 1)) ∧ IT H u (dmA M (N + 1)) ∧ IT H v (quA M (N + 1)) ∧ 0 ≤ sz ∧
  ∀ H', Same (rm (bmt B) H) H' → BR K H' B M (N + 1) → Q (.int (N + 1)) H'
theorem c_Book_make_patch_kw (T : Txt P K mg) : MtK P w K mg base 3 (BK K) "make_patch" 1 ["requires", "conflicts", "size"] (fun vs zs => vs ++ zs) (spMake K) := by
  have S : FnScope ["self", "writes", "requires", "conflicts", "size", "values", "other", "number", "needs", "bars", "cell", "first", "others"] ["self", "writes", "requires", "conflicts", "size"] (defScope (inClass (top 20) 1)) := ⟨rfl, rfl, rfl, by decide +kernel, rfl, by decide +kernel, by decide +kernel⟩
  refine T.m_make_patch.mtK S (by decide) (fun D doc pm an cdv ct us ws h1 h2 => by
    match us, h1, ws, h2 with | [_, _], _, [_, _, _], _ => rfl) (fun vs H Q E ⟨_, _, _, _, _, _, _, _, e, _⟩ => by rw [e]; rfl) fun f cdv A0 outer s H vs Q E hr ⟨B, M, L, N, a, u, v, sz, e, br, g, hN, hw, ⟨ru, eu, hru⟩, ⟨rv, ev, hrv⟩, hsz, h⟩ => ?_
  subst e eu ev
  refine ⟨_, (pss_cons (ps_set (i := 5) S.nd rfl (Or.inl rfl) (pe_c (c_checked_writes T) hr (by decide) (by rfl) (pa_cons (pv 1) (pa_cons (pe_fldK (K := K) rfl (pv 0) rfl) pa_nil))))
      (pss_cons (ps_for PassesOwn.never rfl (pi_tupK (K := K) rfl (pv 2)) (pg_name (i := 6) S.nd rfl (Or.inl rfl)) (pss_one (ps_expr (pe_m (pv 0) T.cl (c_Book_check_number T) hr (by decide) (pa_cons (pv 6) pa_nil)))))
      (pss_cons (ps_for PassesOwn.never rfl (pi_tupK (K := K) rfl (pv 3)) (pg_name (i := 6) S.nd rfl (Or.inl rfl)) (pss_one (ps_expr (pe_m (pv 0) T.cl (c_Book_check_number T) hr (by decide) (pa_cons (pv 6) pa_nil)))))
      (pss_cons (ps_if (pt_cmpR op_lt (pv 4) pe_int (nomark _)) (pss_one ps_never) pss_nil)
      (pss_cons (ps_set (i := 7) S.nd rfl (Or.inl rfl) (pe_op op_add (pe_callB (k_lenK (K := K) rfl) (by rfl) T.b_len (by decide +kernel) (pa_cons (pe_fldK (K := K) rfl (pv 0) rfl) pa_nil)) pe_int))
      (pss_cons (ps_set (i := 8) S.nd rfl (Or.inl rfl) (pe_m (pv 0) T.cl (c_Book_mask_of T) hr (by decide) (pa_cons (pv 2) pa_nil)))
      (pss_cons (ps_for PassesOwn.never rfl (pi_tupK (K := K) rfl (pv 2)) (pg_name (i := 6) S.nd rfl (Or.inl rfl)) (pss_one (ps_set (i := 8) S.nd rfl (Or.inl rfl) (pe_op op_or (pv 8) (pe_ix (ix_ltK (K := K) rfl) (pe_fldK (K := K) rfl (pv 0) rfl) (pv 6) (fun _ _ => rfl))))))
      (pss_cons (ps_set (i := 9) S.nd rfl (Or.inl rfl) (pe_m (pv 0) T.cl (c_Book_new_bars T) hr (by decide) (pa_cons (pv 5) (pa_cons (pv 8) (pa_cons (pe_m (pv 0) T.cl (c_Book_mask_of T) hr (by decide) (pa_cons (pv 3) pa_nil)) pa_nil)))))
      (pss_cons (ps_if (pt_cmpR op_ne (pe_op op_and (pv 9) (pv 8)) pe_int (nomark _)) pss_never pss_nil)
      (pss_cons (ps_expr (pe_appK (K := K) rfl (pe_fldK (K := K) rfl (pv 0) rfl) (pa_cons (pv 7) pa_nil)))
      (pss_cons (ps_expr (pe_appK (K := K) rfl (pe_fldK (K := K) rfl (pv 0) rfl) (pa_cons (pv 5) pa_nil)))
      (pss_cons (ps_expr (pe_appK (K := K) rfl (pe_fldK (K := K) rfl (pv 0) rfl) (pa_cons (pe_ifExp (pt_cmpR op_gt (pv 4) pe_int (nomark _)) (pv 4) (pe_callB call_lenD (by rfl) T.b_len (by decide +kernel) (pa_cons (pv 5) pa_nil))) pa_nil)))
      (pss_cons (ps_expr (pe_appK (K := K) rfl (pe_fldK (K := K) rfl (pv 0) rfl) (pa_cons (pv 8) pa_nil)))
      (pss_cons (ps_expr (pe_appK (K := K) rfl (pe_fldK (K := K) rfl (pv 0) rfl) (pa_cons (pv 9) pa_nil)))
      (pss_cons (ps_for PassesOwn.never rfl (pi_tupK (K := K) rfl (pe_m (pv 0) T.cl (c_Book_members T) hr (by decide) (pa_cons (pv 9) pa_nil))) (pg_name (i := 6) S.nd rfl (Or.inl rfl)) (pss_one (ps_asg (pe_op op_or (pe_ix (ix_ltK (K := K) rfl) (pe_fldK (K := K) rfl (pv 0) rfl) (pv 6) (fun _ _ => rfl)) (pe_op op_shl pe_int (pv 7))) (pg_sub (pe_fldK (K := K) rfl (pv 0) rfl) (pv 6) set_list))))
      (pss_cons (ps_lock (ps_for PassesOwn.never rfl (pi_keys (pv 5)) (pg_name (i := 10) S.nd rfl (Or.inl rfl)) (pss_one (ps_asg (pe_op op_or (pe_ix (ix_ltK (K := K) rfl) (pe_fldK (K := K) rfl (pv 0) rfl) (pv 10) (fun _ _ => rfl)) (pe_op op_shl pe_int (pv 7))) (pg_sub (pe_fldK (K := K) rfl (pv 0) rfl) (pv 10) set_list)))))
      (pss_one (ps_ret (pv 7))))))))))))))))))), ?_⟩
  have p1 : (1 : Int) ≤ N + 1 := by omega
  have p2 : ((N : Int) + 1) ≤ L := by omega
  have hL := g.nN
  have okw := g.wr _ p1 p2
  have dmr := g.dm _ p1 p2
  have qur := g.qu _ p1 p2
  obtain ⟨ms3, m3, l3, b3⟩ := br.h3
  obtain ⟨ms4, m4, l4, b4⟩ := br.h4
  obtain ⟨ms5, m5, l5, b5⟩ := br.h5
  obtain ⟨x1, k1, j1⟩ := br.h1
  obtain ⟨x2, k2, j2⟩ := br.h2
  walk_at "rd"
  refine fl_cells T br.b ?_
  walk_at "rd"
  refine ⟨_, _, rfl, hw, okw, fun d H1 kvs ks s1 hd0 hd hk hperm => ?_⟩
  have br1 := br.mono s1
  have ksm : ∀ c, c ∈ ks ↔ c ∈ (wrA M (N + 1)).map (·.1) := fun c => hperm.mem_iff
  have hkl : kvs.length = ks.length := by
    have := congrArg List.length hk
    simpa using this
  have ks3 : ∀ c ∈ ks, 0 ≤ c ∧ c < 3 := fun c hc => by
    obtain ⟨w', hw', rfl⟩ := List.mem_map.mp ((ksm c).mp hc)
    exact okw.c w' hw'
  have hr1 := s1 _ _ hru
  have hv1 := s1 _ _ hrv
  walk_at "rd"
  refine rd_for ?_
  walk_at "rd"
  refine ⟨_, rfl, ⟨_, stp hr1⟩, ?_⟩
  refine for_tup (xs := iv (dmA M (N + 1))) (fun i σ H' => ∃ x : Option V, σ = [some (.ref B.b), some (.ref a), some (.ref ru), some (.ref rv), some (.int sz), some (.ref d), x, none, none, none, none, none, none] ∧ H' = H1) ⟨_, rfl, rfl⟩ (fun i σ H' _ ⟨_, _, e⟩ => e ▸ stp hr1) ?_ ?_
  · rintro i x σ H' hx ⟨x0, rfl, rfl⟩
    obtain ⟨o, ho, rfl⟩ := F2.getI hx
    have o1 := dmr o (List.mem_of_getElem? ho)
    walk_at "rd"
    refine ⟨_, _, _, rfl, br1.b, rfl, ?_⟩
    walk_at "rd"
    refine ⟨B, M, N, o, rfl, br1, by omega, by omega, ?_⟩
    walk_at "rd"
    exact ⟨_, rfl, rfl⟩
  rintro σ H' ⟨x0, rfl, rfl⟩
  walk_at "rd"
  refine rd_for ?_
  walk_at "rd"
  refine ⟨_, rfl, ⟨_, stp hv1⟩, ?_⟩
  refine for_tup (xs := iv (quA M (N + 1))) (fun i σ H1 => ∃ x : Option V, σ = [some (.ref B.b), some (.ref a), some (.ref ru), some (.ref rv), some (.int sz), some (.ref d), x, none, none, none, none, none, none] ∧ H1 = H') ⟨_, rfl, rfl⟩ (fun i σ H1 _ ⟨_, _, e⟩ => e ▸ stp hv1) ?_ ?_
  · rintro i x σ H1 hx ⟨x0, rfl, rfl⟩
    obtain ⟨o, ho, rfl⟩ := F2.getI hx
    have o1 := qur o (List.mem_of_getElem? ho)
    walk_at "rd"
    refine ⟨_, _, _, rfl, br1.b, rfl, ?_⟩
    walk_at "rd"
    refine ⟨B, M, N, o, rfl, br1, by omega, by omega, ?_⟩
    walk_at "rd"
    exact ⟨_, rfl, rfl⟩
  rintro σ H1 ⟨x0, rfl, rfl⟩
  have hU : ((iv (upto N)).length : Int) = N := by simp [upto]
  walk_at "rd"
  refine rd_iteF' (by omega) ?_
  walk_at "rd"
  refine fl_n0 T br1.b ?_
  walk_at "rd"
  refine rd_lenL (sl br1.h0) ?_
  walk_at "rd"
  rw [hU]
  refine ⟨_, _, _, rfl, br1.b, rfl, ?_⟩
  walk_at "rd"
  refine ⟨_, _, _, rfl, ⟨ru, rfl, hr1⟩, fun x hx => by have := dmr x hx; omega, fun m0 bm0 => ?_⟩
  walk_at "rd"
  refine rd_for ?_
  walk_at "rd"
  refine ⟨_, rfl, ⟨_, stp hr1⟩, ?_⟩
  refine for_tup (xs := iv (dmA M (N + 1))) (fun i σ H' => ∃ (m : Int) (x : Option V), σ = [some (.ref B.b), some (.ref a), some (.ref ru), some (.ref rv), some (.int sz), some (.ref d), x, some (.int (N + 1)), some (.int m), none, none, none, none] ∧ H' = H1 ∧ Bits m (fun o => o ∈ dmA M (N + 1) ∨ ∃ j ∈ (dmA M (N + 1)).take i, o ∈ ndA M j)) ⟨m0, _, rfl, rfl, bm0.congr fun o _ => by simp⟩ (fun i σ H' _ ⟨_, _, _, e, _⟩ => e ▸ stp hr1) ?_ ?_
  · rintro i x σ H' hx ⟨m, x1, rfl, rfl, bm⟩
    obtain ⟨o, ho, rfl⟩ := F2.getI hx
    have o1 := dmr o (List.mem_of_getElem? ho)
    have e3 : ms3[o.toNat]? = some (ms3.getD o.toNat 0) := getD_at (by rw [l3]; omega)
    have B3 := b3 o o1.1 (by omega)
    generalize ms3.getD o.toNat 0 = k3 at e3 B3
    walk_at "rd"
    refine fl_n3 T br1.b ?_
    walk_at "rd"
    refine rd_iL (sl (s1 _ _ m3)) (atI_nn (by omega) (by rw [List.getElem?_map, e3]; rfl)) ?_
    walk_at "rd"
    refine ⟨_, _, rfl, rfl, (bm.or B3).congr fun q _ => ?_⟩
    rw [take_snoc ho]
    constructor
    · rintro ((z | ⟨c', hc', z⟩) | z)
      · exact .inl z
      · exact .inr ⟨c', by simp [hc'], z⟩
      · exact .inr ⟨o, by simp, z⟩
    · rintro (z | ⟨c', hc', z⟩)
      · exact .inl (.inl z)
      · rcases List.mem_append.mp hc' with y | y
        · exact .inl (.inr ⟨c', y, z⟩)
        · rw [List.mem_singleton.mp y] at z
          exact .inr z
  rintro σ H' ⟨mn, x1', rfl, rfl, bm⟩
  have e0 : (iv (dmA M (N + 1))).length = (dmA M (N + 1)).length := by simp
  rw [e0, List.take_length] at bm
  have bn : Bits mn (fun o => o ∈ ndA M (N + 1)) := bm.congr fun o _ => by
    rw [g.nd _ o p1 p2]
    constructor
    · rintro (z | ⟨j, j1, z⟩)
      · have := dmr o z; exact ⟨by omega, .inl z⟩
      · have t := dmr j j1
        have := ((g.nd j o t.1 (by omega)).mp z).1
        exact ⟨by omega, .inr ⟨j, j1, z⟩⟩
    · exact fun z => z.2
  walk_at "rd"
  refine ⟨_, _, _, rfl, br1.b, rfl, ?_⟩
  walk_at "rd"
  refine ⟨_, _, _, rfl, br1.b, rfl, ?_⟩
  walk_at "rd"
  refine ⟨_, _, _, rfl, ⟨rv, rfl, hv1⟩, fun x hx => by have := qur x hx; omega, fun mq bq => ?_⟩
  walk_at "rd"
  refine ⟨B, M, N, d, kvs, ks, mn, mq, _, _, rfl, br1, by omega, hd, hk, ks3, bn, bq, fun o j o1 hj => by have := ((g.nd o j o1.1 (by omega)).mp hj).1; omega, fun H2 mb s2 bb => ?_⟩
  have bb : Bits mb (fun o => o ∈ brA M (N + 1) ∧ o ≤ N) := bb.congr fun o _ => bars_iff g hN ksm o
  have br2 := br1.mono s2
  have s12 := s1.trans s2
  have hd2 := s2 _ _ hd
  have dis0 : Builtin.bitAnd mb mn = 0 := Classical.byContradiction fun z => by
    obtain ⟨o, _, o1, o2⟩ := ((bb.and bn).ne0).mp z
    exact g.disj _ o p1 p2 o1.1 o2
  walk_at "rd"
  rw [dis0]
  refine rd_iteN (fun c => absurd rfl c) fun _ => ?_
  have bd := bd_of br.dis
  have t0 : BT K H2 B (iv (upto N)) x1 x2 (iv ms3) (iv ms4) (iv ms5) := ⟨br2.b, br2.h0, s12 _ _ k1, s12 _ _ k2, s12 _ _ m3, s12 _ _ m4, s12 _ _ m5⟩
  have dne : d ∉ bmt B := fun z => by
    unfold bmt at z
    simp only [List.mem_cons, List.not_mem_nil, or_false] at z
    rcases z with z | z | z | z | z | z <;> rw [z] at hd2
    · rw [t0.h0] at hd2; cases hd2
    · rw [t0.h1] at hd2; cases hd2
    · rw [t0.h2] at hd2; cases hd2
    · rw [t0.h3] at hd2; cases hd2
    · rw [t0.h4] at hd2; cases hd2
    · rw [t0.h5] at hd2; cases hd2
  have r0 : Same (rm (bmt B) H2) H2 := rm_same _ _
  walk_at "rd"
  refine fl_n0 T t0.b ?_
  refine rd_tyL t0.h0 ?_
  walk_at "rd"
  have t1 := t0.p0 bd (l := iv (upto N) ++ [.int (N + 1)])
  refine rd_push t0.h0 (by rw [List.length_map, upto_length]; omega) ?_
  have r1 := Same.trans_upd r0 (a := B.n0) (o := .lst (iv (upto N) ++ [.int (N + 1)])) (by unfold bmt; simp)
  generalize upd H2 B.n0 (.lst (iv (upto N) ++ [.int (N + 1)])) = H3 at *
  walk_at "rd"
  refine fl_n1 T t1.b ?_
  refine rd_tyL t1.h1 ?_
  walk_at "rd"
  have t2 := t1.p1 bd (l := x1 ++ [.ref d])
  refine rd_push t1.h1 (by omega) ?_
  have r2 := Same.trans_upd r1 (a := B.n1) (o := .lst (x1 ++ [.ref d])) (by unfold bmt; simp)
  generalize upd H3 B.n1 (.lst (x1 ++ [.ref d])) = H4 at *
  have hd4 : H4 d = some (.dK kvs) := r2 _ _ (by rw [rm_at dne]; exact hd2)
  walk_at "rd"
  refine fl_n2 T t2.b ?_
  refine rd_tyL t2.h2 ?_
  walk_at "rd"
  refine rd_ifxV (x := .int sz) (y := .int kvs.length) (fun Q q => by walk_at "rd"; exact q) (fun Q q => by walk_at "rd"; exact ⟨d, kvs, rfl, hd4, q⟩) ?_
  rw [iteV]
  generalize (if decide ((0 : Int) < sz) = true then sz else (kvs.length : Int)) = zz
  walk_at "rd"
  have t3 := t2.p2 bd (l := x2 ++ [.int zz])
  refine rd_push t2.h2 (by omega) ?_
  have r3 := Same.trans_upd r2 (a := B.n2) (o := .lst (x2 ++ [.int zz])) (by unfold bmt; simp)
  generalize upd H4 B.n2 (.lst (x2 ++ [.int zz])) = H5 at *
  walk_at "rd"
  refine fl_n3 T t3.b ?_
  refine rd_tyL t3.h3 ?_
  walk_at "rd"
  have t4 := t3.p3 bd (l := iv ms3 ++ [.int mn])
  refine rd_push t3.h3 (by rw [List.length_map]; omega) ?_
  have r4 := Same.trans_upd r3 (a := B.n3) (o := .lst (iv ms3 ++ [.int mn])) (by unfold bmt; simp)
  generalize upd H5 B.n3 (.lst (iv ms3 ++ [.int mn])) = H6 at *
  walk_at "rd"
  refine fl_n4 T t4.b ?_
  refine rd_tyL t4.h4 ?_
  walk_at "rd"
  have t5 := t4.p4 bd (l := iv ms4 ++ [.int mb])
  refine rd_push t4.h4 (by rw [List.length_map]; omega) ?_
  have r5 := Same.trans_upd r4 (a := B.n4) (o := .lst (iv ms4 ++ [.int mb])) (by unfold bmt; simp)
  generalize upd H6 B.n4 (.lst (iv ms4 ++ [.int mb])) = H7 at *
  have eU : iv (upto N) ++ [.int (N + 1)] = iv (upto (N + 1)) := by
    simp [upto, List.range_succ]
  rw [eU] at t5
  -- the bars told
  walk_at "rd"
  refine rd_for ?_
  walk_at "rd"
  refine ⟨_, _, _, rfl, t5.b, rfl, ?_⟩
  walk_at "rd"
  refine ⟨B, N + 1, mb, _, rfl, ⟨t5.b, t5.h0⟩, by omega, bb, fun ta xs H8 s8 hta0 hta hxs hnd hlen => ?_⟩
  have t8 := t5.mono s8
  have r8 : Same (rm (bmt B) H2) H8 := r5.trans s8
  have hxs : ∀ o, o ∈ xs ↔ (1 ≤ o ∧ o ≤ N) ∧ o ∈ brA M (N + 1) := fun o => by
    rw [hxs]
    constructor
    · rintro ⟨z1, z2, z3⟩; exact ⟨⟨z1.1, z3⟩, z2⟩
    · rintro ⟨z1, z2⟩; exact ⟨⟨z1.1, by omega⟩, z2, z1.2⟩
  have tane : ta ≠ B.n4 := fun z => by rw [z, t5.h4] at hta0; cases hta0
  refine ⟨_, rfl, ⟨_, stp hta⟩, ?_⟩
  refine for_tup (xs := iv xs) (fun i σ H' => ∃ (ms : List Int) (x : Option V), σ = [some (.ref B.b), some (.ref a), some (.ref ru), some (.ref rv), some (.int sz), some (.ref d), x, some (.int (N + 1)), some (.int mn), some (.int mb), none, none, none] ∧ BT K H' B (iv (upto (N + 1))) (x1 ++ [.ref d]) (x2 ++ [.int zz]) (iv ms3 ++ [.int mn]) (iv ms) (iv ms5) ∧ Same (rm (bmt B) H2) H' ∧ H' ta = some (.tup (iv xs)) ∧ ms.length = N + 2 ∧
      (∀ o : Int, 1 ≤ o → o ≤ N → Bits (ms.getD o.toNat 0) (fun q => (q ∈ brA M o ∧ q ≤ N) ∨ (q = N + 1 ∧ o ∈ xs.take i))) ∧ Bits (ms.getD (N + 1) 0) (fun q => q ∈ brA M (N + 1) ∧ q ≤ N))
    ⟨ms4 ++ [mb], _, rfl, by simpa using t8, r8, hta, by simp [l4], fun o o1 o2 => ?_, ?_⟩ (fun i σ H' _ ⟨_, _, _, _, _, e, _⟩ => stp e) ?_ ?_
  · rw [getD_app, if_neg (by omega)]
    exact (b4 o o1 o2).congr fun q _ => by simp
  · rw [getD_app, if_pos l4.symm]
    exact bb
  · rintro i x σ H' hx ⟨ms, x3, rfl, t9, r9, hta9, ml, mb1, mb2⟩
    obtain ⟨o, ho, rfl⟩ := F2.getI hx
    have o1 := ((hxs o).mp (List.mem_of_getElem? ho)).1
    have e4 : ms[o.toNat]? = some (ms.getD o.toNat 0) := getD_at (by omega)
    have B4 := mb1 o o1.1 o1.2
    generalize hk4 : ms.getD o.toNat 0 = k4 at e4 B4
    walk_at "rd"
    refine rd_asgG ?_
    walk_at "rd"
    refine fl_n4 T t9.b ?_
    walk_at "rd"
    refine rd_iL (sl t9.h4) (atI_nn (by omega) (by rw [List.getElem?_map, e4]; rfl)) ?_
    walk_at "rd"
    refine rd_shl (by omega) (by omega) ?_
    walk_at "rd"
    refine rd_gsub ?_
    walk_at "rd"
    refine fl_n4 T t9.b ?_
    walk_at "rd"
    refine rd_setL (j := o.toNat) t9.h4 (by omega) (by rw [List.length_map]; omega) ?_
    have es : (iv ms).set o.toNat (V.int (Builtin.bitOr k4 (2 ^ ((N : Int) + 1).toNat))) = iv (ms.set o.toNat (Builtin.bitOr k4 (2 ^ ((N : Int) + 1).toNat))) := by
      simp [List.map_set]
    rw [es]
    refine ⟨ms.set o.toNat (Builtin.bitOr k4 (2 ^ ((N : Int) + 1).toNat)), _, rfl, t9.p4 bd, Same.trans_upd r9 (by unfold bmt; simp), upd_other tane hta9, by rw [List.length_set]; exact ml, fun q q1 q2 => ?_, ?_⟩
    · rw [getD_set (by omega)]
      by_cases c : o.toNat = q.toNat
      · have : q = o := by omega
        subst this
        rw [if_pos rfl]
        refine (B4.add (by omega)).congr fun y _ => ?_
        rw [take_snoc ho]
        constructor
        · rintro ((z | z) | z)
          · exact .inl z
          · exact .inr ⟨z.1, by simp [z.2]⟩
          · exact .inr ⟨z, by simp⟩
        · rintro (z | z)
          · exact .inl (.inl z)
          · exact .inr z.1
      · rw [if_neg c]
        refine (mb1 q q1 q2).congr fun y _ => ?_
        rw [take_snoc ho]
        have : q ≠ o := fun z => c (by rw [z])
        simp [this]
    · rw [getD_set (by omega), if_neg (by omega)]
      exact mb2
  rintro σ H' ⟨ms, x3, rfl, t9, r9, hta9, ml, mb1, mb2⟩
  have e1 : (iv xs).length = xs.length := by simp
  rw [e1, List.take_length] at mb1
  have hd9 : H' d = some (.dK kvs) := r9 _ _ (by rw [rm_at dne]; exact hd2)
  -- the writers told
  walk_at "rd"
  refine rd_lock hd9 fun od => ?_
  have dn : ∀ {x}, x ∈ bmt B → x ≠ d := fun {x} hx z => dne (by rw [← z]; exact hx)
  have nbd : B.b ≠ d := fun z => by have := t9.b; rw [z, hd9] at this; cases this
  refine rd_for ?_
  refine it_keys ?_
  walk_at "rd"
  refine ⟨d, od, rfl, .inl ⟨kvs, upd_same .., ?_⟩⟩
  refine for_it walk_keys (fun i σ H3 => ∃ (ws5 : List Int) (x : Option V), σ = [some (.ref B.b), some (.ref a), some (.ref ru), some (.ref rv), some (.int sz), some (.ref d), x3, some (.int (N + 1)), some (.int mn), some (.int mb), x, none, none] ∧ H3 d = some (.frz od (.dK kvs)) ∧ BT K (upd H3 d (.dK kvs)) B (iv (upto (N + 1))) (x1 ++ [.ref d]) (x2 ++ [.int zz]) (iv ms3 ++ [.int mn]) (iv ms) (iv ws5) ∧ Same (rm (bmt B) H2) (upd H3 d (.dK kvs)) ∧ ws5.length = 3 ∧
      ∀ c : Int, 0 ≤ c → c < 3 → Bits (ws5.getD c.toNat 0) (fun q => ((1 ≤ q ∧ q ≤ N) ∧ ∃ w ∈ wrA M q, w.1 = c) ∨ (q = N + 1 ∧ c ∈ ks.take i)))
    ⟨ms5, _, rfl, upd_same .., by rw [upd_back hd9]; exact t9, by rw [upd_back hd9]; exact r9, l5, fun c c1 c2 => (b5 c c1 c2).congr fun q _ => by simp⟩ (fun i σ H3 _ ⟨_, _, _, e, _⟩ => e) ?_ ?_
  · rintro i x σ H3 H4 hi ⟨ws5, x4, rfl, hfz, t10, r10, wl, wb⟩ ⟨rfl, k, vv, ek, rfl⟩
    obtain ⟨c, hc, rfl⟩ := key_at hk ek
    have c3 := ks3 c (List.mem_of_getElem? hc)
    have e5 : ws5[c.toNat]? = some (ws5.getD c.toNat 0) := getD_at (by omega)
    have B5 := wb c c3.1 c3.2
    generalize hk5 : ws5.getD c.toNat 0 = k5 at e5 B5
    have hb4 : H4 B.b = some (.ins (BK K) B.dx (bfs B)) := by have := t10.b; rwa [upd_ne nbd] at this
    have h54 : H4 B.n5 = some (.lst (iv ws5)) := by have := t10.h5; rwa [upd_ne (dn (by unfold bmt; simp))] at this
    show (gName 10 (.int c)) _ _ _
    walk_at "rd"
    refine rd_asgG ?_
    walk_at "rd"
    refine fl_n5 T hb4 ?_
    walk_at "rd"
    refine rd_iL (sl h54) (atI_nn c3.1 (by rw [List.getElem?_map, e5]; rfl)) ?_
    walk_at "rd"
    refine rd_shl (by omega) (by omega) ?_
    walk_at "rd"
    refine rd_gsub ?_
    walk_at "rd"
    refine fl_n5 T hb4 ?_
    walk_at "rd"
    refine rd_setL (j := c.toNat) h54 (by omega) (by rw [List.length_map]; omega) ?_
    have es : (iv ws5).set c.toNat (V.int (Builtin.bitOr k5 (2 ^ ((N : Int) + 1).toNat))) = iv (ws5.set c.toNat (Builtin.bitOr k5 (2 ^ ((N : Int) + 1).toNat))) := by
      simp [List.map_set]
    rw [es]
    have n5d : B.n5 ≠ d := dn (by unfold bmt; simp)
    have swap : upd (upd H4 B.n5 (.lst (iv (ws5.set c.toNat (Builtin.bitOr k5 (2 ^ ((N : Int) + 1).toNat)))))) d (.dK kvs) = upd (upd H4 d (.dK kvs)) B.n5 (.lst (iv (ws5.set c.toNat (Builtin.bitOr k5 (2 ^ ((N : Int) + 1).toNat))))) := by
      funext y
      by_cases y1 : y = d
      · subst y1; rw [upd_same, upd_ne (Ne.symm n5d), upd_same]
      · rw [upd_ne y1]
        by_cases y2 : y = B.n5
        · subst y2; rw [upd_same, upd_same]
        · rw [upd_ne y2, upd_ne y2, upd_ne y1]
    refine ⟨ws5.set c.toNat (Builtin.bitOr k5 (2 ^ ((N : Int) + 1).toNat)), _, rfl, upd_other (Ne.symm n5d) hfz, by rw [swap]; exact t10.p5 bd, by rw [swap]; exact Same.trans_upd r10 (by unfold bmt; simp), by rw [List.length_set]; exact wl, fun q q1 q2 => ?_⟩
    rw [getD_set (by omega)]
    by_cases y : c.toNat = q.toNat
    · have : q = c := by omega
      subst this
      rw [if_pos rfl]
      refine (B5.add (by omega)).congr fun y _ => ?_
      rw [take_snoc hc]
      constructor
      · rintro ((z | z) | z)
        · exact .inl z
        · exact .inr ⟨z.1, by simp [z.2]⟩
        · exact .inr ⟨z, by simp⟩
      · rintro (z | z)
        · exact .inl (.inl z)
        · exact .inr z.1
    · rw [if_neg y]
      refine (wb q q1 q2).congr fun y' _ => ?_
      rw [take_snoc hc]
      have : q ≠ c := fun z => y (by rw [z])
      simp [this]
  · rintro σ H3 ⟨ws5, x4, rfl, hfz, t10, r10, wl, wb⟩
    refine ⟨hfz, ?_⟩
    rw [hkl, List.take_length] at wb
    generalize upd H3 d (.dK kvs) = HF at *
    walk_at "rd"
    have cast : ((N + 1 : Nat) : Int) = (N : Int) + 1 := by omega
    refine h HF (fun y o e => r10 y o ?_) ⟨t10.b, t10.h0, ⟨_, t10.h1, by simp [j1]⟩, ⟨_, t10.h2, by simp [j2]⟩, ⟨ms3 ++ [mn], by rw [t10.h3]; simp, by simp [l3], fun q q1 q2 => ?_⟩, ⟨ms, t10.h4, ml, fun q q1 q2 => ?_⟩, ⟨ws5, t10.h5, wl, fun c c1 c2 => ?_⟩, br.dis⟩
    · have hy : y ∉ bmt B := fun z => by rw [rm_in z] at e; cases e
      rw [rm_at hy] at e ⊢
      exact s12 _ _ e
    · rw [getD_app]
      by_cases z : q = N + 1
      · subst z; rw [if_pos (by omega)]; exact bn
      · rw [if_neg (by omega)]; exact b3 q q1 (by omega)
    · by_cases z : q = N + 1
      · subst z
        rw [show ((N : Int) + 1).toNat = N + 1 by omega]
        refine mb2.congr fun y _ => ?_
        constructor
        · rintro ⟨z1, z2⟩; exact ⟨z1, by omega⟩
        · rintro ⟨z1, z2⟩
          have := g.brr _ y p1 p2 z1
          exact ⟨z1, by omega⟩
      · refine (mb1 q q1 (by omega)).congr fun y _ => ?_
        rw [hxs]
        constructor
        · rintro (⟨z1, z2⟩ | ⟨z1, z2, z3⟩)
          · exact ⟨z1, by omega⟩
          · subst z1; exact ⟨(g.brs q _ q1 (by omega) p1 p2).mpr z3, by omega⟩
        · rintro ⟨z1, z2⟩
          by_cases y1 : y = N + 1
          · subst y1; exact .inr ⟨rfl, ⟨q1, by omega⟩, (g.brs q _ q1 (by omega) p1 p2).mp z1⟩
          · exact .inl ⟨z1, by omega⟩
    · refine (wb c c1 c2).congr fun y _ => ?_
      constructor
      · rintro (⟨z1, z2⟩ | ⟨z1, z2⟩)
        · exact ⟨⟨z1.1, by omega⟩, z2⟩
        · subst z1
          obtain ⟨w', hw', e'⟩ := List.mem_map.mp ((ksm c).mp z2)
          exact ⟨⟨by omega, by omega⟩, w', hw', e'⟩
      · rintro ⟨z1, w', hw', e'⟩
        by_cases y1 : y = N + 1
        · subst y1; exact .inr ⟨rfl, (ksm c).mpr (List.mem_map.mpr ⟨w', hw', e'⟩)⟩
        · exact .inl ⟨⟨z1.1, by omega⟩, w', hw', e'⟩
end
end LK
set_option maxHeartbeats 4000000
namespace LK
open PySem PySem.Spec PyProof.Rows L2
local macro_rules | `(tactic| walk_at "rd") => `(tactic| (repeat (first
  | with_reducible refine rd_seq ?_
  | with_reducible refine rd_asg ?_
  | with_reducible refine rd_ret ?_
  | with_reducible refine rd_drop ?_
  | with_reducible refine rd_if ?_
  | with_reducible refine rd_next ?_
  | ((with_reducible apply rd_var); (· exact rfl))
  | with_reducible refine rd_c ?_
  | with_reducible refine rd_op ?_
  | with_reducible refine rd_un ?_
  | with_reducible refine rd_I0 ?_
  | with_reducible refine rd_U ?_
  | with_reducible refine rd_eq ?_
  | with_reducible refine rd_ne ?_
  | with_reducible refine rd_neB ?_
  | with_reducible refine rd_asB ?_
  | with_reducible refine rd_test ?_
  | with_reducible refine rd_tB ?_
  | with_reducible refine rd_not ?_
  | with_reducible refine rd_and ?_
  | with_reducible refine rd_or ?_
  | with_reducible refine rd_andV ?_
  | with_reducible refine rd_orV ?_
  | with_reducible refine rd_notV ?_
  | with_reducible refine rd_ifx ?_
  | with_reducible refine rd_chain ?_
  | with_reducible refine rd_nil ?_
  | with_reducible refine rd_cons ?_
  | with_reducible refine rd_call ?_
  | with_reducible refine rd_cb ?_
  | with_reducible refine rd_lst ?_
  | with_reducible refine rd_tup ?_
  | with_reducible refine rd_min ?_
  | with_reducible refine rd_max ?_
  | with_reducible refine rd_abs ?_
  | with_reducible refine rd_int ?_
  | with_reducible refine rd_bm ?_
  | with_reducible refine rd_nt ?_
  | with_reducible refine rd_nf ?_
  | with_reducible refine rd_rg3 ?_
  | with_reducible refine rd_gnil ?_
  | with_reducible refine rd_gcons ?_
  | with_reducible refine rd_yes ?_
  | with_reducible refine rd_tt ?_
  | with_reducible refine rd_ff ?_
  | with_reducible refine rd_fld ?_
  | with_reducible refine rd_meth ?_
  | with_reducible refine rd_rev ?_
  | with_reducible refine rd_callN ?_
  | with_reducible refine rd_rg1 ?_
  | with_reducible refine rd_rg2 ?_
  | with_reducible refine rd_nm ?_
  | with_reducible refine rd_lc ?_
  | with_reducible refine rd_iL' ?_
  | with_reducible refine rd_iT' ?_)))
local macro_rules | `(tactic| walk_at "hp") => `(tactic| (first
  | assumption
  | exact upd_same ..
  | (refine keep_upd (by assumption) ?_; walk_at "hp")
  | (refine same_app (by assumption) ?_; walk_at "hp")))


theorem rd_sfld {K : PySem.W.Frag} {ta tv : TE} {f : Str} {N B C : L2.St → Hp → Prop} {R : VK} {σ : L2.St} {H : Hp} (h : tv σ H fun y H1 => ta σ H1 fun x H2 => ∃ a C dx fs, x = .ref a ∧ H2 a = some (.ins C dx fs) ∧ Cls K C ∧ NoAttr K C f ∧ fs.length < 1000 ∧ N σ (upd H2 a (.ins C dx (putF f y fs)))) : sFld K ta tv f ⟨N, R, B, C⟩ σ H := h
theorem rd_methK {C : Addr} {m : Str} {n l : Nat} {sp : Sp} {gV : List V → List V → List V} {ta : TE} {t tk : TA} {σ : L2.St} {H : Hp} {Q : VK} (h : ta σ H fun x H1 => ∃ (a dx : Addr) (fs : List (Str × V)), x = .ref a ∧ H1 a = some (.ins C dx fs) ∧ fs.lookup m = none ∧ t σ H1 fun vs H2 => tk σ H2 fun zs H3 => vs.length = n ∧ zs.length = l ∧ sp (gV (x :: vs) zs) H3 Q E0) : tMethK C m n l sp gV ta t tk σ H Q := h
theorem rd_make {C : Addr} {sp : Sp} {dvs : List V} {E : XK} {t : TA} {σ : L2.St} {H : Hp} {Q : VK} (h : t σ H fun vs H1 => ∀ x dx, H1 x = none → H1 dx = none → dx ≠ x → sp (.ref x :: (vs ++ dvs)) (upd (upd H1 dx (.own x)) x (.ins C dx [])) (fun v H2 => v = .non ∧ Q (.ref x) H2) E) : tMake C sp dvs E t σ H Q := h
theorem rd_repL {H : Hp} {Q : VK} {l : Addr} {k : Int} {xs : List V} (h : H l = some (.lst xs)) (h0 : 0 ≤ k) (h1 : xs.length * k.toNat ≤ 1000000) (hk : k < 1000000) (q : ∀ p, H p = none → Q (.ref p) (upd H p (.lst (List.replicate k.toNat xs).flatten))) : rRep (.ref l) (.int k) H Q := ⟨l, k, xs, rfl, rfl, h, by omega, by omega, ll (by omega), q⟩
theorem putF_lt {f : Str} {v : V} {n : Nat} : ∀ {fs : List (Str × V)}, fs.length < n → (putF f v fs).length < n + 1
  | [], h => by simp only [putF, List.length_singleton]; simp at h; omega
  | (g, x) :: r, h => by
    have ih := @putF_lt f v (n - 1) r
    simp only [List.length_cons] at h
    unfold putF
    split
    · simp only [List.length_cons]; omega
    · simp only [List.length_cons]
      have := ih (by omega)
      omega
theorem is_step {H Hk : Hp} {x C dx p : Addr} {fs fs' : List (Str × V)} {o : HO} (hx : Hk x = some (.ins C dx fs)) (s : Same (rm [x] H) Hk) (hp : Hk p = none) :
    ∃ H', upd (upd Hk p o) x (.ins C dx fs') = H' ∧ H' x = some (.ins C dx fs') ∧ Same (rm [x] H) H' ∧ H' p = some o ∧ (∀ b u, b ≠ x → Hk b = some u → H' b = some u) ∧ H p = none ∧ p ≠ x := by
  have px : p ≠ x := fun z => by rw [z, hx] at hp; cases hp
  refine ⟨_, rfl, upd_same .., fun b u e => ?_, by rw [upd_ne px, upd_same], fun b u hb e => by rw [upd_ne hb]; exact keep_upd hp e, ?_, px⟩
  · have hb : b ≠ x := fun z => by rw [z, rm_in (by simp)] at e; cases e
    rw [upd_ne hb]
    exact keep_upd hp (s _ _ e)
  · have := s.free hp
    rwa [rm_at (by simpa using px)] at this
section
variable {P : Program} {w : World} {K : PySem.W.Frag} {mg : Str → Option Value} {base : Heap}
def spInit (K : PySem.W.Frag) : Sp := fun vs H Q _ => ∃ (x dx a : Addr) (bs : List Int), vs = [.ref x, .ref a] ∧ H x = some (.ins (BK K) dx []) ∧ H a = some (.lst (iv bs)) ∧ bs.length = 3 ∧
  ∀ (H' : Hp) (B : BA) (M : Mod), B.b = x → Same (rm [x] H) H' → (∀ y ∈ bmt B, H y = none) → BR K H' B M 0 → Q .non H'
theorem c_Book_init (T : Txt P K mg) : Mt P w K mg base 1 (BK K) "__init__" (spInit K) := by
  have S : FnScope ["self", "base"] ["self", "base"] (defScope (inClass (top 20) 0)) := ⟨rfl, rfl, rfl, by decide +kernel, rfl, by decide +kernel, by decide +kernel⟩
  refine T.m_init.mt S (fun _ _ _ _ _ _ us hl => match us, hl with | [_, _], _ => rfl) (fun vs H Q E ⟨_, _, _, _, e, _⟩ => by rw [e]; rfl) fun f cdv A0 outer s H vs Q E hr ⟨x, dx, a, bs, e, hx, ha, hbl, h⟩ => ?_
  subst e
  refine ⟨_, (pss_cons (ps_if (pt_cmpR op_eq (pe_callB (k_lenK (K := K) rfl) (by rfl) T.b_len (by decide +kernel) (pa_cons (pv 1) pa_nil)) pe_int (nomark _)) (pss_one ps_never) pss_nil)
      (pss_cons (ps_fldK (K := K) rfl (pv 0) (pe_callB (k_lenK (K := K) rfl) (by rfl) T.b_len (by decide +kernel) (pa_cons (pv 1) pa_nil)) rfl)
      (pss_cons (ps_fldK (K := K) rfl (pv 0) (pe_callTy (k_listK (K := K) rfl) (by rfl) T.b_list (by decide +kernel) (pa_cons (pv 1) pa_nil)) rfl)
      (pss_cons (ps_fldK (K := K) rfl (pv 0) (pe_lst pa_nil) rfl)
      (pss_cons (ps_fldK (K := K) rfl (pv 0) (pe_lst (pa_cons pe_dnewK pa_nil)) rfl)
      (pss_cons (ps_fldK (K := K) rfl (pv 0) (pe_lst (pa_cons pe_int pa_nil)) rfl)
      (pss_cons (ps_fldK (K := K) rfl (pv 0) (pe_lst (pa_cons pe_int pa_nil)) rfl)
      (pss_cons (ps_fldK (K := K) rfl (pv 0) (pe_lst (pa_cons pe_int pa_nil)) rfl)
      (pss_one (ps_fldK (K := K) rfl (pv 0) (pe_op op_rep (pe_lst (pa_cons pe_int pa_nil)) (pe_fldK (K := K) rfl (pv 0) rfl)) rfl)))))))))), ?_⟩
  have e3 : ((iv bs).length : Int) = 3 := by simp [hbl]
  have nxa : x ≠ a := fun z => by rw [z, ha] at hx; cases hx
  walk_at "rd"
  refine rd_lenL (sl ha) ?_
  walk_at "rd"
  rw [e3]
  refine rd_iteF' (by omega) ?_
  walk_at "rd"
  refine rd_sfld ?_
  walk_at "rd"
  refine rd_lenL (sl ha) ?_
  walk_at "rd"
  rw [e3]
  refine ⟨x, _, dx, _, rfl, hx, T.cl, T.n_cells, by simp, ?_⟩
  have h1x : (upd H x (.ins (BK K) dx (putF "cells" (.int 3) []))) x = some (.ins (BK K) dx (putF "cells" (.int 3) [])) := upd_same ..
  have h1a : (upd H x (.ins (BK K) dx (putF "cells" (.int 3) []))) a = some (.lst (iv bs)) := upd_other (Ne.symm nxa) ha
  have s1 : Same (rm [x] H) (upd H x (.ins (BK K) dx (putF "cells" (.int 3) []))) := rm_upd (by simp)
  generalize upd H x (.ins (BK K) dx (putF "cells" (.int 3) [])) = H1 at *
  refine rd_sfld ?_
  walk_at "rd"
  refine rd_listL (sl h1a) fun ba hba => ?_
  walk_at "rd"
  refine ⟨x, _, dx, _, rfl, keep_upd hba h1x, T.cl, T.n_base, by (repeat (refine putF_lt ?_)); simp, ?_⟩
  obtain ⟨H2, e2, h2x, s2, hb2, k2, ba0, bax⟩ := is_step (o := .lst (iv bs)) (fs' := putF "_base" (.ref ba) (putF "cells" (.int 3) [])) h1x s1 hba
  rw [e2]
  refine rd_sfld ?_
  walk_at "rd"
  refine ⟨ll (by simp), fun n0 hn0 => ?_⟩
  walk_at "rd"
  refine ⟨x, _, dx, _, rfl, keep_upd hn0 h2x, T.cl, T.n_numbers, by (repeat (refine putF_lt ?_)); simp, ?_⟩
  obtain ⟨H3, e3', h3x, s3, q0, k3, z0, x0⟩ := is_step (o := .lst []) (fs' := putF "_numbers" (.ref n0) (putF "_base" (.ref ba) (putF "cells" (.int 3) []))) h2x s2 hn0
  rw [e3']
  refine rd_sfld ?_
  walk_at "rd"
  refine dnew fun d hd => ?_
  have hdx : d ≠ x := fun z => by rw [z, h3x] at hd; cases hd
  have sd : Same H3 (upd H3 d (.dK [])) := Same.new hd
  have h3x' := sd _ _ h3x
  have s3' : Same (rm [x] H) (upd H3 d (.dK [])) := s3.trans sd
  have q0' := sd _ _ q0
  generalize upd H3 d (.dK []) = H3' at *
  walk_at "rd"
  refine ⟨ll (by simp), fun n1 hn1 => ?_⟩
  walk_at "rd"
  refine ⟨x, _, dx, _, rfl, keep_upd hn1 h3x', T.cl, T.n_values, by (repeat (refine putF_lt ?_)); simp, ?_⟩
  obtain ⟨H4, e4, h4x, s4, q1, k4, z1, x1⟩ := is_step (o := .lst [.ref d]) (fs' := putF "_values" (.ref n1) (putF "_numbers" (.ref n0) (putF "_base" (.ref ba) (putF "cells" (.int 3) [])))) h3x' s3' hn1
  rw [e4]
  refine rd_sfld ?_
  walk_at "rd"
  refine ⟨ll (by simp), fun n2 hn2 => ?_⟩
  walk_at "rd"
  refine ⟨x, _, dx, _, rfl, keep_upd hn2 h4x, T.cl, T.n_sizes, by (repeat (refine putF_lt ?_)); simp, ?_⟩
  obtain ⟨H5, e5, h5x, s5, q2, k5, z2, x2⟩ := is_step (o := .lst [.int 0]) (fs' := putF "_sizes" (.ref n2) (putF "_values" (.ref n1) (putF "_numbers" (.ref n0) (putF "_base" (.ref ba) (putF "cells" (.int 3) []))))) h4x s4 hn2
  rw [e5]
  refine rd_sfld ?_
  walk_at "rd"
  refine ⟨ll (by simp), fun n3 hn3 => ?_⟩
  walk_at "rd"
  refine ⟨x, _, dx, _, rfl, keep_upd hn3 h5x, T.cl, T.n_needs, by (repeat (refine putF_lt ?_)); simp, ?_⟩
  obtain ⟨H6, e6, h6x, s6, q3, k6, z3, x3⟩ := is_step (o := .lst [.int 0]) (fs' := putF "_needs" (.ref n3) (putF "_sizes" (.ref n2) (putF "_values" (.ref n1) (putF "_numbers" (.ref n0) (putF "_base" (.ref ba) (putF "cells" (.int 3) [])))))) h5x s5 hn3
  rw [e6]
  refine rd_sfld ?_
  walk_at "rd"
  refine ⟨ll (by simp), fun n4 hn4 => ?_⟩
  walk_at "rd"
  refine ⟨x, _, dx, _, rfl, keep_upd hn4 h6x, T.cl, T.n_bars, by (repeat (refine putF_lt ?_)); simp, ?_⟩
  obtain ⟨H7, e7, h7x, s7, q4, k7, z4, x4⟩ := is_step (o := .lst [.int 0]) (fs' := putF "_bars" (.ref n4) (putF "_needs" (.ref n3) (putF "_sizes" (.ref n2) (putF "_values" (.ref n1) (putF "_numbers" (.ref n0) (putF "_base" (.ref ba) (putF "cells" (.int 3) []))))))) h6x s6 hn4
  rw [e7]
  refine rd_sfld ?_
  walk_at "rd"
  refine ⟨ll (by simp), fun n9 hn9 => ?_⟩
  have s9 : Same H7 (upd H7 n9 (.lst [.int 0])) := Same.new hn9
  have q9 : (upd H7 n9 (.lst [.int 0])) n9 = some (.lst [.int 0]) := upd_same ..
  have h9x := s9 _ _ h7x
  have r9 : Same (rm [x] H) (upd H7 n9 (.lst [.int 0])) := s7.trans s9
  have p4 := s9 _ _ q4
  have p3 := s9 _ _ (k7 _ _ x3 q3)
  have p2 := s9 _ _ (k7 _ _ x2 (k6 _ _ x2 q2))
  have p1 := s9 _ _ (k7 _ _ x1 (k6 _ _ x1 (k5 _ _ x1 q1)))
  have p0 := s9 _ _ (k7 _ _ x0 (k6 _ _ x0 (k5 _ _ x0 (k4 _ _ x0 q0'))))
  generalize upd H7 n9 (.lst [.int 0]) = H8 at *
  walk_at "rd"
  refine ⟨x, _, dx, _, .int 3, rfl, h9x, T.cl, T.n_cells, rfl, ?_⟩
  refine rd_repL q9 (by omega) (by decide) (by omega) fun n5 hn5 => ?_
  walk_at "rd"
  refine ⟨x, _, dx, _, rfl, keep_upd hn5 h9x, T.cl, T.n_writers, by (repeat (refine putF_lt ?_)); simp, ?_⟩
  obtain ⟨H9, e9, h10x, s10, q5, k9, z5, x5⟩ := is_step (o := .lst (List.replicate (3 : Int).toNat [V.int 0]).flatten) (fs' := putF "_writers" (.ref n5) (putF "_bars" (.ref n4) (putF "_needs" (.ref n3) (putF "_sizes" (.ref n2) (putF "_values" (.ref n1) (putF "_numbers" (.ref n0) (putF "_base" (.ref ba) (putF "cells" (.int 3) [])))))))) h9x r9 hn5
  rw [e9]
  have ne : ∀ {p q : Addr} {Hq : Hp} {o : HO}, Hq p = some o → Hq q = none → p ≠ q := fun {p q Hq o} h1 h2 z => by rw [z, h2] at h1; cases h1
  let B : BA := ⟨x, dx, ba, n0, n1, n2, n3, n4, n5⟩
  have c3 : ∀ c : Int, 0 ≤ c → c < 3 → ([0, 0, 0] : List Int).getD c.toNat 0 = 0 := fun c c0 c1 => by
    obtain ⟨k, rfl⟩ : ∃ k : Nat, c = k := ⟨c.toNat, by omega⟩
    rw [Int.toNat_natCast]
    match k, c1 with
    | 0, _ => rfl
    | 1, _ => rfl
    | 2, _ => rfl
    | k + 3, h => omega
  refine h H9 B ⟨[], [], [], [], [], [], []⟩ rfl s10 (fun y hy => ?_) ⟨h10x, k9 _ _ x0 p0, ⟨_, k9 _ _ x1 p1, rfl⟩, ⟨_, k9 _ _ x2 p2, rfl⟩, ⟨[0], k9 _ _ x3 p3, rfl, fun p a b => by omega⟩, ⟨[0], k9 _ _ x4 p4, rfl, fun p a b => by omega⟩, ⟨[0, 0, 0], q5, rfl, fun c a b => ?_⟩, ?_⟩
  · simp only [bmt, List.mem_cons, List.not_mem_nil, or_false] at hy
    rcases hy with e | e | e | e | e | e <;> rw [e]
    · exact z0
    · exact z1
    · exact z2
    · exact z3
    · exact z4
    · exact z5
  · rw [c3 c a b]
    exact Bits.zero.congr fun o _ => ⟨False.elim, fun ⟨z, _⟩ => by omega⟩
  · have m01 := ne q0' hn1
    have m02 := ne (k4 _ _ x0 q0') hn2
    have m03 := ne (k5 _ _ x0 (k4 _ _ x0 q0')) hn3
    have m04 := ne (k6 _ _ x0 (k5 _ _ x0 (k4 _ _ x0 q0'))) hn4
    have m05 := ne p0 hn5
    have m12 := ne q1 hn2
    have m13 := ne (k5 _ _ x1 q1) hn3
    have m14 := ne (k6 _ _ x1 (k5 _ _ x1 q1)) hn4
    have m15 := ne p1 hn5
    have m23 := ne q2 hn3
    have m24 := ne (k6 _ _ x2 q2) hn4
    have m25 := ne p2 hn5
    have m34 := ne q3 hn4
    have m35 := ne p3 hn5
    have m45 := ne p4 hn5
    show (bmt ⟨x, dx, ba, n0, n1, n2, n3, n4, n5⟩).Nodup
    unfold bmt
    simp only [List.nodup_cons, List.mem_cons, List.not_mem_nil, or_false, not_or, List.nodup_nil, and_true, not_false_eq_true]
    exact ⟨⟨m01, m02, m03, m04, m05⟩, ⟨m12, m13, m14, m15⟩, ⟨m23, m24, m25⟩, ⟨m34, m35⟩, m45⟩
theorem Mk.eq {K : PySem.W.Frag} {C f f' : Addr} (m : L2.Mk K C f') (h : Meth K C "__init__" f) : L2.Mk K C f := by
  have := m.init
  rw [h.at_] at this
  cases this
  exact m
theorem pe_mkB {X : Cx} {K : PySem.W.Frag} {e : Expr} {es : List Expr} {p pos : Pos} {t : TA} {j : Nat} (q : X.K = K) (T : Txt X.prog K X.mg) (hr : Room j X.A) (h2 : 2 ≤ j) (hg : Gl X "Book") (ha : PA X (e :: es) t)
    (he : starEach (e :: es) X.env = (false, eval e X.env) :: starEach es X.env := by rfl) (hpl : (backTo pos (starEach es X.env)).any (·.1) = false := by rfl) :
    PE X (.Call (.Name "Book" p) (e :: es) [] pos) (tMake (BK K) (spInit K) [] E0 t) := by
  subst q
  obtain ⟨f, fd, ps, M, F, b⟩ := (c_Book_init (P := X.prog) (w := X.w) (base := X.base) T).ex
  exact pe_make (Mk.eq T.mkB M) F (hr.mono h2) hg T.gBook b .nil passL ha (by decide) he hpl
end
end LK
set_option maxHeartbeats 4000000
namespace LK
open PySem PySem.Spec PyProof.Rows L2
local macro_rules | `(tactic| walk_at "rd") => `(tactic| (repeat (first
  | with_reducible refine rd_seq ?_
  | with_reducible refine rd_asg ?_
  | with_reducible refine rd_ret ?_
  | with_reducible refine rd_drop ?_
  | with_reducible refine rd_if ?_
  | with_reducible refine rd_next ?_
  | ((with_reducible apply rd_var); (· exact rfl))
  | with_reducible refine rd_c ?_
  | with_reducible refine rd_op ?_
  | with_reducible refine rd_un ?_
  | with_reducible refine rd_I0 ?_
  | with_reducible refine rd_U ?_
  | with_reducible refine rd_eq ?_
  | with_reducible refine rd_ne ?_
  | with_reducible refine rd_neB ?_
  | with_reducible refine rd_asB ?_
  | with_reducible refine rd_test ?_
  | with_reducible refine rd_tB ?_
  | with_reducible refine rd_not ?_
  | with_reducible refine rd_and ?_
  | with_reducible refine rd_or ?_
  | with_reducible refine rd_andV ?_
  | with_reducible refine rd_orV ?_
  | with_reducible refine rd_notV ?_
  | with_reducible refine rd_ifx ?_
  | with_reducible refine rd_chain ?_
  | with_reducible refine rd_nil ?_
  | with_reducible refine rd_cons ?_
  | with_reducible refine rd_call ?_
  | with_reducible refine rd_cb ?_
  | with_reducible refine rd_lst ?_
  | with_reducible refine rd_tup ?_
  | with_reducible refine rd_min ?_
  | with_reducible refine rd_max ?_
  | with_reducible refine rd_abs ?_
  | with_reducible refine rd_int ?_
  | with_reducible refine rd_bm ?_
  | with_reducible refine rd_nt ?_
  | with_reducible refine rd_nf ?_
  | with_reducible refine rd_rg3 ?_
  | with_reducible refine rd_gnil ?_
  | with_reducible refine rd_gcons ?_
  | with_reducible refine rd_yes ?_
  | with_reducible refine rd_tt ?_
  | with_reducible refine rd_ff ?_
  | with_reducible refine rd_fld ?_
  | with_reducible refine rd_meth ?_
  | with_reducible refine rd_rev ?_
  | with_reducible refine rd_callN ?_
  | with_reducible refine rd_rg1 ?_
  | with_reducible refine rd_rg2 ?_
  | with_reducible refine rd_nm ?_
  | with_reducible refine rd_lc ?_
  | with_reducible refine rd_iL' ?_
  | with_reducible refine rd_iT' ?_)))
local macro_rules | `(tactic| walk_at "hp") => `(tactic| (first
  | assumption
  | exact upd_same ..
  | (refine keep_upd (by assumption) ?_; walk_at "hp")
  | (refine same_app (by assumption) ?_; walk_at "hp")))


section
variable {P : Program} {w : World} {K : PySem.W.Frag} {mg : Str → Option Value} {base : Heap}
theorem BR.model0 {H : Hp} {B : BA} {M M' : Mod} (h : BR K H B M 0) : BR K H B M' 0 := by
  obtain ⟨x1, a1, b1⟩ := h.h1
  obtain ⟨x2, a2, b2⟩ := h.h2
  obtain ⟨x3, a3, b3, c3⟩ := h.h3
  obtain ⟨x4, a4, b4, c4⟩ := h.h4
  obtain ⟨x5, a5, b5, c5⟩ := h.h5
  exact ⟨h.b, h.h0, ⟨x1, a1, b1⟩, ⟨x2, a2, b2⟩, ⟨x3, a3, b3, fun p q r => by omega⟩, ⟨x4, a4, b4, fun p q r => by omega⟩, ⟨x5, a5, b5, fun c q r => (c5 c q r).congr fun o _ => ⟨fun ⟨z, _⟩ => by omega, fun ⟨z, _⟩ => by omega⟩⟩, h.dis⟩
theorem BR.newD {H0 H : Hp} {B : BA} {M : Mod} {N : Nat} (h : BR K H B M N) (hf : ∀ x ∈ B.b :: bmt B, H0 x = none) : NewD H0 H (fun G => BR K G B M N) := by
  let G : Hp := fun b => if b ∈ B.b :: bmt B then H b else none
  have ga : ∀ {b}, b ∈ B.b :: bmt B → G b = H b := fun hb => if_pos hb
  refine ⟨G, fun b o e => ?_, fun b hb => ?_, ?_⟩
  · by_cases c : b ∈ B.b :: bmt B
    · rw [ga c] at e; exact e
    · have : G b = none := if_neg c
      rw [this] at e; cases e
  · exact if_neg fun c => hb (hf b c)
  · have m0 : B.n0 ∈ B.b :: bmt B := by unfold bmt; simp
    have m1 : B.n1 ∈ B.b :: bmt B := by unfold bmt; simp
    have m2 : B.n2 ∈ B.b :: bmt B := by unfold bmt; simp
    have m3 : B.n3 ∈ B.b :: bmt B := by unfold bmt; simp
    have m4 : B.n4 ∈ B.b :: bmt B := by unfold bmt; simp
    have m5 : B.n5 ∈ B.b :: bmt B := by unfold bmt; simp
    obtain ⟨x1, a1, b1⟩ := h.h1
    obtain ⟨x2, a2, b2⟩ := h.h2
    obtain ⟨x3, a3, b3, c3⟩ := h.h3
    obtain ⟨x4, a4, b4, c4⟩ := h.h4
    obtain ⟨x5, a5, b5, c5⟩ := h.h5
    exact ⟨(ga (by simp)).trans h.b, (ga m0).trans h.h0, ⟨x1, (ga m1).trans a1, b1⟩, ⟨x2, (ga m2).trans a2, b2⟩, ⟨x3, (ga m3).trans a3, b3, c3⟩, ⟨x4, (ga m4).trans a4, b4, c4⟩, ⟨x5, (ga m5).trans a5, b5, c5⟩, h.dis⟩
def spBook (K : PySem.W.Frag) : Sp := fun vs H Q _ => ∃ (v : V) (M : Mod) (N : Nat), vs = [v] ∧ MR H v M ∧ Good M N ∧ M.base.length = 3 ∧ ∀ H' B, Same H H' → NewD H H' (fun G => BR K G B M N) → Q (.ref B.b) H'
theorem c__law_book (T : Txt P K mg) : Cal P w K mg base 4 "_law_book" (spBook K) := by
  have S : FnScope ["_law_model_here", "_law_book_here", "_law_number"] ["_law_model_here"] (defScope (top 46)) := ⟨rfl, rfl, rfl, by decide +kernel, rfl, by decide +kernel, by decide +kernel⟩
  refine T.d__law_book.cal S (fun _ _ _ _ _ _ us hl => match us, hl with | [_], _ => rfl) (fun vs H Q E ⟨_, _, _, e, _⟩ => by rw [e]; rfl) fun f cdv A0 outer s H vs Q E hr ⟨v, M, N, e, ⟨A, ev, hm⟩, g, hbl, h⟩ => ?_
  subst e ev
  refine ⟨_, (pss_cons (ps_set (i := 1) S.nd rfl (Or.inl rfl) (pe_mkB (K := K) rfl T hr (by decide) (by rfl) (pa_cons (pe_callTy (k_listK (K := K) rfl) (by rfl) T.b_list (by decide +kernel) (pa_cons (pe_ix (ix_ltK (K := K) rfl) (pv 0) pe_int (fun _ _ => rfl)) pa_nil)) pa_nil)))
      (pss_cons (ps_for PassesOwn.never rfl (pi_range2 (by rfl) T.b_range (pa_cons pe_int (pa_cons (pe_callB (k_lenK (K := K) rfl) (by rfl) T.b_len (by decide +kernel) (pa_cons (pe_ix (ix_ltK (K := K) rfl) (pv 0) pe_int (fun _ _ => rfl)) pa_nil)) pa_nil))) (pg_name (i := 2) S.nd rfl (Or.inl rfl)) (pss_one (ps_expr (pe_mK (pv 1) T.cl (c_Book_make_patch_kw T) hr (by decide) (pa_cons (pe_callTy (k_listK (K := K) rfl) (by rfl) T.b_list (by decide +kernel) (pa_cons (pe_ix (ix_ltK (K := K) rfl) (pe_ix (ix_ltK (K := K) rfl) (pv 0) pe_int (fun _ _ => rfl)) (pv 2) (fun _ _ => rfl)) pa_nil)) pa_nil) (pk_cons (pe_callTy (k_tupK (K := K) rfl) (by rfl) T.b_tuple (by decide +kernel) (pa_cons (pe_ix (ix_ltK (K := K) rfl) (pe_ix (ix_ltK (K := K) rfl) (pv 0) pe_int (fun _ _ => rfl)) (pv 2) (fun _ _ => rfl)) pa_nil)) (pk_cons (pe_callTy (k_tupK (K := K) rfl) (by rfl) T.b_tuple (by decide +kernel) (pa_cons (pe_ix (ix_ltK (K := K) rfl) (pe_ix (ix_ltK (K := K) rfl) (pv 0) pe_int (fun _ _ => rfl)) (pv 2) (fun _ _ => rfl)) pa_nil)) (pk_cons (pe_ix (ix_ltK (K := K) rfl) (pe_ix (ix_ltK (K := K) rfl) (pv 0) pe_int (fun _ _ => rfl)) (pv 2) (fun _ _ => rfl)) pk_nil)))))))
      (pss_one (ps_ret (pv 1))))), ?_⟩
  have hN := g.nN
  walk_at "rd"
  refine rd_make ?_
  walk_at "rd"
  refine rd_iL (v := .ref A.a0) (sl hm.m) (by rfl) ?_
  walk_at "rd"
  refine rd_listL (sl hm.h0.at_) fun l hl => ?_
  walk_at "rd"
  intro x dx hx hdx hdxx
  have h1a : (upd H l (.lst (iv M.base))) l = some (.lst (iv M.base)) := upd_same ..
  have s1 : Same H (upd H l (.lst (iv M.base))) := Same.new hl
  generalize upd H l (.lst (iv M.base)) = H1 at *
  have lx : l ≠ x := fun z => by rw [← z, h1a] at hx; cases hx
  have ldx : l ≠ dx := fun z => by rw [← z, h1a] at hdx; cases hdx
  refine ⟨x, dx, l, M.base, rfl, upd_same .., upd_other lx (upd_other ldx h1a), hbl, fun H2 B M0 ebx s2 hfr br0 => ⟨rfl, ?_⟩⟩
  have s02 : Same H H2 := fun b o e => by
    have e1 := s1 _ _ e
    have bx : b ≠ x := ne_of_none e1 hx
    have bdx : b ≠ dx := ne_of_none e1 hdx
    exact s2 _ _ (by rw [rm_at (by simpa using bx), upd_ne bx, upd_ne bdx]; exact e1)
  have hfr0 : ∀ y ∈ B.b :: bmt B, H y = none := fun y hy => by
    rcases List.mem_cons.mp hy with z | z
    · rw [z, ebx]; exact s1.free hx
    · have := hfr y z
      exact s1.free (none_of_upd (none_of_upd this))
  have br0 : BR K H2 B M 0 := br0.model0
  rw [← ebx]
  have hnone : ∀ y ∈ bmt B, H y = none := fun y hy => hfr0 y (List.mem_cons_of_mem _ hy)
  obtain ⟨xs1, h1, f1⟩ := hm.h1.at_
  obtain ⟨xs5, h5, f5⟩ := hm.h5.at_
  obtain ⟨xs6, h6, f6⟩ := hm.h6.at_
  have l1 : (xs1.length : Int) = 1 + (N : Nat) := by rw [f1.length, g.lwr]; omega
  walk_at "rd"
  refine rd_for ?_
  walk_at "rd"
  refine rd_iL (v := .ref A.a1) (sl (s02 _ _ hm.m)) (by rfl) ?_
  walk_at "rd"
  refine rd_lenL (sl (s02 _ _ h1)) ?_
  walk_at "rd"
  refine rg2N N l1 (by omega) (by omega) (by omega) ?_
  refine for_range (fun i σ H' => ∃ y : Option V, σ = [some (.ref A.m), some (.ref B.b), y] ∧ Same H H' ∧ BR K H' B M i) ⟨_, rfl, s02, br0⟩ ?_ ?_
  · rintro i σ H' hi ⟨y0, rfl, s3, br⟩
    have en : (1 : Int) + (i : Int) = (i : Int) + 1 := by omega
    have q1 : (1 : Int) ≤ (i : Int) + 1 := by omega
    have q2 : ((i : Int) + 1) ≤ N := by omega
    obtain ⟨vw, ew, hw⟩ := f1.getR (getD_at (d := []) (i := ((i : Int) + 1).toNat) (by rw [g.lwr]; omega))
    obtain ⟨vd, ed, hd⟩ := f5.getR (getD_at (d := []) (i := ((i : Int) + 1).toNat) (by rw [g.ldm]; omega))
    obtain ⟨vq, eq, hq⟩ := f6.getR (getD_at (d := []) (i := ((i : Int) + 1).toNat) (by rw [g.lqu]; omega))
    obtain ⟨aw, xw, rfl, hw1, fw1⟩ := hw
    obtain ⟨ad, rfl, hd1⟩ := hd
    obtain ⟨aq, rfl, hq1⟩ := hq
    have ez : M.sz[((i : Int) + 1).toNat]? = some (szA M ((i : Int) + 1)) := getD_at (by rw [g.lsz]; omega)
    have zz := g.sz _ (List.mem_of_getElem? ez)
    walk_at "rd"
    rw [en]
    refine rd_methK ?_
    walk_at "rd"
    refine ⟨_, _, _, rfl, br.b, rfl, ?_⟩
    walk_at "rd"
    refine rd_iL (v := .ref A.a1) (sl (s3 _ _ hm.m)) (by rfl) ?_
    walk_at "rd"
    refine rd_iL (sl (s3 _ _ h1)) (atI_nn (by omega) ew) ?_
    walk_at "rd"
    refine rd_listL (sl (s3 _ _ hw1)) fun l4 hl4 => ?_
    have s4 : Same H' (upd H' l4 (.lst xw)) := Same.new hl4
    have h4 : (upd H' l4 (.lst xw)) l4 = some (.lst xw) := upd_same ..
    generalize upd H' l4 (.lst xw) = H4 at *
    have s34 := s3.trans s4
    walk_at "rd"
    refine rd_iL (v := .ref A.a5) (sl (s34 _ _ hm.m)) (by rfl) ?_
    walk_at "rd"
    refine rd_iL (sl (s34 _ _ h5)) (atI_nn (by omega) ed) ?_
    walk_at "rd"
    refine rd_tupL (sl (s34 _ _ hd1)) fun l5 hl5 => ?_
    have s5 : Same H4 (upd H4 l5 (.tup (iv (dmA M ((i : Int) + 1))))) := Same.new hl5
    have h5' : (upd H4 l5 (.tup (iv (dmA M ((i : Int) + 1))))) l5 = some (.tup (iv (dmA M ((i : Int) + 1)))) := upd_same ..
    show tCons _ _ _ (upd H4 l5 (.tup (iv (dmA M ((i : Int) + 1))))) _
    generalize upd H4 l5 (.tup (iv (dmA M ((i : Int) + 1)))) = H5 at *
    have s35 := s34.trans s5
    walk_at "rd"
    refine rd_iL (v := .ref A.a6) (sl (s35 _ _ hm.m)) (by rfl) ?_
    walk_at "rd"
    refine rd_iL (sl (s35 _ _ h6)) (atI_nn (by omega) eq) ?_
    walk_at "rd"
    refine rd_tupL (sl (s35 _ _ hq1)) fun l6 hl6 => ?_
    have s6 : Same H5 (upd H5 l6 (.tup (iv (quA M ((i : Int) + 1))))) := Same.new hl6
    have h6' : (upd H5 l6 (.tup (iv (quA M ((i : Int) + 1))))) l6 = some (.tup (iv (quA M ((i : Int) + 1)))) := upd_same ..
    show tCons _ _ _ (upd H5 l6 (.tup (iv (quA M ((i : Int) + 1))))) _
    generalize upd H5 l6 (.tup (iv (quA M ((i : Int) + 1)))) = H6 at *
    have s36 := s35.trans s6
    walk_at "rd"
    refine rd_iL (v := .ref A.a2) (sl (s36 _ _ hm.m)) (by rfl) ?_
    walk_at "rd"
    refine rd_iL (sl (s36 _ _ hm.h2.at_)) (atI_nn (by omega) (by rw [List.getElem?_map, ez]; rfl)) ?_
    walk_at "rd"
    have s46 := s5.trans s6
    refine ⟨rfl, rfl, B, M, N, i, l4, .ref l5, .ref l6, szA M ((i : Int) + 1), rfl, br.mono (s4.trans s46), g, by omega, ⟨l4, xw, rfl, s46 _ _ h4, fw1.imp fun _ _ _ q => m_Pr _ _ _ _ s36 q⟩, ⟨l5, rfl, s6 _ _ h5'⟩, ⟨l6, rfl, h6'⟩, zz.1, fun H7 s7 br7 => ?_⟩
    walk_at "rd"
    refine ⟨_, rfl, fun b o e => s7 _ _ ?_, br7⟩
    rw [rm_at (fun z => by rw [hnone b z] at e; cases e)]
    exact s36 _ _ e
  · rintro σ H' ⟨y0, rfl, s3, br⟩
    walk_at "rd"
    exact h H' B s3 (br.newD hfr0)
end
end LK
set_option maxHeartbeats 4000000
namespace LK
open PySem PySem.Spec PyProof.Rows L2
local macro_rules | `(tactic| walk_at "rd") => `(tactic| (repeat (first
  | with_reducible refine rd_seq ?_
  | with_reducible refine rd_asg ?_
  | with_reducible refine rd_ret ?_
  | with_reducible refine rd_drop ?_
  | with_reducible refine rd_if ?_
  | with_reducible refine rd_next ?_
  | ((with_reducible apply rd_var); (· exact rfl))
  | with_reducible refine rd_c ?_
  | with_reducible refine rd_op ?_
  | with_reducible refine rd_un ?_
  | with_reducible refine rd_I0 ?_
  | with_reducible refine rd_U ?_
  | with_reducible refine rd_eq ?_
  | with_reducible refine rd_ne ?_
  | with_reducible refine rd_neB ?_
  | with_reducible refine rd_asB ?_
  | with_reducible refine rd_test ?_
  | with_reducible refine rd_tB ?_
  | with_reducible refine rd_not ?_
  | with_reducible refine rd_and ?_
  | with_reducible refine rd_or ?_
  | with_reducible refine rd_andV ?_
  | with_reducible refine rd_orV ?_
  | with_reducible refine rd_notV ?_
  | with_reducible refine rd_ifx ?_
  | with_reducible refine rd_chain ?_
  | with_reducible refine rd_nil ?_
  | with_reducible refine rd_cons ?_
  | with_reducible refine rd_call ?_
  | with_reducible refine rd_cb ?_
  | with_reducible refine rd_lst ?_
  | with_reducible refine rd_tup ?_
  | with_reducible refine rd_min ?_
  | with_reducible refine rd_max ?_
  | with_reducible refine rd_abs ?_
  | with_reducible refine rd_int ?_
  | with_reducible refine rd_bm ?_
  | with_reducible refine rd_nt ?_
  | with_reducible refine rd_nf ?_
  | with_reducible refine rd_rg3 ?_
  | with_reducible refine rd_gnil ?_
  | with_reducible refine rd_gcons ?_
  | with_reducible refine rd_yes ?_
  | with_reducible refine rd_tt ?_
  | with_reducible refine rd_ff ?_
  | with_reducible refine rd_fld ?_
  | with_reducible refine rd_meth ?_
  | with_reducible refine rd_rev ?_
  | with_reducible refine rd_callN ?_
  | with_reducible refine rd_rg1 ?_
  | with_reducible refine rd_rg2 ?_
  | with_reducible refine rd_nm ?_
  | with_reducible refine rd_lc ?_
  | with_reducible refine rd_iL' ?_
  | with_reducible refine rd_iT' ?_)))
local macro_rules | `(tactic| walk_at "hp") => `(tactic| (first
  | assumption
  | exact upd_same ..
  | (refine keep_upd (by assumption) ?_; walk_at "hp")
  | (refine same_app (by assumption) ?_; walk_at "hp")))


theorem nd_new {L : List Addr} {H : Hp} {y : Addr} {o : HO} (hn : L.Nodup) (hd : ∀ x ∈ L, H x ≠ none) (hy : H y = none) : (y :: L).Nodup ∧ ∀ x ∈ y :: L, upd H y o x ≠ none := by
  refine ⟨List.nodup_cons.mpr ⟨fun z => hd y z hy, hn⟩, fun x hx => ?_⟩
  rcases List.mem_cons.mp hx with z | z
  · rw [z, upd_same]; exact fun q => by cases q
  · rw [upd_ne (fun q => hd x z (by rw [q]; exact hy))]; exact hd x z
theorem rmH_rm {Z H : Hp} {S : Addr} (h : Z S ≠ none) : Same (rmH Z H) (rm [S] H) := fun b o e => by
  obtain ⟨a, c⟩ := rmH_of e
  rw [rm_at (by simp; exact fun z => h (by rw [← z]; exact a))]; exact c
theorem nm7 {b c1 c2 c3 c4 c5 c6 c7 : Addr} (h1 : b ≠ c1) (h2 : b ≠ c2) (h3 : b ≠ c3) (h4 : b ≠ c4) (h5 : b ≠ c5) (h6 : b ≠ c6) (h7 : b ≠ c7) : b ∉ [c1, c2, c3, c4, c5, c6, c7] := by
  simp only [List.mem_cons, List.not_mem_nil, or_false, not_or]
  exact ⟨h1, h2, h3, h4, h5, h6, h7⟩
def Mod0 (bs : List Int) : Mod := ⟨bs, [[]], [0], [[]], [[]], [[]], [[]]⟩
theorem good0 (bs : List Int) : Good (Mod0 bs) 0 := by
  refine ⟨by omega, rfl, rfl, rfl, rfl, rfl, rfl, ?_, ?_, ?_, ?_, ?_, ?_, ?_, ?_, ?_, ?_, ?_, ?_, ?_, ?_, ?_⟩
  all_goals first
    | (intro x hx; simp [Mod0] at hx; subst hx; simp; done)
    | (intro p h1 h2; omega)
    | (intro p o h1 h2; omega)
theorem GrownP.base {M M' : Mod} {N : Nat} (h : GrownP M N M') : M'.base = M.base := by
  obtain ⟨ws, e, nd, bars, ds, qs, rfl, _⟩ := h.ex
  rfl
section
variable {P : Program} {w : World} {K : PySem.W.Frag} {mg : Str → Option Value} {base : Heap}
def spModel : Sp := fun vs H Q _ => ∃ (S : Addr) (n : Nat) (most : Int), vs = [.ref S, .int most, .int 3] ∧ Src S H n ∧ n ≤ 1000 ∧ 0 ≤ most ∧ most ≤ 14 ∧
  ∀ H' A bA M (N : Nat), Same (rm [S] H) H' → Src S H' (n + 2000) → NewD H H' (fun G => MM G A bA M) → Good M N → N ≤ 14 → M.base.length = 3 → Q (.ref A.m) H'
theorem c__law_model (T : Txt P K mg) : Cal P w K mg base 4 "_law_model" spModel := by
  have S : FnScope ["_law_source_here", "_law_most", "_law_cells", "_law_base", "_law_model_here", "_law_turn", "_law_place"] ["_law_source_here", "_law_most", "_law_cells"] (defScope (top 45)) := ⟨rfl, rfl, rfl, by decide +kernel, rfl, by decide +kernel, by decide +kernel⟩
  refine T.d__law_model.cal S (fun _ _ _ _ _ _ us hl => match us, hl with | [_, _, _], _ => rfl) (fun vs H Q E ⟨_, _, _, e, _⟩ => by rw [e]; rfl) fun f cdv A0 outer s H vs Q E hr ⟨p, n, most, e, hs, hn, m0, m1, h⟩ => ?_
  subst e
  refine ⟨_, (pss_cons (ps_setLc (i := 3) (own := [("_law_place", 6)]) (by rfl) S.nd rfl rfl (sw_true rfl rfl rfl (by decide +kernel)) (pi_range1 (by rfl) T.b_range (pa_cons (pv 2) pa_nil)) (blkOk_by (own := [("_law_place", 6)]) (by kernel_rfl)) (fun _ _ _ _ _ => (pg_name (i := 6) S.nd rfl (Or.inl rfl))) (fun _ _ _ _ _ => pts_nil) (fun _ _ _ _ _ => (pe_op op_sub (pe_c (c__law_draw T) hr (by decide) (by rfl) (pa_cons (pv 0) (pa_cons pe_int pa_nil))) pe_int)))
      (pss_cons (ps_set (i := 4) S.nd rfl (Or.inl rfl) (pe_lst (pa_cons (pv 3) (pa_cons (pe_lst (pa_cons (pe_lst pa_nil) pa_nil)) (pa_cons (pe_lst (pa_cons pe_int pa_nil)) (pa_cons (pe_lst (pa_cons (pe_lst pa_nil) pa_nil)) (pa_cons (pe_lst (pa_cons (pe_lst pa_nil) pa_nil)) (pa_cons (pe_lst (pa_cons (pe_lst pa_nil) pa_nil)) (pa_cons (pe_lst (pa_cons (pe_lst pa_nil) pa_nil)) pa_nil)))))))))
      (pss_cons (ps_for PassesOwn.never rfl (pi_range1 (by rfl) T.b_range (pa_cons (pe_c (c__law_draw T) hr (by decide) (by rfl) (pa_cons (pv 0) (pa_cons (pe_op op_add (pv 1) pe_int) pa_nil))) pa_nil)) (pg_name (i := 5) S.nd rfl (Or.inl rfl)) (pss_one (ps_expr (pe_c (c__law_grow T) hr (by decide) (by rfl) (pa_cons (pv 0) (pa_cons (pv 4) (pa_cons (pv 2) pa_nil)))))))
      (pss_one (ps_ret (pv 4)))))), ?_⟩
  have hp0 := src_ne hs
  walk_at "rd"
  refine rg1N 3 rfl (by omega) fun D hD => ?_
  have hDp := hs.ne hD
  refine lc_range (fun i H' => Same (rm [p] H) H' ∧ Src p H' (n + i) ∧ ∃ bs : List Int, H' D = some (.lst (iv bs)) ∧ bs.length = i) ⟨(rm_same _ _).trans (Same.new hD), src_upd hs hDp, [], upd_same .., rfl⟩ (fun i Hc hi ⟨sc, hsc, bs, e1, e2⟩ => ?_) fun H1 ⟨s1, hs1, bs, hbs, hbl⟩ => ?_
  · walk_at "rd"
    refine ⟨rfl, ?_⟩
    walk_at "rd"
    refine ⟨_, _, _, rfl, hsc, by omega, by omega, by omega, fun r Hd r0 r1 sd hsd => ?_⟩
    have e4 := at_draw sd hDp e1
    walk_at "rd"
    exact ⟨_, e4, by rw [line]; simp; omega, Same.upd ((rm_self sc).trans sd) (rm_none hD), src_upd hsd hDp, bs ++ [r - 1000], by rw [upd_same]; simp, by simp [e2]⟩
  have fr : ∀ {Hx : Hp} {a : Addr}, Same H1 Hx → Hx a = none → H a = none ∧ a ≠ p := fun {Hx a} sx ha => by
    have h1 := sx.free ha
    have ap : a ≠ p := fun z => by rw [z] at h1; exact src_ne hs1 h1
    exact ⟨free_draw s1 ap h1, ap⟩
  have n0 : ([D] : List Addr).Nodup ∧ ∀ x ∈ [D], H1 x ≠ none := ⟨by simp, fun x hx => by rw [List.mem_singleton.mp hx, hbs]; exact fun q => by cases q⟩
  walk_at "rd"
  refine ⟨ll (by simp), fun e1 he1 => ?_⟩
  have n1 := nd_new (o := .lst []) n0.1 n0.2 he1
  have s2 : Same H1 (upd H1 e1 (.lst [])) := Same.new he1
  have v1 : (upd H1 e1 (.lst [])) e1 = some (.lst (iv [])) := upd_same ..
  generalize upd H1 e1 (.lst []) = H2 at *
  walk_at "rd"
  refine ⟨ll (by simp), fun a1 ha1 => ?_⟩
  have n2 := nd_new (o := .lst [.ref e1]) n1.1 n1.2 ha1
  have s3 : Same H2 (upd H2 a1 (.lst [.ref e1])) := Same.new ha1
  have w1 : (upd H2 a1 (.lst [.ref e1])) a1 = some (.lst [.ref e1]) := upd_same ..
  generalize upd H2 a1 (.lst [.ref e1]) = H3 at *
  walk_at "rd"
  refine ⟨ll (by simp), fun a2 ha2 => ?_⟩
  have n3 := nd_new (o := .lst [.int 0]) n2.1 n2.2 ha2
  have s4 : Same H3 (upd H3 a2 (.lst [.int 0])) := Same.new ha2
  have w2 : (upd H3 a2 (.lst [.int 0])) a2 = some (.lst (iv [0])) := upd_same ..
  generalize upd H3 a2 (.lst [.int 0]) = H4 at *
  walk_at "rd"
  refine ⟨ll (by simp), fun e3 he3 => ?_⟩
  have n4 := nd_new (o := .lst []) n3.1 n3.2 he3
  have s5 : Same H4 (upd H4 e3 (.lst [])) := Same.new he3
  have v3 : (upd H4 e3 (.lst [])) e3 = some (.lst (iv [])) := upd_same ..
  generalize upd H4 e3 (.lst []) = H5 at *
  walk_at "rd"
  refine ⟨ll (by simp), fun a3 ha3 => ?_⟩
  have n5 := nd_new (o := .lst [.ref e3]) n4.1 n4.2 ha3
  have s6 : Same H5 (upd H5 a3 (.lst [.ref e3])) := Same.new ha3
  have w3 : (upd H5 a3 (.lst [.ref e3])) a3 = some (.lst [.ref e3]) := upd_same ..
  generalize upd H5 a3 (.lst [.ref e3]) = H6 at *
  walk_at "rd"
  refine ⟨ll (by simp), fun e4 he4 => ?_⟩
  have n6 := nd_new (o := .lst []) n5.1 n5.2 he4
  have s7 : Same H6 (upd H6 e4 (.lst [])) := Same.new he4
  have v4 : (upd H6 e4 (.lst [])) e4 = some (.lst (iv [])) := upd_same ..
  generalize upd H6 e4 (.lst []) = H7 at *
  walk_at "rd"
  refine ⟨ll (by simp), fun a4 ha4 => ?_⟩
  have n7 := nd_new (o := .lst [.ref e4]) n6.1 n6.2 ha4
  have s8 : Same H7 (upd H7 a4 (.lst [.ref e4])) := Same.new ha4
  have w4 : (upd H7 a4 (.lst [.ref e4])) a4 = some (.lst [.ref e4]) := upd_same ..
  generalize upd H7 a4 (.lst [.ref e4]) = H8 at *
  walk_at "rd"
  refine ⟨ll (by simp), fun e5 he5 => ?_⟩
  have n8 := nd_new (o := .lst []) n7.1 n7.2 he5
  have s9 : Same H8 (upd H8 e5 (.lst [])) := Same.new he5
  have v5 : (upd H8 e5 (.lst [])) e5 = some (.lst (iv [])) := upd_same ..
  generalize upd H8 e5 (.lst []) = H9 at *
  walk_at "rd"
  refine ⟨ll (by simp), fun a5 ha5 => ?_⟩
  have n9 := nd_new (o := .lst [.ref e5]) n8.1 n8.2 ha5
  have s10 : Same H9 (upd H9 a5 (.lst [.ref e5])) := Same.new ha5
  have w5 : (upd H9 a5 (.lst [.ref e5])) a5 = some (.lst [.ref e5]) := upd_same ..
  generalize upd H9 a5 (.lst [.ref e5]) = H10 at *
  walk_at "rd"
  refine ⟨ll (by simp), fun e6 he6 => ?_⟩
  have n10 := nd_new (o := .lst []) n9.1 n9.2 he6
  have s11 : Same H10 (upd H10 e6 (.lst [])) := Same.new he6
  have v6 : (upd H10 e6 (.lst [])) e6 = some (.lst (iv [])) := upd_same ..
  generalize upd H10 e6 (.lst []) = H11 at *
  walk_at "rd"
  refine ⟨ll (by simp), fun a6 ha6 => ?_⟩
  have n11 := nd_new (o := .lst [.ref e6]) n10.1 n10.2 ha6
  have s12 : Same H11 (upd H11 a6 (.lst [.ref e6])) := Same.new ha6
  have w6 : (upd H11 a6 (.lst [.ref e6])) a6 = some (.lst [.ref e6]) := upd_same ..
  generalize upd H11 a6 (.lst [.ref e6]) = H12 at *
  walk_at "rd"
  refine ⟨ll (by simp), fun m hm => ?_⟩
  have n12 := nd_new (o := .lst [.ref D, .ref a1, .ref a2, .ref a3, .ref a4, .ref a5, .ref a6]) n11.1 n11.2 hm
  have s13 : Same H12 (upd H12 m (.lst [.ref D, .ref a1, .ref a2, .ref a3, .ref a4, .ref a5, .ref a6])) := Same.new hm
  have wm : (upd H12 m (.lst [.ref D, .ref a1, .ref a2, .ref a3, .ref a4, .ref a5, .ref a6])) m = some (.lst [.ref D, .ref a1, .ref a2, .ref a3, .ref a4, .ref a5, .ref a6]) := upd_same ..
  generalize upd H12 m (.lst [.ref D, .ref a1, .ref a2, .ref a3, .ref a4, .ref a5, .ref a6]) = H13 at *
  -- what is free of H
  have c12 := s13
  have c11 := s12.trans c12
  have c10 := s11.trans c11
  have c9 := s10.trans c10
  have c8 := s9.trans c9
  have c7 := s8.trans c8
  have c6 := s7.trans c7
  have c5 := s6.trans c6
  have c4 := s5.trans c5
  have c3 := s4.trans c4
  have c2 := s3.trans c3
  have c1 := s2.trans c2
  have d3 := s2.trans s3
  have d4 := d3.trans s4
  have d5 := d4.trans s5
  have d6 := d5.trans s6
  have d7 := d6.trans s7
  have d8 := d7.trans s8
  have d9 := d8.trans s9
  have d10 := d9.trans s10
  have d11 := d10.trans s11
  have d12 := d11.trans s12
  have z0 : H D = none := hD
  have z1 := (fr (Same.refl _) he1).1
  have y1 := (fr s2 ha1).1
  have y2 := (fr d3 ha2).1
  have z3 := (fr d4 he3).1
  have y3 := (fr d5 ha3).1
  have z4 := (fr d6 he4).1
  have y4 := (fr d7 ha4).1
  have z5 := (fr d8 he5).1
  have y5 := (fr d9 ha5).1
  have z6 := (fr d10 he6).1
  have y6 := (fr d11 ha6).1
  have ym := (fr d12 hm).1
  have s013 : Same (rm [p] H) H13 := s1.trans c1
  have hs13 := hs1.mono c1
  let A : MA := ⟨m, D, a1, a2, a3, a4, a5, a6⟩
  have mm : MM (rmH H H13) A [e4] (Mod0 bs) := by
    have nd := n12.1
    simp only [List.nodup_cons, List.mem_cons, List.not_mem_nil, or_false, not_or, List.nodup_nil, and_true, not_false_eq_true] at nd
    obtain ⟨⟨m_6, me6, m_5, me5, m_4, me4, m_3, me3, m_2, m_1, me1, mD⟩, ⟨a6e6, a65, a6e5, a64, a6e4, a63, a6e3, a62, a61, a6e1, a6D⟩, ⟨e65, e6e5, e64, e6e4, e63, e6e3, e62, e61, e6e1, e6D⟩, ⟨a5e5, a54, a5e4, a53, a5e3, a52, a51, a5e1, a5D⟩, ⟨e54, e5e4, e53, e5e3, e52, e51, e5e1, e5D⟩, ⟨a4e4, a43, a4e3, a42, a41, a4e1, a4D⟩, ⟨e43, e4e3, e42, e41, e4e1, e4D⟩, ⟨a3e3, a32, a31, a3e1, a3D⟩, ⟨e32, e31, e3e1, e3D⟩, ⟨a21, a2e1, a2D⟩, ⟨a1e1, a1D⟩, e1D⟩ := nd
    have mq : mts A [e4] = [a1, a2, a3, a4, a5, a6, e4] := rfl
    have out : ∀ {b : Addr} {o : HO}, b ∉ [a1, a2, a3, a4, a5, a6, e4] → H b = none → H13 b = some o → rm (mts A [e4]) (rmH H H13) b = some o := fun {b o} h1 h2 h3 => by rw [mq, rm_at h1, rmH_at h2]; exact h3
    have ins : ∀ {b : Addr} {o : HO}, H b = none → H13 b = some o → rmH H H13 b = some o := fun {b o} h2 h3 => by rw [rmH_at h2]; exact h3
    refine ⟨?_, out (nm7 m_1 m_2 m_3 m_4 m_5 m_6 me4) ym wm, ⟨D, rfl, out (nm7 (Ne.symm a1D) (Ne.symm a2D) (Ne.symm a3D) (Ne.symm a4D) (Ne.symm a5D) (Ne.symm a6D) (Ne.symm e4D)) z0 (c1 _ _ hbs)⟩, ⟨_, ins y1 (c3 _ _ w1), .cons ⟨e1, [], rfl, out (nm7 (Ne.symm a1e1) (Ne.symm a2e1) (Ne.symm a3e1) (Ne.symm a4e1) (Ne.symm a5e1) (Ne.symm a6e1) (Ne.symm e4e1)) z1 (c2 _ _ v1), .nil⟩ .nil⟩, ins y2 (c4 _ _ w2),
      ⟨_, ins y3 (c6 _ _ w3), .cons ⟨e3, rfl, out (nm7 e31 e32 (Ne.symm a3e3) (Ne.symm a4e3) (Ne.symm a5e3) (Ne.symm a6e3) (Ne.symm e4e3)) z3 (c5 _ _ v3)⟩ .nil⟩, ins y4 (c8 _ _ w4), .cons (ins z4 (c7 _ _ v4)) .nil, ⟨_, ins y5 (c10 _ _ w5), .cons ⟨e5, rfl, out (nm7 e51 e52 e53 e54 (Ne.symm a5e5) (Ne.symm a6e5) e5e4) z5 (c9 _ _ v5)⟩ .nil⟩,
      ⟨_, ins y6 (c12 _ _ w6), .cons ⟨e6, rfl, out (nm7 e61 e62 e63 e64 e65 (Ne.symm a6e6) e6e4) z6 (c11 _ _ v6)⟩ .nil⟩⟩
    rw [mq]
    simp only [List.nodup_cons, List.mem_cons, List.not_mem_nil, or_false, not_or, List.nodup_nil, and_true, not_false_eq_true]
    exact ⟨⟨Ne.symm a21, Ne.symm a31, Ne.symm a41, Ne.symm a51, Ne.symm a61, Ne.symm e41⟩, ⟨Ne.symm a32, Ne.symm a42, Ne.symm a52, Ne.symm a62, Ne.symm e42⟩, ⟨Ne.symm a43, Ne.symm a53, Ne.symm a63, Ne.symm e43⟩, ⟨Ne.symm a54, Ne.symm a64, a4e4⟩, ⟨Ne.symm a65, a5e4⟩, a6e4⟩
  walk_at "rd"
  refine rd_for ?_
  walk_at "rd"
  refine ⟨_, _, _, rfl, hs13, by omega, by omega, by omega, fun r H14 r0 r1 s14 hs14 => ?_⟩
  walk_at "rd"
  have s014 : Same (rm [p] H) H14 := (rm_self s013).trans s14
  have mm14 : MM (rmH H H14) A [e4] (Mod0 bs) := mm.mono fun b o e => by
    obtain ⟨q1, q2⟩ := rmH_of e
    rw [rmH_at q1]
    exact at_draw s14 (fun z => hp0 (by rw [← z]; exact q1)) q2
  refine rg1N r.toNat (by omega) (by omega) ?_
  refine for_range (fun i σ H' => ∃ (x : Option V) (bA : List Addr) (M : Mod), σ = [some (.ref p), some (.int most), some (.int 3), some (.ref D), some (.ref m), x, none] ∧ Same (rm [p] H) H' ∧ Src p H' (n + 4 + 100 * i) ∧ MM (rmH H H') A bA M ∧ Good M i ∧ M.base.length = 3) ⟨_, [e4], Mod0 bs, rfl, s014, hs14, mm14, good0 bs, hbl⟩ ?_ ?_
  · rintro i σ H' hi ⟨x0, bA, M, rfl, sx, hsx, mx, gx, bx⟩
    walk_at "rd"
    refine ⟨p, _, A, bA, M, i, rfl, hsx, by omega, mx.mono (rmH_rm hp0), gx, by omega, fun H2 b M' s2' hs2' hb mm2 gp => ?_⟩
    walk_at "rd"
    have dom : ∀ b, H b ≠ none → H' b ≠ none := fun b hb z => by
      by_cases c : b = p
      · rw [c] at z; exact src_ne hsx z
      · exact hb (free_draw sx c z)
    refine ⟨_, bA ++ [b], M', rfl, fun y o e => ?_, hs2'.le (by omega), mm2 H hp0 dom mx, gp.good gx (by omega), by rw [gp.base]; exact bx⟩
    have yp : y ≠ p := fun z => by rw [z, rm_in (by simp)] at e; cases e
    have eH : H y = some o := by rw [rm_at (by simpa using yp)] at e; exact e
    have yX : y ∉ mts A bA := fun z => by
      have := mx.in_ y z
      rw [rmH_in (by rw [eH]; exact fun q => by cases q)] at this
      exact this rfl
    refine s2' _ _ ?_
    rw [rm_at (by simp [yp, yX])]
    exact sx _ _ e
  · rintro σ H' ⟨x0, bA, M, rfl, sx, hsx, mx, gx, bx⟩
    walk_at "rd"
    refine h H' A bA M r.toNat sx (hsx.le (by omega)) ⟨rmH H H', rmH_same _ _, fun b hb => rmH_in hb, mx⟩ gx (by omega) bx
end
end LK
set_option maxHeartbeats 4000000
namespace LK
open PySem PySem.Spec PyProof.Rows L2
local macro_rules | `(tactic| walk_at "rd") => `(tactic| (repeat (first
  | with_reducible refine rd_seq ?_
  | with_reducible refine rd_asg ?_
  | with_reducible refine rd_ret ?_
  | with_reducible refine rd_drop ?_
  | with_reducible refine rd_if ?_
  | with_reducible refine rd_next ?_
  | ((with_reducible apply rd_var); (· exact rfl))
  | with_reducible refine rd_c ?_
  | with_reducible refine rd_op ?_
  | with_reducible refine rd_un ?_
  | with_reducible refine rd_I0 ?_
  | with_reducible refine rd_U ?_
  | with_reducible refine rd_eq ?_
  | with_reducible refine rd_ne ?_
  | with_reducible refine rd_neB ?_
  | with_reducible refine rd_asB ?_
  | with_reducible refine rd_test ?_
  | with_reducible refine rd_tB ?_
  | with_reducible refine rd_not ?_
  | with_reducible refine rd_and ?_
  | with_reducible refine rd_or ?_
  | with_reducible refine rd_andV ?_
  | with_reducible refine rd_orV ?_
  | with_reducible refine rd_notV ?_
  | with_reducible refine rd_ifx ?_
  | with_reducible refine rd_chain ?_
  | with_reducible refine rd_nil ?_
  | with_reducible refine rd_cons ?_
  | with_reducible refine rd_call ?_
  | with_reducible refine rd_cb ?_
  | with_reducible refine rd_lst ?_
  | with_reducible refine rd_tup ?_
  | with_reducible refine rd_min ?_
  | with_reducible refine rd_max ?_
  | with_reducible refine rd_abs ?_
  | with_reducible refine rd_int ?_
  | with_reducible refine rd_bm ?_
  | with_reducible refine rd_nt ?_
  | with_reducible refine rd_nf ?_
  | with_reducible refine rd_rg3 ?_
  | with_reducible refine rd_gnil ?_
  | with_reducible refine rd_gcons ?_
  | with_reducible refine rd_yes ?_
  | with_reducible refine rd_tt ?_
  | with_reducible refine rd_ff ?_
  | with_reducible refine rd_fld ?_
  | with_reducible refine rd_meth ?_
  | with_reducible refine rd_rev ?_
  | with_reducible refine rd_callN ?_
  | with_reducible refine rd_rg1 ?_
  | with_reducible refine rd_rg2 ?_
  | with_reducible refine rd_nm ?_
  | with_reducible refine rd_lc ?_
  | with_reducible refine rd_iL' ?_
  | with_reducible refine rd_iT' ?_)))
local macro_rules | `(tactic| walk_at "hp") => `(tactic| (first
  | assumption
  | exact upd_same ..
  | (refine keep_upd (by assumption) ?_; walk_at "hp")
  | (refine same_app (by assumption) ?_; walk_at "hp")))


theorem rmH_new {Z Hb H1 : Hp} {S : Addr} {o : HO} (h : Hb S = none) (s : Same Hb H1) : Same (rmH Z Hb) (rmH (upd Z S o) H1) := fun b u e => by
  obtain ⟨q1, q2⟩ := rmH_of e
  rw [rmH_at (by rw [upd_ne (ne_of_none q2 h)]; exact q1)]
  exact s _ _ q2
theorem rmH_draw {Z H H' : Hp} {S : Addr} (h : Z S ≠ none) (s : Same (rm [S] H) H') : Same (rmH Z H) (rmH Z H') := fun b u e => by
  obtain ⟨q1, q2⟩ := rmH_of e
  rw [rmH_at q1]
  exact at_draw s (fun z => h (by rw [← z]; exact q1)) q2
theorem rmH_upd {Z H : Hp} {D : Addr} {o : HO} (h : Z D ≠ none) : Same (rmH Z H) (rmH Z (upd H D o)) := fun b u e => by
  obtain ⟨q1, q2⟩ := rmH_of e
  rw [rmH_at q1, upd_ne (fun z => h (by rw [← z]; exact q1))]
  exact q2
theorem rmH_less {Z Z' H : Hp} (h : ∀ b, Z b ≠ none → Z' b ≠ none) : Same (rmH Z' H) (rmH Z H) := fun b u e => by
  obtain ⟨q1, q2⟩ := rmH_of e
  rw [rmH_at]
  · exact q2
  · by_cases c : Z b = none
    · exact c
    · exact absurd q1 (h b c)
/-- a row of versions and counts -/
def RowOk (M : Mod) (N : Nat) (r : List Int × Int) : Prop := isV M N r.1 = true ∧ r.1.length ≤ N ∧ 1 ≤ r.2 ∧ r.2 ≤ 2 ^ 41
theorem upd_none {Z : Hp} {a b : Addr} {o : HO} (h : Z b ≠ none) : upd Z a o b ≠ none := by
  by_cases c : b = a
  · rw [c, upd_same]; exact fun z => by cases z
  · rw [upd_ne c]; exact h
section
variable {P : Program} {w : World} {K : PySem.W.Frag} {mg : Str → Option Value} {base : Heap}
/-- one item drawn: a version, a count, a new pair -/
theorem item_facts {S : Addr} {n N : Nat} {M : Mod} {Hc H1 H2 : Hp} {Z : Hp} {a t : Addr} {xs : List Int} {c : Int} (hs : Src S Hc n) (hN : N ≤ 20) (hz : Z S ≠ none) (zd : ∀ b, Z b ≠ none → Hc b ≠ none)
    (s1 : Same (rm [S] Hc) H1) (hs1 : Src S H1 (n + N)) (ha0 : Hc a = none) (ha : H1 a = some (.tup (iv xs))) (hv : isV M N xs = true) (hl : xs.length ≤ N) (c1 : 1 ≤ c) (c2 : c ≤ 2 ^ 41) (s2 : Same (rm [S] H1) H2) (hs2 : Src S H2 (n + N + 2)) (ht : H2 t = none) :
    Same (rm [S] Hc) (upd H2 t (.tup [.ref a, .int c])) ∧ Same (rmH Z Hc) (rmH Z (upd H2 t (.tup [.ref a, .int c]))) ∧ Src S (upd H2 t (.tup [.ref a, .int c])) (n + 30) ∧ Rq (rmH Z (upd H2 t (.tup [.ref a, .int c]))) (.ref t) (xs, c) ∧ RowOk M N (xs, c) ∧ ∀ b, Hc b ≠ none → (upd H2 t (.tup [.ref a, .int c])) b ≠ none := by
  have haS := hs.ne ha0
  have ha2 := at_draw s2 haS ha
  have htS := hs2.ne ht
  have s02 : Same (rm [S] Hc) H2 := (rm_self s1).trans s2
  have ht0 : Hc t = none := free_draw s02 htS ht
  have dom2 : ∀ b, Hc b ≠ none → H2 b ≠ none := fun b hb z => by
    by_cases c : b = S
    · rw [c] at z; exact src_ne hs2 z
    · exact hb (free_draw s02 c z)
  have zn : ∀ {b}, Hc b = none → Z b = none := fun {b} hb => by
    by_cases c : Z b = none
    · exact c
    · exact absurd hb (zd b c)
  refine ⟨s02.trans (Same.new ht), (rmH_draw hz s02).trans (rmH_mono (Same.new ht)), (hs2.mono (Same.new ht)).le (by omega), ⟨t, a, rfl, ?_, ?_⟩, ⟨hv, hl, c1, c2⟩, fun b hb => upd_none (dom2 b hb)⟩
  · rw [rmH_at (zn ht0), upd_same]
  · rw [rmH_at (zn ha0)]; exact keep_upd ht ha2
theorem rg2Z {R : It → Hp → Prop} {H : Hp} {i j : Int} (hi : -1000000 < i ∧ i < 1000000) (hj : -1000000000 < j ∧ j < 1000000000) (h : R (Itr i (j - i).toNat) H) : rg2 R [.int i, .int j] H := ⟨i, j, rfl, by omega, h⟩
def spRowM (K : PySem.W.Frag) : Sp := fun vs H Q _ => ∃ (p : Addr) (ns : List Int) (v : V) (M : Mod) (N : Nat), vs = [.ref p, .int 4, v, .int 6] ∧ SqL K H p (iv ns) ∧ ns.length < 100000000 ∧ MR H v M ∧ Sh M N ∧ N ≤ 20 ∧
  ∀ D H' rs, Same H H' → H D = none → NewD H H' (fun G => Row G (.ref D) rs) → rs.length ≤ 20 → (∀ r ∈ rs, RowOk M N r) → Q (.ref D) H'
theorem c__law_row (T : Txt P K mg) : Cal P w K mg base 3 "_law_row" (spRowM K) := by
  have S : FnScope ["_law_script", "_law_place", "_law_model_here", "_law_most", "_law_source_here", "_law_row_here", "_law_further", "_law_extra", "_law_turn"] ["_law_script", "_law_place", "_law_model_here", "_law_most"] (defScope (top 50)) := ⟨rfl, rfl, rfl, by decide +kernel, rfl, by decide +kernel, by decide +kernel⟩
  refine T.d__law_row.cal S (fun _ _ _ _ _ _ us hl => match us, hl with | [_, _, _, _], _ => rfl) (fun vs H Q E ⟨_, _, _, _, _, e, _⟩ => by rw [e]; rfl) fun f cdv A0 outer s H vs Q E hr ⟨p, ns, v, M, N, e, hp, hnl, hm, sh, hN, h⟩ => ?_
  subst e
  refine ⟨_, (pss_cons (ps_set (i := 4) S.nd rfl (Or.inr rfl) (pe_c (c__law_source T) hr (by decide) (by rfl) (pa_cons (pv 0) (pa_cons (pv 1) pa_nil))))
      (pss_cons (ps_setLc (i := 5) (own := [("_law_turn", 8)]) (by rfl) S.nd rfl rfl (sw_true rfl rfl rfl (by decide +kernel)) (pi_range1 (by rfl) T.b_range (pa_cons (pe_c (c__law_draw T) hr (by decide) (by rfl) (pa_cons (pv 4) (pa_cons (pe_op op_add (pv 3) pe_int) pa_nil))) pa_nil)) (blkOk_by (own := [("_law_turn", 8)]) (by kernel_rfl)) (fun _ _ _ _ _ => (pg_name (i := 8) S.nd rfl (Or.inl rfl))) (fun _ _ _ _ _ => pts_nil) (fun _ _ _ _ _ => (pe_tup (pa_cons (pe_c (c__law_version T) hr (by decide) (by rfl) (pa_cons (pv 4) (pa_cons (pv 2) pa_nil))) (pa_cons (pe_c (c__law_count T) hr (by decide) (by rfl) (pa_cons (pv 4) pa_nil)) pa_nil)))))
      (pss_cons (ps_for PassesOwn.never rfl (pi_range2 (by rfl) T.b_range (pa_cons (pe_op op_add (pv 1) pe_int) (pa_cons (pe_callB (k_min2 rfl) (by rfl) T.b_min (by decide +kernel) (pa_cons (pe_callB (k_lenK (K := K) rfl) (by rfl) T.b_len (by decide +kernel) (pa_cons (pv 0) pa_nil)) (pa_cons (pe_op op_add (pv 1) pe_int) pa_nil))) pa_nil))) (pg_name (i := 6) S.nd rfl (Or.inl rfl)) (pss_cons (ps_set (i := 7) S.nd rfl (Or.inl rfl) (pe_c (c__law_source T) hr (by decide) (by rfl) (pa_cons (pv 0) (pa_cons (pv 6) pa_nil))))
      (pss_one (ps_expr (pe_appK (K := K) rfl (pv 5) (pa_cons (pe_tup (pa_cons (pe_c (c__law_version T) hr (by decide) (by rfl) (pa_cons (pv 7) (pa_cons (pv 2) pa_nil))) (pa_cons (pe_c (c__law_count T) hr (by decide) (by rfl) (pa_cons (pv 7) pa_nil)) pa_nil))) pa_nil))))))
      (pss_one (ps_ret (pv 5)))))), ?_⟩
  walk_at "rd"
  refine ⟨p, ns, 4, rfl, hp, by decide, hnl, fun S1 H1 s1 hS1 hs1 => ?_⟩
  walk_at "rd"
  refine ⟨S1, 6 + 1, 0, rfl, hs1, by omega, by omega, by omega, fun r H2 r0 r1 s2 hs2 => ?_⟩
  have s02 : Same H H2 := fun b o e => at_draw s2 (ne_of_none e hS1) (s1 _ _ e)
  walk_at "rd"
  refine rg1N r.toNat (by omega) (by omega) fun D hD => ?_
  have hD0 : H D = none := s02.free hD
  have hDS := hs2.ne hD
  let Z : Hp := upd (upd H S1 (.lst [])) D (.lst [])
  have zD : Z D ≠ none := by show upd _ _ _ _ ≠ none; rw [upd_same]; exact fun z => by cases z
  have zS : Z S1 ≠ none := by show upd _ _ _ _ ≠ none; exact upd_none (by rw [upd_same]; exact fun z => by cases z)
  have zH : ∀ b, Z b ≠ none → H b ≠ none ∨ b = S1 ∨ b = D := fun b hb => by
    by_cases c1 : b = D
    · exact .inr (.inr c1)
    · by_cases c2 : b = S1
      · exact .inr (.inl c2)
      · left
        have : Z b = H b := by show upd _ _ _ _ = _; rw [upd_ne c1, upd_ne c2]
        rwa [this] at hb
  refine lc_range (fun i H' => Same H H' ∧ Src S1 H' (1 + 30 * i) ∧ ∃ ys rs, H' D = some (.lst ys) ∧ F2 (fun y r => Rq (rmH Z H') y r) ys rs ∧ rs.length = i ∧ ∀ r ∈ rs, RowOk M N r) ⟨s02.trans (Same.new hD), src_upd hs2 hDS, [], [], upd_same .., .nil, rfl, by simp⟩ (fun i Hc hi ⟨sc, hsc, ys, rs, k1, k2, k3, k4⟩ => ?_) fun H3 ⟨s3, hs3, ys, rs, k1, k2, k3, k4⟩ => ?_
  · have zd : ∀ b, Z b ≠ none → Hc b ≠ none := fun b hb => by
      rcases zH b hb with z | z | z
      · obtain ⟨o, ho⟩ := Option.ne_none_iff_exists'.mp z
        rw [sc _ _ ho]; exact fun q => by cases q
      · rw [z]; exact src_ne hsc
      · rw [z, k1]; exact fun q => by cases q
    walk_at "rd"
    refine ⟨rfl, ?_⟩
    walk_at "rd"
    refine ⟨S1, 1 + 30 * i, v, M, N, rfl, hsc, by omega, m_MR _ _ _ _ (rm_of sc fun x hx => by rw [List.mem_singleton.mp hx]; exact hS1) hm, sh, fun a xs H4 s4 hs4 ha0 ha hv hl => ?_⟩
    walk_at "rd"
    refine ⟨S1, 1 + 30 * i + N, rfl, hs4, by omega, fun c H5 c1 c2 s5 hs5 => ?_⟩
    walk_at "rd"
    refine ⟨ll (by simp), fun t ht => ?_⟩
    obtain ⟨q1, q2, q3, q4, q5, q6⟩ := item_facts (Z := Z) (M := M) hsc hN zS zd s4 hs4 ha0 ha hv hl c1 c2 s5 hs5 ht
    generalize upd H5 t (.tup [.ref a, .int c]) = H' at *
    have e1 := at_draw q1 hDS k1
    refine ⟨ys, e1, by rw [line, k2.length]; omega, Same.upd (fun b o e => at_draw q1 (ne_of_none e hS1) (sc _ _ e)) hD0, src_upd (q3.le (by omega)) hDS, ys ++ [.ref t], rs ++ [(xs, c)], upd_same .., ?_, by simp [k3], fun x hx => ?_⟩
    · exact F2.snoc (k2.imp fun _ _ _ q => m_Rq _ _ _ _ (q2.trans (rmH_upd zD)) q) (m_Rq _ _ _ _ (rmH_upd zD) q4)
    · rcases List.mem_append.mp hx with z | z
      · exact k4 x z
      · rw [List.mem_singleton.mp z]; exact q5
  let ZD : Hp := upd H D (.lst [])
  have zzD : ZD D ≠ none := by show upd _ _ _ _ ≠ none; rw [upd_same]; exact fun z => by cases z
  have less : ∀ b, ZD b ≠ none → Z b ≠ none := fun b hb => by
    by_cases c1 : b = D
    · rw [c1]; exact zD
    · have e1 : ZD b = H b := upd_ne c1
      rw [e1] at hb
      show upd _ _ _ _ ≠ none
      rw [upd_ne c1]
      exact upd_none hb
  have zdH : ∀ b, ZD b ≠ none → H b ≠ none ∨ b = D := fun b hb => by
    by_cases c1 : b = D
    · exact .inr c1
    · have e1 : ZD b = H b := upd_ne c1
      rw [e1] at hb
      exact .inl hb
  walk_at "rd"
  refine rd_for ?_
  walk_at "rd"
  refine rd_lenL (s3.seq hp) ?_
  walk_at "rd"
  have el : (iv ns).length = ns.length := by simp
  rw [el]
  refine rg2Z (by omega) (by omega) ?_
  refine for_range (fun i σ H' => ∃ (x y : Option V) (ys : List V) (rs : List (List Int × Int)), σ = [some (.ref p), some (.int 4), some v, some (.int 6), some (.ref S1), some (.ref D), x, y, none] ∧ Same H H' ∧ H' D = some (.lst ys) ∧ F2 (fun y r => Rq (rmH ZD H') y r) ys rs ∧ rs.length ≤ 7 + i ∧ ∀ r ∈ rs, RowOk M N r)
    ⟨_, _, ys, rs, rfl, s3, k1, k2.imp fun _ _ _ q => m_Rq _ _ _ _ (rmH_less less) q, by omega, k4⟩ ?_ ?_
  · rintro i σ H' hi ⟨x0, y0, ys, rs, rfl, s4, k1, k2, k3, k4⟩
    have hi12 : i < 12 := by omega
    walk_at "rd"
    have e5 : (4 : Int) + 1 + (i : Int) = ((5 + i : Nat) : Int) := by omega
    rw [e5]
    refine ⟨p, ns, 5 + i, rfl, s4.seq hp, by omega, hnl, fun S2 H5 s5 hS2 hs5 => ?_⟩
    have hD5 := s5 _ _ k1
    have hDS2 : D ≠ S2 := fun z => by rw [z, hS2] at k1; cases k1
    have hS2H : H S2 = none := s4.free hS2
    walk_at "rd"
    refine rd_tyL hD5 ?_
    walk_at "rd"
    let Z2 : Hp := upd ZD S2 (.lst [])
    have z2S : Z2 S2 ≠ none := by show upd _ _ _ _ ≠ none; rw [upd_same]; exact fun z => by cases z
    have z2D : Z2 D ≠ none := upd_none zzD
    have s45 := s4.trans s5
    have zd2 : ∀ b, Z2 b ≠ none → H5 b ≠ none := fun b hb => by
      by_cases c2 : b = S2
      · rw [c2]; exact src_ne hs5
      · have e1 : Z2 b = ZD b := upd_ne c2
        rw [e1] at hb
        rcases zdH b hb with z | z
        · obtain ⟨o, ho⟩ := Option.ne_none_iff_exists'.mp z
          rw [s45 _ _ ho]; exact fun q => by cases q
        · rw [z, hD5]; exact fun q => by cases q
    refine ⟨S2, 0, v, M, N, rfl, hs5, by omega, m_MR _ _ _ _ (rm_of s45 fun x hx => by rw [List.mem_singleton.mp hx]; exact hS2H) hm, sh, fun a xs H7 s7 hs7 ha0 ha hv hl => ?_⟩
    walk_at "rd"
    refine ⟨S2, 0 + N, rfl, hs7, by omega, fun c H8 c1 c2 s8 hs8 => ?_⟩
    walk_at "rd"
    refine ⟨ll (by simp), fun t ht => ?_⟩
    obtain ⟨q1, q2, q3, q4, q5, q6⟩ := item_facts (Z := Z2) (M := M) hs5 hN z2S zd2 s7 hs7 ha0 ha hv hl c1 c2 s8 hs8 ht
    walk_at "rd"
    generalize upd H8 t (.tup [.ref a, .int c]) = H6 at *
    have e1 := at_draw q1 hDS2 hD5
    have l2 : ∀ b, ZD b ≠ none → Z2 b ≠ none := fun b hb => upd_none hb
    refine rd_push e1 (by rw [k2.length]; omega) ?_
    refine ⟨_, _, ys ++ [.ref t], rs ++ [(xs, c)], rfl, Same.upd (fun b o e => at_draw q1 (ne_of_none e hS2H) (s45 _ _ e)) hD0, upd_same .., ?_, by simp; omega, fun x hx => ?_⟩
    · refine F2.snoc (k2.imp fun _ _ _ q => ?_) ?_
      · exact m_Rq _ _ _ _ (((rmH_new hS2 s5).trans (q2.trans (rmH_upd z2D))).trans (rmH_less l2)) q
      · exact m_Rq _ _ _ _ ((rmH_upd z2D).trans (rmH_less l2)) q4
    · rcases List.mem_append.mp hx with z | z
      · exact k4 x z
      · rw [List.mem_singleton.mp z]; exact q5
  · rintro σ H' ⟨x0, y0, ys, rs, rfl, s4, k1, k2, k3, k4⟩
    walk_at "rd"
    refine h D H' rs s4 hD0 ⟨rmH H H', rmH_same _ _, fun b hb => rmH_in hb, D, ys, rfl, by rw [rmH_at hD0]; exact k1, k2.imp fun _ _ _ q => m_Rq _ _ _ _ (rmH_less fun b hb => upd_none hb) q⟩ (by omega) k4
end
end LK
set_option maxHeartbeats 4000000
namespace LK
open PySem PySem.Spec PyProof.Rows L2
local macro_rules | `(tactic| walk_at "rd") => `(tactic| (repeat (first
  | with_reducible refine rd_seq ?_
  | with_reducible refine rd_asg ?_
  | with_reducible refine rd_ret ?_
  | with_reducible refine rd_drop ?_
  | with_reducible refine rd_if ?_
  | with_reducible refine rd_next ?_
  | ((with_reducible apply rd_var); (· exact rfl))
  | with_reducible refine rd_c ?_
  | with_reducible refine rd_op ?_
  | with_reducible refine rd_un ?_
  | with_reducible refine rd_I0 ?_
  | with_reducible refine rd_U ?_
  | with_reducible refine rd_eq ?_
  | with_reducible refine rd_ne ?_
  | with_reducible refine rd_neB ?_
  | with_reducible refine rd_asB ?_
  | with_reducible refine rd_test ?_
  | with_reducible refine rd_tB ?_
  | with_reducible refine rd_not ?_
  | with_reducible refine rd_and ?_
  | with_reducible refine rd_or ?_
  | with_reducible refine rd_andV ?_
  | with_reducible refine rd_orV ?_
  | with_reducible refine rd_notV ?_
  | with_reducible refine rd_ifx ?_
  | with_reducible refine rd_chain ?_
  | with_reducible refine rd_nil ?_
  | with_reducible refine rd_cons ?_
  | with_reducible refine rd_call ?_
  | with_reducible refine rd_cb ?_
  | with_reducible refine rd_lst ?_
  | with_reducible refine rd_tup ?_
  | with_reducible refine rd_min ?_
  | with_reducible refine rd_max ?_
  | with_reducible refine rd_abs ?_
  | with_reducible refine rd_int ?_
  | with_reducible refine rd_bm ?_
  | with_reducible refine rd_nt ?_
  | with_reducible refine rd_nf ?_
  | with_reducible refine rd_rg3 ?_
  | with_reducible refine rd_gnil ?_
  | with_reducible refine rd_gcons ?_
  | with_reducible refine rd_yes ?_
  | with_reducible refine rd_tt ?_
  | with_reducible refine rd_ff ?_
  | with_reducible refine rd_fld ?_
  | with_reducible refine rd_meth ?_
  | with_reducible refine rd_rev ?_
  | with_reducible refine rd_callN ?_
  | with_reducible refine rd_rg1 ?_
  | with_reducible refine rd_rg2 ?_
  | with_reducible refine rd_nm ?_
  | with_reducible refine rd_lc ?_
  | with_reducible refine rd_iL' ?_
  | with_reducible refine rd_iT' ?_)))
local macro_rules | `(tactic| walk_at "hp") => `(tactic| (first
  | assumption
  | exact upd_same ..
  | (refine keep_upd (by assumption) ?_; walk_at "hp")
  | (refine same_app (by assumption) ?_; walk_at "hp")))


/-- a price handed: one number, or a list -/
def Hd (H : Hp) (v : V) : Sum Int (List Int) → Prop
  | .inl k => v = .int k
  | .inr ps => IL H v ps
theorem m_Hd : Mono Hd := fun H H' v d s h => by
  cases d with
  | inl k => exact h
  | inr ps => exact m_IL _ _ _ _ s h
def HdOk : Sum Int (List Int) → Prop
  | .inl k => -100 ≤ k ∧ k ≤ 2 ^ 50
  | .inr ps => ps.length ≤ 30 ∧ ∀ p ∈ ps, -100 ≤ p ∧ p ≤ 2 ^ 50
theorem sev {c : Int} (h0 : 0 ≤ c) (h : c < 5) : c = 0 ∨ c = 1 ∨ c = 2 ∨ c = 3 ∨ c = 4 := by omega
section
variable {P : Program} {w : World} {K : PySem.W.Frag} {mg : Str → Option Value} {base : Heap}
def spStrange : Sp := fun vs H Q _ => ∃ (S : Addr) (n : Nat) (v : V) (M : Mod) (N : Nat), vs = [.ref S, v] ∧ Src S H n ∧ n < 500000 ∧ MR (rm [S] H) v M ∧ Sh M N ∧ N ≤ 20 ∧
  ∀ a xs H', Same (rm [S] H) H' → Src S H' (n + 40) → H a = none → H' a = some (.tup (iv xs)) → xs.length ≤ 20 → Q (.ref a) H'
theorem c__law_strange (T : Txt P K mg) : Cal P w K mg base 2 "_law_strange" spStrange := by
  have S : FnScope ["_law_source_here", "_law_model_here", "_law_many", "_law_kind", "_law_number"] ["_law_source_here", "_law_model_here"] (defScope (top 58)) := ⟨rfl, rfl, rfl, by decide +kernel, rfl, by decide +kernel, by decide +kernel⟩
  refine T.d__law_strange.cal S (fun _ _ _ _ _ _ us hl => match us, hl with | [_, _], _ => rfl) (fun vs H Q E ⟨_, _, _, _, _, e, _⟩ => by rw [e]; rfl) fun f cdv A0 outer s H vs Q E hr ⟨p, n, v, M, N, e, hs, hn, ⟨A, ev, hm⟩, sh, hN, h⟩ => ?_
  subst e ev
  refine ⟨_, (pss_cons (ps_set (i := 2) S.nd rfl (Or.inl rfl) (pe_op op_sub (pe_callB (k_lenK (K := K) rfl) (by rfl) T.b_len (by decide +kernel) (pa_cons (pe_ix (ix_ltK (K := K) rfl) (pv 1) pe_int (fun _ _ => rfl)) pa_nil)) pe_int))
      (pss_cons (ps_set (i := 3) S.nd rfl (Or.inl rfl) (pe_c (c__law_draw T) hr (by decide) (by rfl) (pa_cons (pv 0) (pa_cons pe_int pa_nil))))
      (pss_cons (ps_if (pt_cmpR op_lt (pv 3) pe_int (nomark _)) (pss_one (ps_ret (pe_ix (ix_ltK (K := K) rfl) (pe_lst (pa_cons (pe_tup (pa_cons (pe_op op_add (pv 2) pe_int) pa_nil)) (pa_cons (pe_tup (pa_cons pe_int pa_nil)) (pa_cons (pe_tup (pa_cons pe_int (pa_cons pe_int pa_nil))) (pa_cons (pe_tup (pa_cons pe_int (pa_cons pe_int pa_nil))) (pa_cons (pe_tup (pa_cons (pe_un un_neg pe_int) pa_nil)) pa_nil)))))) (pv 3) (fun _ _ => rfl)))) pss_nil)
      (pss_one (ps_ret (pe_callTy (k_tupK (K := K) rfl) (by rfl) T.b_tuple (by decide +kernel) (pa_cons (pe_lc (own := [("_law_number", 4)]) (by rfl) S.nd (pi_range2 (by rfl) T.b_range (pa_cons pe_int (pa_cons (pe_op op_add (pv 2) pe_int) pa_nil))) (blkOk_by (own := [("_law_number", 4)]) (by kernel_rfl)) (fun _ _ _ _ _ => (pg_name (i := 4) S.nd rfl (Or.inl rfl))) (fun _ _ _ _ _ => (pts_one (pt_cmpR op_eq (pe_c (c__law_draw T) hr (by decide) (by rfl) (pa_cons (pv 0) (pa_cons pe_int pa_nil))) pe_int (nomark _)))) (fun _ _ _ _ _ => (pv 4))) pa_nil))))))), ?_⟩
  have r0 := rm_same [p] H
  obtain ⟨xs1, h1, f1⟩ := hm.h1.at_
  have l1 : (xs1.length : Int) = 1 + (N : Nat) := by rw [f1.length, sh.wr]; omega
  walk_at "rd"
  refine rd_iL (sl (r0 _ _ hm.m)) (by rfl) ?_
  walk_at "rd"
  refine rd_lenL (sl (r0 _ _ h1)) ?_
  walk_at "rd"
  rw [l1, show (1 : Int) + (N : Nat) - 1 = (N : Int) by omega]
  refine ⟨p, 8, n, rfl, hs, by omega, by omega, by omega, fun r H1 r0 r1 s1 hs1 => ?_⟩
  walk_at "rd"
  refine rd_ite (fun c5 => ?_) fun c5 => ?_
  · walk_at "rd"
    refine ⟨ll (by simp), fun t1 ht1 => ?_⟩
    have v1 : (upd H1 t1 (.tup [.int ((N : Int) + 1)])) t1 = some (.tup (iv [(N : Int) + 1])) := upd_same ..
    have s2 : Same H1 (upd H1 t1 (.tup [.int ((N : Int) + 1)])) := Same.new ht1
    generalize upd H1 t1 (.tup [.int ((N : Int) + 1)]) = H2 at *
    walk_at "rd"
    refine ⟨ll (by simp), fun t2 ht2 => ?_⟩
    have v2 : (upd H2 t2 (.tup [.int 0])) t2 = some (.tup (iv [0])) := upd_same ..
    have s3 : Same H2 (upd H2 t2 (.tup [.int 0])) := Same.new ht2
    generalize upd H2 t2 (.tup [.int 0]) = H3 at *
    walk_at "rd"
    refine ⟨ll (by simp), fun t3 ht3 => ?_⟩
    have v3 : (upd H3 t3 (.tup [.int 2, .int 1])) t3 = some (.tup (iv [2, 1])) := upd_same ..
    have s4 : Same H3 (upd H3 t3 (.tup [.int 2, .int 1])) := Same.new ht3
    generalize upd H3 t3 (.tup [.int 2, .int 1]) = H4 at *
    walk_at "rd"
    refine ⟨ll (by simp), fun t4 ht4 => ?_⟩
    have v4 : (upd H4 t4 (.tup [.int 1, .int 1])) t4 = some (.tup (iv [1, 1])) := upd_same ..
    have s5 : Same H4 (upd H4 t4 (.tup [.int 1, .int 1])) := Same.new ht4
    generalize upd H4 t4 (.tup [.int 1, .int 1]) = H5 at *
    walk_at "rd"
    refine ⟨ll (by simp), fun t5 ht5 => ?_⟩
    have v5 : (upd H5 t5 (.tup [.int (-1)])) t5 = some (.tup (iv [-1])) := upd_same ..
    have s6 : Same H5 (upd H5 t5 (.tup [.int (-1)])) := Same.new ht5
    walk_at "rd"
    generalize upd H5 t5 (.tup [.int (-1)]) = H6 at *
    refine ⟨ll (by simp), fun l hl => ?_⟩
    have s7 : Same H6 (upd H6 l (.lst [.ref t1, .ref t2, .ref t3, .ref t4, .ref t5])) := Same.new hl
    have vl : (upd H6 l (.lst [.ref t1, .ref t2, .ref t3, .ref t4, .ref t5])) l = some (.lst [.ref t1, .ref t2, .ref t3, .ref t4, .ref t5]) := upd_same ..
    generalize upd H6 l (.lst [.ref t1, .ref t2, .ref t3, .ref t4, .ref t5]) = H7 at *
    walk_at "rd"
    have c6 := s6.trans s7
    have c5' := s5.trans c6
    have c4 := s4.trans c5'
    have c3 := s3.trans c4
    have c2 := s2.trans c3
    have fr : ∀ {Hx : Hp} {a : Addr}, Same H1 Hx → Hx a = none → H a = none := fun {Hx a} sx ha => by
      have h1 := sx.free ha
      exact free_draw s1 (fun z => by rw [z] at h1; exact src_ne hs1 h1) h1
    have sA : Same (rm [p] H) H7 := s1.trans c2
    have sS : Src p H7 (n + 40) := (hs1.mono c2).le (by omega)
    rcases sev r0 c5 with z | z | z | z | z <;> subst z
    · refine rd_iL (v := .ref t1) (sl vl) (by rfl) ?_
      exact h t1 _ H7 sA sS (fr (Same.refl _) ht1) (c3 _ _ v1) (by simp)
    · refine rd_iL (v := .ref t2) (sl vl) (by rfl) ?_
      exact h t2 _ H7 sA sS (fr s2 ht2) (c4 _ _ v2) (by simp)
    · refine rd_iL (v := .ref t3) (sl vl) (by rfl) ?_
      exact h t3 _ H7 sA sS (fr (s2.trans s3) ht3) (c5' _ _ v3) (by simp)
    · refine rd_iL (v := .ref t4) (sl vl) (by rfl) ?_
      exact h t4 _ H7 sA sS (fr ((s2.trans s3).trans s4) ht4) (c6 _ _ v4) (by simp)
    · refine rd_iL (v := .ref t5) (sl vl) (by rfl) ?_
      exact h t5 _ H7 sA sS (fr (((s2.trans s3).trans s4).trans s5) ht5) (s7 _ _ v5) (by simp)
  · walk_at "rd"
    refine rg2N N (by omega) (by omega) (by omega) (by omega) fun D hD => ?_
    have hDp := hs1.ne hD
    refine lc_range (fun i H' => Same (rm [p] H1) H' ∧ Src p H' (n + 1 + i) ∧ ∃ ds : List Int, H' D = some (.lst (iv ds)) ∧ ds.length ≤ i) ⟨(rm_same _ _).trans (Same.new hD), src_upd hs1 hDp, [], upd_same .., by simp⟩ (fun i Hc hi ⟨sc, hsc, ds, e1, e2⟩ => ?_) fun H2 ⟨s2, hs2, ds, hds, dsl⟩ => ?_
    · walk_at "rd"
      refine ⟨rfl, ?_⟩
      walk_at "rd"
      refine ⟨_, _, _, rfl, hsc, by omega, by omega, by omega, fun r Hd r0 r1 sd hsd => ?_⟩
      have e4 := at_draw sd hDp e1
      walk_at "rd"
      refine rd_ite (fun d => ?_) fun d => ?_
      · walk_at "rd"
        exact ⟨_, e4, by rw [line]; simp; omega, Same.upd ((rm_self sc).trans sd) (rm_none hD), src_upd hsd hDp, ds ++ [1 + (i : Int)], by rw [upd_same]; simp, by simp; omega⟩
      · exact ⟨(rm_self sc).trans sd, hsd, ds, e4, by omega⟩
    · walk_at "rd"
      refine rd_tupL (sl hds) fun a ha => ?_
      have s02 : Same (rm [p] H) H2 := (rm_self s1).trans s2
      have hap := hs2.ne ha
      refine h a ds _ (s02.trans (Same.new ha)) ((hs2.mono (Same.new ha)).le (by omega)) (free_draw s02 hap ha) (upd_same ..) (by omega)
/-! ### a wrong price -/
def spWrong : Sp := fun vs H Q _ => ∃ (S : Addr) (n : Nat) (v : V) (hd : Sum Int (List Int)), vs = [.ref S, v] ∧ Src S H n ∧ n < 500000 ∧ Hd (rm [S] H) v hd ∧ HdOk hd ∧ (∀ ps, hd = .inr ps → ps.length ≤ 20) ∧
  ∀ v' hd' H', Same (rm [S] H) H' → Src S H' (n + 20) → Hd (rm [S] H') v' hd' → HdOk hd' → Q v' H'
theorem set_iv {ps : List Int} {j : Nat} {x : Int} : (iv ps).set j (V.int x) = iv (ps.set j x) := by simp [List.map_set]
theorem mem_set_bd {ps : List Int} {j : Nat} {x A B : Int} (h : ∀ p ∈ ps, A ≤ p ∧ p ≤ B) (hx : A ≤ x ∧ x ≤ B) : ∀ p ∈ ps.set j x, A ≤ p ∧ p ≤ B := fun p hp => by
  rcases List.mem_or_eq_of_mem_set hp with z | z
  · exact h p z
  · rw [z]; exact hx
theorem cut1 (xs : List V) : cutV xs (some 1) none = xs.drop 1 := by
  unfold cutV
  have e : HT.sIx xs.length 0 (some 1) = min 1 xs.length := by
    unfold HT.sIx
    simp
    try omega
  have e2 : HT.sIx xs.length xs.length none = xs.length := by
    unfold HT.sIx
    simp
  rw [e, e2]
  cases xs with
  | nil => rfl
  | cons a r => simp [Nat.min_eq_left]
end
end LK
set_option maxHeartbeats 4000000
namespace LK
open PySem PySem.Spec PyProof.Rows L2
local macro_rules | `(tactic| walk_at "rd") => `(tactic| (repeat (first
  | with_reducible refine rd_seq ?_
  | with_reducible refine rd_asg ?_
  | with_reducible refine rd_ret ?_
  | with_reducible refine rd_drop ?_
  | with_reducible refine rd_if ?_
  | with_reducible refine rd_next ?_
  | ((with_reducible apply rd_var); (· exact rfl))
  | with_reducible refine rd_c ?_
  | with_reducible refine rd_op ?_
  | with_reducible refine rd_un ?_
  | with_reducible refine rd_I0 ?_
  | with_reducible refine rd_U ?_
  | with_reducible refine rd_eq ?_
  | with_reducible refine rd_ne ?_
  | with_reducible refine rd_neB ?_
  | with_reducible refine rd_asB ?_
  | with_reducible refine rd_test ?_
  | with_reducible refine rd_tB ?_
  | with_reducible refine rd_not ?_
  | with_reducible refine rd_and ?_
  | with_reducible refine rd_or ?_
  | with_reducible refine rd_andV ?_
  | with_reducible refine rd_orV ?_
  | with_reducible refine rd_notV ?_
  | with_reducible refine rd_ifx ?_
  | with_reducible refine rd_chain ?_
  | with_reducible refine rd_nil ?_
  | with_reducible refine rd_cons ?_
  | with_reducible refine rd_call ?_
  | with_reducible refine rd_cb ?_
  | with_reducible refine rd_lst ?_
  | with_reducible refine rd_tup ?_
  | with_reducible refine rd_min ?_
  | with_reducible refine rd_max ?_
  | with_reducible refine rd_abs ?_
  | with_reducible refine rd_int ?_
  | with_reducible refine rd_bm ?_
  | with_reducible refine rd_nt ?_
  | with_reducible refine rd_nf ?_
  | with_reducible refine rd_rg3 ?_
  | with_reducible refine rd_gnil ?_
  | with_reducible refine rd_gcons ?_
  | with_reducible refine rd_yes ?_
  | with_reducible refine rd_tt ?_
  | with_reducible refine rd_ff ?_
  | with_reducible refine rd_fld ?_
  | with_reducible refine rd_meth ?_
  | with_reducible refine rd_rev ?_
  | with_reducible refine rd_callN ?_
  | with_reducible refine rd_rg1 ?_
  | with_reducible refine rd_rg2 ?_
  | with_reducible refine rd_nm ?_
  | with_reducible refine rd_lc ?_
  | with_reducible refine rd_iL' ?_
  | with_reducible refine rd_iT' ?_)))
local macro_rules | `(tactic| walk_at "hp") => `(tactic| (first
  | assumption
  | exact upd_same ..
  | (refine keep_upd (by assumption) ?_; walk_at "hp")
  | (refine same_app (by assumption) ?_; walk_at "hp")))


theorem rd_sl {r : V → Option Int → Option Int → Hp → VK → Prop} {te : TE} {tl th : TO} {σ : L2.St} {H : Hp} {Q : VK} (h : te σ H fun x H1 => tl σ H1 fun l H2 => th σ H2 fun u H3 => r x l u H3 Q) : tSl r te tl th σ H Q := h
section
variable {P : Program} {w : World} {K : PySem.W.Frag} {mg : Str → Option Value} {base : Heap}
theorem c__law_wrong (T : Txt P K mg) : Cal P w K mg base 2 "_law_wrong" spWrong := by
  have S : FnScope ["_law_source_here", "_law_handed", "_law_told", "_law_turn", "_law_kind", "_law_place"] ["_law_source_here", "_law_handed"] (defScope (top 60)) := ⟨rfl, rfl, rfl, by decide +kernel, rfl, by decide +kernel, by decide +kernel⟩
  refine T.d__law_wrong.cal S (fun _ _ _ _ _ _ us hl => match us, hl with | [_, _], _ => rfl) (fun vs H Q E ⟨_, _, _, _, e, _⟩ => by rw [e]; rfl) fun f cdv A0 outer s H vs Q E hr ⟨p, n, v, hd, e, hs, hn, hh, ok, hl, h⟩ => ?_
  subst e
  refine ⟨_, (pss_cons (ps_if (pt_val (pe_callB (k_isiK (K := K) rfl) (by rfl) T.b_isinstance (by decide +kernel) (pa_cons (pv 1) (pa_cons (pe_bltn (v := .ty "int") (by rfl) T.b_int (by decide +kernel) rfl) pa_nil)))) (pss_one (ps_ret (pe_op op_sub (pe_c (c__law_draw T) hr (by decide) (by rfl) (pa_cons (pv 0) (pa_cons pe_int pa_nil))) pe_int))) pss_nil)
      (pss_cons (ps_set (i := 2) S.nd rfl (Or.inl rfl) (pe_callTy (k_listK (K := K) rfl) (by rfl) T.b_list (by decide +kernel) (pa_cons (pv 1) pa_nil)))
      (pss_cons (ps_for PassesOwn.never rfl (pi_range1 (by rfl) T.b_range (pa_cons (pe_c (c__law_draw T) hr (by decide) (by rfl) (pa_cons (pv 0) (pa_cons pe_int pa_nil))) pa_nil)) (pg_name (i := 3) S.nd rfl (Or.inl rfl)) (pss_one (ps_if (pt_cmpR op_gt (pe_callB (k_lenK (K := K) rfl) (by rfl) T.b_len (by decide +kernel) (pa_cons (pv 2) pa_nil)) pe_int (nomark _)) (pss_cons (ps_set (i := 5) S.nd rfl (Or.inl rfl) (pe_c (c__law_draw T) hr (by decide) (by rfl) (pa_cons (pv 0) (pa_cons (pe_callB (k_lenK (K := K) rfl) (by rfl) T.b_len (by decide +kernel) (pa_cons (pv 2) pa_nil)) pa_nil))))
      (pss_one (ps_asg (pe_op op_sub pe_int (pe_c (c__law_draw T) hr (by decide) (by rfl) (pa_cons (pv 0) (pa_cons pe_int pa_nil)))) (pg_sub (pv 2) (pv 5) set_list)))) pss_nil)))
      (pss_cons (ps_set (i := 4) S.nd rfl (Or.inl rfl) (pe_c (c__law_draw T) hr (by decide) (by rfl) (pa_cons (pv 0) (pa_cons pe_int pa_nil))))
      (pss_cons (ps_if (pt_cmpR op_eq (pv 4) pe_int (nomark _)) (pss_one (ps_expr (pe_appK (K := K) rfl (pv 2) (pa_cons (pe_op op_sub (pe_c (c__law_draw T) hr (by decide) (by rfl) (pa_cons (pv 0) (pa_cons pe_int pa_nil))) pe_int) pa_nil)))) pss_nil)
      (pss_one (ps_ret (pe_ifExp (pt_cmpR op_eq (pv 4) pe_int (nomark _)) (pe_slice (sl_listK (K := K) rfl) (pv 2) (po_some pe_int) po_none) (pv 2))))))))), ?_⟩
  cases hd with
  | inl k =>
    obtain rfl : v = .int k := hh
    walk_at "rd"
    refine is_ii ?_
    walk_at "rd"
    refine ⟨p, 5, n, rfl, hs, by omega, by omega, by omega, fun r H1 r0 r1 s1 hs1 => ?_⟩
    walk_at "rd"
    exact h _ (.inl (r - 3)) H1 s1 (hs1.le (by omega)) rfl ⟨by omega, by omega⟩
  | inr ps =>
    obtain ⟨a, rfl, ha⟩ := hh
    have pl := hl ps rfl
    have ha0 := rm_same [p] H _ _ ha
    walk_at "rd"
    refine is_li ha0 ?_
    walk_at "rd"
    refine rd_listL (sl ha0) fun D hD => ?_
    have hDp := hs.ne hD
    walk_at "rd"
    refine rd_for ?_
    walk_at "rd"
    refine ⟨p, 3, n, rfl, src_upd hs hDp, by omega, by omega, by omega, fun r H1 r0 r1 s1 hs1 => ?_⟩
    have hD1 := at_draw s1 hDp (show (upd H D (.lst (iv ps))) D = some (.lst (iv ps)) from upd_same ..)
    have s01 : Same (rm [p] H) H1 := (rm_mono (Same.new hD)).trans s1
    walk_at "rd"
    refine rg1N r.toNat (by omega) (by omega) ?_
    refine for_range (fun i σ H' => ∃ (x y : Option V) (ks : List Int), σ = [some (.ref p), some (.ref a), some (.ref D), x, none, y] ∧ Same (rm [p] H) H' ∧ Src p H' (n + 1 + 2 * i) ∧ H' D = some (.lst (iv ks)) ∧ ks.length = ps.length ∧ ∀ k ∈ ks, -100 ≤ k ∧ k ≤ 2 ^ 50) ⟨_, _, ps, rfl, s01, hs1, hD1, rfl, ok.2⟩ ?_ ?_
    · rintro i σ H' hi ⟨x0, y0, ks, rfl, s2, hs2, hk, kl, kb⟩
      have ek : ((iv ks).length : Int) = ks.length := by simp
      walk_at "rd"
      refine rd_lenL (sl hk) ?_
      walk_at "rd"
      rw [ek]
      refine rd_ite (fun c => ?_) fun c => ?_
      · walk_at "rd"
        refine rd_lenL (sl hk) ?_
        walk_at "rd"
        rw [ek]
        refine ⟨p, ks.length, n + 1 + 2 * i, rfl, hs2, by omega, by omega, by omega, fun q H3 q0 q1 s3 hs3 => ?_⟩
        walk_at "rd"
        refine rd_asgG ?_
        walk_at "rd"
        refine ⟨p, 4, n + 1 + 2 * i + 1, rfl, hs3, by omega, by omega, by omega, fun z H4 z0 z1 s4 hs4 => ?_⟩
        have hk4 := at_draw s4 hDp (at_draw s3 hDp hk)
        walk_at "rd"
        refine rd_gsub ?_
        walk_at "rd"
        refine rd_setL (j := q.toNat) hk4 (by omega) (by simp; omega) ?_
        rw [set_iv]
        exact ⟨_, _, ks.set q.toNat (0 - z), rfl, Same.upd ((rm_self ((rm_self s2).trans s3)).trans s4) (rm_none hD), (src_upd hs4 hDp).le (by omega), upd_same .., by rw [List.length_set]; exact kl, mem_set_bd kb (by omega)⟩
      · walk_at "rd"
        exact ⟨_, _, ks, rfl, s2, hs2.le (by omega), hk, kl, kb⟩
    · rintro σ H' ⟨x0, y0, ks, rfl, s2, hs2, hk, kl, kb⟩
      walk_at "rd"
      refine ⟨p, 3, _, rfl, hs2, by omega, by omega, by omega, fun q H3 q0 q1 s3 hs3 => ?_⟩
      have s03 := (rm_self s2).trans s3
      have hk3 := at_draw s3 hDp hk
      have hrn : r.toNat ≤ 2 := by omega
      walk_at "rd"
      refine rd_ite (fun c => ?_) fun c => ?_
      · walk_at "rd"
        refine rd_tyL hk3 ?_
        walk_at "rd"
        refine ⟨p, 7, _, rfl, hs3, by omega, by omega, by omega, fun z H4 z0 z1 s4 hs4 => ?_⟩
        have hk4 := at_draw s4 hDp hk3
        walk_at "rd"
        refine rd_push hk4 (by simp; omega) ?_
        have hk5 : (upd H4 D (.lst (iv ks ++ [.int (z - 3)]))) D = some (.lst (iv (ks ++ [z - 3]))) := by rw [upd_same]; simp
        have s04 : Same (rm [p] H) (upd H4 D (.lst (iv ks ++ [.int (z - 3)]))) := Same.upd ((rm_self s03).trans s4) (rm_none hD)
        have hs5 := src_upd (o := .lst (iv ks ++ [.int (z - 3)])) hs4 hDp
        generalize upd H4 D (.lst (iv ks ++ [.int (z - 3)])) = H5 at *
        walk_at "rd"
        refine rd_iteF' (by omega) ?_
        walk_at "rd"
        refine h _ (.inr (ks ++ [z - 3])) H5 s04 (hs5.le (by omega)) ⟨D, rfl, by rw [rm_at (by simpa using hDp)]; exact hk5⟩ ⟨by simp; omega, fun y hy => ?_⟩
        rcases List.mem_append.mp hy with y1 | y1
        · exact kb y y1
        · have := List.mem_singleton.mp y1; omega
      · walk_at "rd"
        refine rd_ite (fun c2 => ?_) fun c2 => ?_
        · refine rd_sl ?_
          walk_at "rd"
          refine ⟨1, rfl, ?_⟩
          refine rd_slL (sl hk3) fun D2 hD2 => ?_
          have e9 : cutV (iv ks) (some 1) none = iv (ks.drop 1) := by rw [cut1]; simp
          rw [e9]
          have hD2p := hs3.ne hD2
          refine h _ (.inr (ks.drop 1)) _ (s03.trans (Same.new hD2)) ((hs3.mono (Same.new hD2)).le (by omega)) ⟨D2, rfl, by rw [rm_at (by simpa using hD2p)]; exact upd_same ..⟩ ⟨by simp; omega, fun y hy => kb y (List.mem_of_mem_drop hy)⟩
        · walk_at "rd"
          exact h _ (.inr ks) H3 s03 (hs3.le (by omega)) ⟨D, rfl, by rw [rm_at (by simpa using hDp)]; exact hk3⟩ ⟨by omega, kb⟩
/-! ### what is due -/
inductive Du where
  | h (xs : List Int)
  | i (k n : Int)
  | no
def DuAt (H : Hp) (v : V) : Du → Prop
  | .h xs => ∃ a u, v = .ref a ∧ H a = some (.lst [.int 1, u]) ∧ IT H u xs
  | .i k n => ∃ a, v = .ref a ∧ H a = some (.lst [.int k, .int n])
  | .no => ∃ a, v = .ref a ∧ H a = some (.lst [])
theorem m_Du : Mono DuAt := fun H H' v d s h => by
  cases d with
  | h xs =>
    obtain ⟨a, u, e, h1, h2⟩ := h
    exact ⟨a, u, e, s _ _ h1, m_IT _ _ _ _ s h2⟩
  | i k n =>
    obtain ⟨a, e, h1⟩ := h
    exact ⟨a, e, s _ _ h1⟩
  | no =>
    obtain ⟨a, e, h1⟩ := h
    exact ⟨a, e, s _ _ h1⟩
def badR (M : Mod) (N : Nat) (r : List Int × Int) : Bool := !isV M N r.1 || decide (r.2 < 1)
def dueP (N : Nat) : Sum Int (List Int) → Du
  | .inl k => if k < 1 then .i 3 k else .no
  | .inr ps => if ps.length ≠ N then .i 3 ps.length else match ps.find? (fun p => decide (p < 1)) with | some p => .i 3 p | none => .no
def dueF (M : Mod) (N : Nat) (home : List Int) (rs : List (List Int × Int)) (g : Int) (hd : Sum Int (List Int)) : Du :=
  if isV M N home = false then .h home else match rs.findIdx? (badR M N) with
    | some i => .i 2 i
    | none => if g < 1 then .i 3 g else dueP N hd
theorem Eqv.du {H : Hp} {k : Nat} {u v : V} {d : Du} (hl : ∀ xs, d = .h xs → xs.length < 100000) (h1 : DuAt H u d) (h2 : DuAt H v d) : Eqv H (k + 2) u v := by
  cases d with
  | h xs =>
    obtain ⟨a, x, rfl, ha, hx⟩ := h1
    obtain ⟨b, y, rfl, hb, hy⟩ := h2
    refine .lst ha hb rfl (by simp) fun i p q hp hq => ?_
    match i with
    | 0 => simp at hp hq; subst hp hq; exact .int _
    | 1 => simp at hp hq; subst hp hq; exact .it (hl xs rfl) hx hy
    | i + 2 => simp at hp
  | i k' n =>
    obtain ⟨a, rfl, ha⟩ := h1
    obtain ⟨b, rfl, hb⟩ := h2
    exact .lst ha hb rfl (by simp) (Eqv.ints (ns := [k', n]))
  | no =>
    obtain ⟨a, rfl, ha⟩ := h1
    obtain ⟨b, rfl, hb⟩ := h2
    exact .lst ha hb rfl (by simp) (Eqv.ints (ns := []))
end
end LK
set_option maxHeartbeats 4000000
namespace LK
open PySem PySem.Spec PyProof.Rows L2
local macro_rules | `(tactic| walk_at "rd") => `(tactic| (repeat (first
  | with_reducible refine rd_seq ?_
  | with_reducible refine rd_asg ?_
  | with_reducible refine rd_ret ?_
  | with_reducible refine rd_drop ?_
  | with_reducible refine rd_if ?_
  | with_reducible refine rd_next ?_
  | ((with_reducible apply rd_var); (· exact rfl))
  | with_reducible refine rd_c ?_
  | with_reducible refine rd_op ?_
  | with_reducible refine rd_un ?_
  | with_reducible refine rd_I0 ?_
  | with_reducible refine rd_U ?_
  | with_reducible refine rd_eq ?_
  | with_reducible refine rd_ne ?_
  | with_reducible refine rd_neB ?_
  | with_reducible refine rd_asB ?_
  | with_reducible refine rd_test ?_
  | with_reducible refine rd_tB ?_
  | with_reducible refine rd_not ?_
  | with_reducible refine rd_and ?_
  | with_reducible refine rd_or ?_
  | with_reducible refine rd_andV ?_
  | with_reducible refine rd_orV ?_
  | with_reducible refine rd_notV ?_
  | with_reducible refine rd_ifx ?_
  | with_reducible refine rd_chain ?_
  | with_reducible refine rd_nil ?_
  | with_reducible refine rd_cons ?_
  | with_reducible refine rd_call ?_
  | with_reducible refine rd_cb ?_
  | with_reducible refine rd_lst ?_
  | with_reducible refine rd_tup ?_
  | with_reducible refine rd_min ?_
  | with_reducible refine rd_max ?_
  | with_reducible refine rd_abs ?_
  | with_reducible refine rd_int ?_
  | with_reducible refine rd_bm ?_
  | with_reducible refine rd_nt ?_
  | with_reducible refine rd_nf ?_
  | with_reducible refine rd_rg3 ?_
  | with_reducible refine rd_gnil ?_
  | with_reducible refine rd_gcons ?_
  | with_reducible refine rd_yes ?_
  | with_reducible refine rd_tt ?_
  | with_reducible refine rd_ff ?_
  | with_reducible refine rd_fld ?_
  | with_reducible refine rd_meth ?_
  | with_reducible refine rd_rev ?_
  | with_reducible refine rd_callN ?_
  | with_reducible refine rd_rg1 ?_
  | with_reducible refine rd_rg2 ?_
  | with_reducible refine rd_nm ?_
  | with_reducible refine rd_lc ?_
  | with_reducible refine rd_iL' ?_
  | with_reducible refine rd_iT' ?_)))
local macro_rules | `(tactic| walk_at "hp") => `(tactic| (first
  | assumption
  | exact upd_same ..
  | (refine keep_upd (by assumption) ?_; walk_at "hp")
  | (refine same_app (by assumption) ?_; walk_at "hp")))


theorem findIdx_none {α : Type} {f : α → Bool} {xs : List α} (h : ∀ (i : Nat) x, xs[i]? = some x → f x = false) : xs.findIdx? f = none := by
  rw [List.findIdx?_eq_none_iff]
  intro x hx
  obtain ⟨i, hi⟩ := List.mem_iff_getElem?.mp hx
  exact h i x hi
theorem findIdx_at {α : Type} {f : α → Bool} : ∀ {xs : List α} {i : Nat} {x : α}, (∀ j y, j < i → xs[j]? = some y → f y = false) → xs[i]? = some x → f x = true → xs.findIdx? f = some i
  | [], i, x, _, h, _ => by simp at h
  | y :: ys, 0, x, _, h, hx => by
    simp at h; subst h
    simp [List.findIdx?_cons, hx]
  | y :: ys, i + 1, x, h, hi, hx => by
    have h0 : f y = false := h 0 y (by omega) rfl
    have ih := findIdx_at (f := f) (xs := ys) (i := i) (x := x) (fun j z hj hz => h (j + 1) z (by omega) (by simpa using hz)) (by simpa using hi) hx
    simp [List.findIdx?_cons, h0, ih]
theorem find_at {f : Int → Bool} : ∀ {xs : List Int} {i : Nat} {x : Int}, (∀ j y, j < i → xs[j]? = some y → f y = false) → xs[i]? = some x → f x = true → xs.find? f = some x
  | [], i, x, _, h, _ => by simp at h
  | y :: ys, 0, x, _, h, hx => by
    simp at h; subst h
    simp [List.find?_cons, hx]
  | y :: ys, i + 1, x, h, hi, hx => by
    have h0 : f y = false := h 0 y (by omega) rfl
    have ih := find_at (f := f) (xs := ys) (i := i) (x := x) (fun j z hj hz => h (j + 1) z (by omega) (by simpa using hz)) (by simpa using hi) hx
    simp [List.find?_cons, h0, ih]
theorem find_none' {f : Int → Bool} {xs : List Int} (h : ∀ (i : Nat) x, xs[i]? = some x → f x = false) : xs.find? f = none := by
  rw [List.find?_eq_none]
  intro x hx
  obtain ⟨i, hi⟩ := List.mem_iff_getElem?.mp hx
  simp [h i x hi]
section
variable {P : Program} {w : World} {K : PySem.W.Frag} {mg : Str → Option Value} {base : Heap}
def spDue : Sp := fun vs H Q _ => ∃ (v vh vr vp : V) (M : Mod) (N : Nat) (home : List Int) (rs : List (List Int × Int)) (g : Int) (hd : Sum Int (List Int)), vs = [v, vh, vr, .int g, vp] ∧ MR H v M ∧ Sh M N ∧ IT H vh home ∧ home.length < 1000 ∧ Row H vr rs ∧ rs.length < 1000 ∧ (∀ r ∈ rs, r.1.length < 1000) ∧ Hd H vp hd ∧
  ∀ v' H', Same H H' → DuAt H' v' (dueF M N home rs g hd) → Q v' H'
theorem c__law_due (T : Txt P K mg) : Cal P w K mg base 3 "_law_due" spDue := by
  have S : FnScope ["_law_model_here", "_law_home", "_law_row_here", "_law_gaze", "_law_handed", "_law_place", "_law_price"] ["_law_model_here", "_law_home", "_law_row_here", "_law_gaze", "_law_handed"] (defScope (top 61)) := ⟨rfl, rfl, rfl, by decide +kernel, rfl, by decide +kernel, by decide +kernel⟩
  refine T.d__law_due.cal S (fun _ _ _ _ _ _ us hl => match us, hl with | [_, _, _, _, _], _ => rfl) (fun vs H Q E ⟨_, _, _, _, _, _, _, _, _, _, e, _⟩ => by rw [e]; rfl) fun f cdv A0 outer s H vs Q E hr ⟨v, vh, vr, vp, M, N, home, rs, g, hd, e, hm, sh, hh, hhl, ⟨ar, xr, er, hra, fr⟩, rl, rv, hdd, h⟩ => ?_
  subst e er
  refine ⟨_, (pss_cons (ps_if (pt_not (pt_val (pe_c (c__law_is_version T) hr (by decide) (by rfl) (pa_cons (pv 0) (pa_cons (pv 1) pa_nil))))) (pss_one (ps_ret (pe_lst (pa_cons pe_int (pa_cons (pv 1) pa_nil))))) pss_nil)
      (pss_cons (ps_for PassesOwn.never rfl (pi_range1 (by rfl) T.b_range (pa_cons (pe_callB (k_lenK (K := K) rfl) (by rfl) T.b_len (by decide +kernel) (pa_cons (pv 2) pa_nil)) pa_nil)) (pg_name (i := 5) S.nd rfl (Or.inl rfl)) (pss_one (ps_if (PW.pt (pw_or (pt_not (pt_val (pe_c (c__law_is_version T) hr (by decide) (by rfl) (pa_cons (pv 0) (pa_cons (pe_ix (ix_ltK (K := K) rfl) (pe_ix (ix_ltK (K := K) rfl) (pv 2) (pv 5) (fun _ _ => rfl)) pe_int (fun _ _ => rfl)) pa_nil))))) (pw_or1 (pt_cmpR op_lt (pe_ix (ix_ltK (K := K) rfl) (pe_ix (ix_ltK (K := K) rfl) (pv 2) (pv 5) (fun _ _ => rfl)) pe_int (fun _ _ => rfl)) pe_int (nomark _))))) (pss_one (ps_ret (pe_lst (pa_cons pe_int (pa_cons (pv 5) pa_nil))))) pss_nil)))
      (pss_cons (ps_if (pt_cmpR op_lt (pv 3) pe_int (nomark _)) (pss_one (ps_ret (pe_lst (pa_cons pe_int (pa_cons (pv 3) pa_nil))))) pss_nil)
      (pss_cons (ps_if (pt_val (pe_callB (k_isiK (K := K) rfl) (by rfl) T.b_isinstance (by decide +kernel) (pa_cons (pv 4) (pa_cons (pe_bltn (v := .ty "int") (by rfl) T.b_int (by decide +kernel) rfl) pa_nil)))) (pss_one (ps_ret (pe_ifExp (pt_cmpR op_lt (pv 4) pe_int (nomark _)) (pe_lst (pa_cons pe_int (pa_cons (pv 4) pa_nil))) (pe_lst pa_nil)))) pss_nil)
      (pss_cons (ps_if (pt_cmpR op_ne (pe_callB (k_lenK (K := K) rfl) (by rfl) T.b_len (by decide +kernel) (pa_cons (pv 4) pa_nil)) (pe_op op_sub (pe_callB (k_lenK (K := K) rfl) (by rfl) T.b_len (by decide +kernel) (pa_cons (pe_ix (ix_ltK (K := K) rfl) (pv 0) pe_int (fun _ _ => rfl)) pa_nil)) pe_int) (nomark _)) (pss_one (ps_ret (pe_lst (pa_cons pe_int (pa_cons (pe_callB (k_lenK (K := K) rfl) (by rfl) T.b_len (by decide +kernel) (pa_cons (pv 4) pa_nil)) pa_nil))))) pss_nil)
      (pss_cons (ps_for PassesOwn.never rfl (pi_listK (K := K) rfl (pv 4)) (pg_name (i := 6) S.nd rfl (Or.inl rfl)) (pss_one (ps_if (pt_cmpR op_lt (pv 6) pe_int (nomark _)) (pss_one (ps_ret (pe_lst (pa_cons pe_int (pa_cons (pv 6) pa_nil))))) pss_nil)))
      (pss_one (ps_ret (pe_lst pa_nil))))))))), ?_⟩
  walk_at "rd"
  refine ⟨v, vh, M, N, home, rfl, hm, sh, hh, hhl, fun H1 s1 => ?_⟩
  cases cv : isV M N home with
  | false =>
    walk_at "rd"
    refine ⟨ll (by simp), fun q hq => ?_⟩
    refine h _ _ (s1.trans (Same.new hq)) ?_
    have e : dueF M N home rs g hd = .h home := by unfold dueF; rw [if_pos cv]
    rw [e]
    exact ⟨q, vh, rfl, upd_same .., m_IT _ _ _ _ (s1.trans (Same.new hq)) hh⟩
  | true =>
  have e1 : dueF M N home rs g hd = match rs.findIdx? (badR M N) with
    | some i => .i 2 i
    | none => if g < 1 then .i 3 g else dueP N hd := by unfold dueF; rw [if_neg (by rw [cv]; exact fun z => by cases z)] <;> rfl
  walk_at "rd"
  refine rd_for ?_
  walk_at "rd"
  refine rd_lenL (sl (s1 _ _ hra)) ?_
  walk_at "rd"
  refine rg1N rs.length (by rw [fr.length]) (by omega) ?_
  refine for_range (fun i σ H' => ∃ x : Option V, σ = [some v, some vh, some (.ref ar), some (.int g), some vp, x, none] ∧ Same H H' ∧ ∀ j y, j < i → rs[j]? = some y → badR M N y = false) ⟨_, rfl, s1, fun j y hj => by omega⟩ ?_ ?_
  · rintro i σ H' hi ⟨x0, rfl, s2, hb⟩
    have ei : (0 : Int) + (i : Int) = ((i : Nat) : Int) := by omega
    have hri : rs[i]? = some rs[i] := List.getElem?_eq_getElem hi
    generalize rs[i] = r at hri
    obtain ⟨vq, evq, a', b', rfl, hq1, hq2⟩ := fr.getR hri
    walk_at "rd"
    rw [ei]
    refine rd_iL (sl (s2 _ _ hra)) (atI_nat evq) ?_
    walk_at "rd"
    refine rd_iT (v := .ref b') (stp (s2 _ _ hq1)) (by rfl) ?_
    walk_at "rd"
    refine ⟨v, .ref b', M, N, r.1, rfl, m_MR _ _ _ _ s2 hm, sh, ⟨b', rfl, s2 _ _ hq2⟩, rv r (List.mem_of_getElem? hri), fun H3 s3 => ?_⟩
    have s23 := s2.trans s3
    have bad : badR M N r = true → ∀ q, H3 q = none → Q (.ref q) (upd H3 q (.lst [.int 2, .int i])) := fun z q hq => by
      refine h _ _ (s23.trans (Same.new hq)) ?_
      rw [e1, findIdx_at hb hri z]
      exact ⟨q, rfl, upd_same ..⟩
    cases cr : isV M N r.1 with
    | false =>
      walk_at "rd"
      refine ⟨ll (by simp), fun q hq => bad (by unfold badR; rw [cr]; rfl) q hq⟩
    | true =>
      walk_at "rd"
      refine rd_iL (sl (s23 _ _ hra)) (atI_nat evq) ?_
      walk_at "rd"
      refine rd_iT (v := .int r.2) (stp (s23 _ _ hq1)) (by rfl) ?_
      walk_at "rd"
      refine rd_ite (fun c => ?_) fun c => ?_
      · walk_at "rd"
        refine ⟨ll (by simp), fun q hq => bad (by unfold badR; rw [decide_eq_true c]; simp) q hq⟩
      · walk_at "rd"
        refine ⟨_, rfl, s23, fun j y hj hy => ?_⟩
        by_cases z : j = i
        · subst z
          rw [hri] at hy; cases hy
          unfold badR; rw [cr, decide_eq_false c]; rfl
        · exact hb j y (by omega) hy
  rintro σ H' ⟨x0, rfl, s2, hb⟩
  have fn : rs.findIdx? (badR M N) = none := findIdx_none fun i x hx => hb i x (List.getElem?_eq_some_iff.mp hx).1 hx
  rw [fn] at e1
  walk_at "rd"
  refine rd_ite (fun c => ?_) fun c => ?_
  · walk_at "rd"
    refine ⟨ll (by simp), fun q hq => h _ _ (s2.trans (Same.new hq)) ?_⟩
    rw [e1]
    show DuAt _ _ (if g < 1 then _ else _)
    rw [if_pos c]
    exact ⟨q, rfl, upd_same ..⟩
  have e2 : dueF M N home rs g hd = dueP N hd := by
    rw [e1]
    show (if g < 1 then _ else _) = _
    rw [if_neg c]
  cases hd with
  | inl k =>
    obtain rfl : vp = .int k := hdd
    walk_at "rd"
    refine is_ii ?_
    walk_at "rd"
    refine rd_ite (fun c2 => ?_) fun c2 => ?_
    · walk_at "rd"
      refine ⟨ll (by simp), fun q hq => h _ _ (s2.trans (Same.new hq)) ?_⟩
      rw [e2]
      show DuAt _ _ (if k < 1 then _ else _)
      rw [if_pos c2]
      exact ⟨q, rfl, upd_same ..⟩
    · walk_at "rd"
      refine ⟨ll (by simp), fun q hq => h _ _ (s2.trans (Same.new hq)) ?_⟩
      rw [e2]
      show DuAt _ _ (if k < 1 then _ else _)
      rw [if_neg c2]
      exact ⟨q, rfl, upd_same ..⟩
  | inr ps =>
    obtain ⟨a, rfl, ha⟩ := hdd
    have ha2 := s2 _ _ ha
    have hm2 := m_MR _ _ _ _ s2 hm
    obtain ⟨A, rfl, hma⟩ := hm2
    obtain ⟨xs1, h1, f1⟩ := hma.h1.at_
    have l1 : (xs1.length : Int) - 1 = N := by rw [f1.length, sh.wr]; omega
    have lp : ((iv ps).length : Int) = ps.length := by simp
    walk_at "rd"
    refine is_li ha2 ?_
    walk_at "rd"
    refine rd_lenL (sl ha2) ?_
    walk_at "rd"
    refine rd_iL (sl hma.m) (by rfl) ?_
    walk_at "rd"
    refine rd_lenL (sl h1) ?_
    walk_at "rd"
    rw [l1, lp]
    refine rd_iteN (fun c2 => ?_) fun c2 => ?_
    · walk_at "rd"
      refine rd_lenL (sl ha2) ?_
      walk_at "rd"
      rw [lp]
      refine ⟨ll (by simp), fun q hq => h _ _ (s2.trans (Same.new hq)) ?_⟩
      rw [e2]
      show DuAt _ _ (if ps.length ≠ N then _ else _)
      rw [if_pos (fun z => c2 (by rw [z]))]
      exact ⟨q, rfl, upd_same ..⟩
    have e3 : dueF M N home rs g (.inr ps) = match ps.find? (fun p => decide (p < 1)) with | some p => .i 3 p | none => .no := by
      rw [e2]
      show (if ps.length ≠ N then _ else _) = _
      rw [if_neg (by omega)] <;> rfl
    walk_at "rd"
    refine rd_for ?_
    walk_at "rd"
    refine ⟨_, rfl, ⟨_, sl ha2⟩, ?_⟩
    refine for_list (xs := iv ps) (fun i σ H1 => ∃ x : Option V, σ = [some (.ref A.m), some vh, some (.ref ar), some (.int g), some (.ref a), x0, x] ∧ H1 = H' ∧ ∀ j y, j < i → ps[j]? = some y → decide (y < 1) = false) ⟨_, rfl, rfl, fun j y hj => by omega⟩ (fun i σ H1 _ ⟨_, _, e, _⟩ => e ▸ sl ha2) ?_ ?_
    · rintro i x σ H1 hx ⟨x1, rfl, rfl, hb2⟩
      obtain ⟨y, hy, rfl⟩ := F2.getI hx
      walk_at "rd"
      refine rd_ite (fun c3 => ?_) fun c3 => ?_
      · walk_at "rd"
        refine ⟨ll (by simp), fun q hq => h _ _ (s2.trans (Same.new hq)) ?_⟩
        rw [e3, find_at (f := fun p => decide (p < 1)) hb2 hy (decide_eq_true c3)]
        exact ⟨q, rfl, upd_same ..⟩
      · walk_at "rd"
        refine ⟨_, rfl, rfl, fun j z hj hz => ?_⟩
        by_cases c4 : j = i
        · subst c4
          rw [hy] at hz; cases hz
          exact decide_eq_false c3
        · exact hb2 j z (by omega) hz
    · rintro σ H1 ⟨x1, rfl, rfl, hb2⟩
      walk_at "rd"
      refine ⟨ll (by simp), fun q hq => h _ _ (s2.trans (Same.new hq)) ?_⟩
      rw [e3, find_none' (f := fun p => decide (p < 1)) fun i x hx => hb2 i x (by have := (List.getElem?_eq_some_iff.mp hx).1; simpa using this) hx]
      exact ⟨q, rfl, upd_same ..⟩
/-! ### a spoilt row -/
def RsOk (rs : List (List Int × Int)) : Prop := ∀ r ∈ rs, r.1.length ≤ 20 ∧ -10 ≤ r.2 ∧ r.2 ≤ 2 ^ 41
def spSpoil : Sp := fun vs H Q _ => ∃ (S : Addr) (n : Nat) (v vr : V) (M : Mod) (N : Nat) (rs : List (List Int × Int)), vs = [.ref S, v, vr] ∧ Src S H n ∧ n < 400000 ∧ MR (rm [S] H) v M ∧ Sh M N ∧ N ≤ 20 ∧ Row (rm [S] H) vr rs ∧ rs.length ≤ 20 ∧ RsOk rs ∧
  ∀ D H' rs', Same (rm [S] H) H' → Src S H' (n + 200) → Row (rm [S] H') (.ref D) rs' → rs'.length = rs.length → RsOk rs' → Q (.ref D) H'
theorem c__law_spoil_row (T : Txt P K mg) : Cal P w K mg base 3 "_law_spoil_row" spSpoil := by
  have S : FnScope ["_law_source_here", "_law_model_here", "_law_row_here", "_law_told", "_law_turn", "_law_place", "_law_kind", "_law_version_here"] ["_law_source_here", "_law_model_here", "_law_row_here"] (defScope (top 59)) := ⟨rfl, rfl, rfl, by decide +kernel, rfl, by decide +kernel, by decide +kernel⟩
  refine T.d__law_spoil_row.cal S (fun _ _ _ _ _ _ us hl => match us, hl with | [_, _, _], _ => rfl) (fun vs H Q E ⟨_, _, _, _, _, _, _, e, _⟩ => by rw [e]; rfl) fun f cdv A0 outer s H vs Q E hr ⟨p, n, v, vr, M, N, rs, e, hs, hn, hm, sh, hN, ⟨ar, xr, er, hra, fr⟩, rl, ok, h⟩ => ?_
  subst e er
  refine ⟨_, (pss_cons (ps_set (i := 3) S.nd rfl (Or.inl rfl) (pe_callTy (k_listK (K := K) rfl) (by rfl) T.b_list (by decide +kernel) (pa_cons (pv 2) pa_nil)))
      (pss_cons (ps_for PassesOwn.never rfl (pi_range1 (by rfl) T.b_range (pa_cons (pe_c (c__law_draw T) hr (by decide) (by rfl) (pa_cons (pv 0) (pa_cons pe_int pa_nil))) pa_nil)) (pg_name (i := 4) S.nd rfl (Or.inl rfl)) (pss_one (ps_if (pt_cmpR op_gt (pe_callB (k_lenK (K := K) rfl) (by rfl) T.b_len (by decide +kernel) (pa_cons (pv 3) pa_nil)) pe_int (nomark _)) (pss_cons (ps_set (i := 5) S.nd rfl (Or.inl rfl) (pe_c (c__law_draw T) hr (by decide) (by rfl) (pa_cons (pv 0) (pa_cons (pe_callB (k_lenK (K := K) rfl) (by rfl) T.b_len (by decide +kernel) (pa_cons (pv 3) pa_nil)) pa_nil))))
      (pss_cons (ps_set (i := 6) S.nd rfl (Or.inl rfl) (pe_c (c__law_draw T) hr (by decide) (by rfl) (pa_cons (pv 0) (pa_cons pe_int pa_nil))))
      (pss_cons (ps_set (i := 7) S.nd rfl (Or.inl rfl) (pe_ifExp (pt_cmpR op_eq (pv 6) pe_int (nomark _)) (pe_c (c__law_strange T) hr (by decide) (by rfl) (pa_cons (pv 0) (pa_cons (pv 1) pa_nil))) (pe_ix (ix_ltK (K := K) rfl) (pe_ix (ix_ltK (K := K) rfl) (pv 3) (pv 5) (fun _ _ => rfl)) pe_int (fun _ _ => rfl))))
      (pss_one (ps_asg (pe_tup (pa_cons (pv 7) (pa_cons (pe_ifExp (pt_cmpR op_eq (pv 6) pe_int (nomark _)) (pe_ix (ix_ltK (K := K) rfl) (pe_ix (ix_ltK (K := K) rfl) (pv 3) (pv 5) (fun _ _ => rfl)) pe_int (fun _ _ => rfl)) (pe_op op_sub pe_int (pv 6))) pa_nil))) (pg_sub (pv 3) (pv 5) set_list)))))) pss_nil)))
      (pss_one (ps_ret (pv 3))))), ?_⟩
  walk_at "rd"
  refine rd_listL (sl (rm_same [p] H _ _ hra)) fun D hD => ?_
  have hDp := hs.ne hD
  walk_at "rd"
  refine rd_for ?_
  walk_at "rd"
  refine ⟨p, 3, n, rfl, src_upd hs hDp, by omega, by omega, by omega, fun r H1 r0 r1 s1 hs1 => ?_⟩
  have hD1 := at_draw s1 hDp (show (upd H D (.lst xr)) D = some (.lst xr) from upd_same ..)
  have s01 : Same (rm [p] H) H1 := (rm_mono (Same.new hD)).trans s1
  have Dp2 : ∀ {x}, x ∈ [D, p] → x = D ∨ x = p := fun {x} hx => by simpa using hx
  have fr1 : ∀ {H' : Hp}, Same (rm [p] H) H' → Same (rm [p] H) (rm [D, p] H') := fun {H'} s => rm_of s fun x hx => by
    rcases Dp2 hx with z | z
    · rw [z]; exact rm_none hD
    · rw [z]; exact rm_in (by simp)
  walk_at "rd"
  refine rg1N r.toNat (by omega) (by omega) ?_
  refine for_range (fun i σ H' => ∃ (x y z w : Option V) (ys : List V) (ks : List (List Int × Int)), σ = [some (.ref p), some v, some (.ref ar), some (.ref D), x, y, z, w] ∧ Same (rm [p] H) H' ∧ Src p H' (n + 1 + 50 * i) ∧ H' D = some (.lst ys) ∧ F2 (Rq (rm [D, p] H')) ys ks ∧ ks.length = rs.length ∧ RsOk ks)
    ⟨_, _, _, _, xr, rs, rfl, s01, hs1, hD1, fr.imp fun _ _ _ q => m_Rq _ _ _ _ (fr1 s01) q, rfl, ok⟩ ?_ ?_
  · rintro i σ H' hi ⟨x0, y0, z0, w0, ys, ks, rfl, s2, hs2, hk, fk, kl, kb⟩
    have el : ys.length = ks.length := fk.length
    walk_at "rd"
    refine rd_lenL (sl hk) ?_
    walk_at "rd"
    refine rd_ite (fun c => ?_) fun c => ?_
    rotate_left 1
    · walk_at "rd"
      exact ⟨_, _, _, _, ys, ks, rfl, s2, hs2.le (by omega), hk, fk, kl, kb⟩
    walk_at "rd"
    refine rd_lenL (sl hk) ?_
    walk_at "rd"
    refine ⟨p, ys.length, n + 1 + 50 * i, rfl, hs2, by omega, by omega, by omega, fun q H3 q0 q1 s3 hs3 => ?_⟩
    walk_at "rd"
    refine ⟨p, 3, n + 1 + 50 * i + 1, rfl, hs3, by omega, by omega, by omega, fun kd H4 k0 k1 s4 hs4 => ?_⟩
    have s24 := (rm_self s3).trans s4
    have hk4 := at_draw s24 hDp hk
    have grow : ∀ {Ha Hb : Hp}, Same (rm [p] Ha) Hb → Same (rm [D, p] Ha) (rm [D, p] Hb) := fun {Ha Hb} s => rm_self ((rm_sub (fun x hx => by simp at hx; simp [hx])).trans s)
    have fk4 := fk.imp fun _ _ _ z => m_Rq _ _ _ _ (grow s24) z
    have s04 := (rm_self s2).trans s24
    have ekq : ks[q.toNat]? = some (ks[q.toNat]'(by omega)) := List.getElem?_eq_getElem _
    generalize ks[q.toNat]'(by omega) = rq at ekq
    have kbq := kb rq (List.mem_of_getElem? ekq)
    obtain ⟨vq, evq, a', b', rfl, h1', h2'⟩ := fk4.getR ekq
    have h1 := rm_same _ _ _ _ h1'
    have h2 := rm_same _ _ _ _ h2'
    -- the item put in
    have put : ∀ (u : V) (H5 : Hp) (xs : List Int) (c : Int), Same (rm [p] H4) H5 → Src p H5 (n + 1 + 50 * i + 48) → IT (rm [D, p] H5) u xs → xs.length ≤ 20 → -10 ≤ c → c ≤ 2 ^ 41 → ∀ t, H5 t = none →
        ∃ (x y z w : Option V) (ys' : List V) (ks' : List (List Int × Int)), ([some (.ref p), some v, some (.ref ar), some (.ref D), some (.int (0 + (i : Int))), some (.int q), some (.int kd), some u] : L2.St) = [some (.ref p), some v, some (.ref ar), some (.ref D), x, y, z, w] ∧ Same (rm [p] H) (upd (upd H5 t (.tup [u, .int c])) D (.lst (ys.set q.toNat (.ref t)))) ∧
          Src p (upd (upd H5 t (.tup [u, .int c])) D (.lst (ys.set q.toNat (.ref t)))) (n + 1 + 50 * (i + 1)) ∧ (upd (upd H5 t (.tup [u, .int c])) D (.lst (ys.set q.toNat (.ref t)))) D = some (.lst ys') ∧ F2 (Rq (rm [D, p] (upd (upd H5 t (.tup [u, .int c])) D (.lst (ys.set q.toNat (.ref t)))))) ys' ks' ∧ ks'.length = rs.length ∧ RsOk ks' := by
      intro u H5 xs c s5 hs5 hu xl c1 c2 t ht
      have htp := hs5.ne ht
      have hk5 := at_draw s5 hDp hk4
      have htD : t ≠ D := fun z => by rw [z, hk5] at ht; cases ht
      have sT : Same (rm [D, p] H5) (rm [D, p] (upd (upd H5 t (.tup [u, .int c])) D (.lst (ys.set q.toNat (.ref t))))) := rm_self (Same.trans_upd ((rm_same _ _).trans (Same.new ht)) (by simp))
      have hnew : rm [D, p] (upd (upd H5 t (.tup [u, .int c])) D (.lst (ys.set q.toNat (.ref t)))) t = some (.tup [u, .int c]) := by
        rw [rm_at (by simp [htD, htp]), upd_ne htD, upd_same]
      obtain ⟨a, rfl, hu'⟩ := hu
      refine ⟨_, _, _, _, ys.set q.toNat (.ref t), ks.set q.toNat (xs, c), rfl, Same.upd (((rm_self s04).trans s5).trans (Same.new ht)) (rm_none hD), (src_upd (hs5.mono (Same.new ht)) hDp).le (by omega), upd_same .., ?_, by rw [List.length_set]; exact kl, fun x hx => ?_⟩
      · refine F2.ofGet (by rw [List.length_set, List.length_set]; exact el) fun j x y hx hy => ?_
        by_cases cj : q.toNat = j
        · subst cj
          rw [List.getElem?_set_self (by omega)] at hx hy
          cases hx; cases hy
          exact ⟨t, a, rfl, hnew, sT _ _ hu'⟩
        · rw [List.getElem?_set_ne cj] at hx hy
          obtain ⟨y', e1, e2⟩ := fk4.get hx
          rw [e1] at hy; cases hy
          exact m_Rq _ _ _ _ ((grow s5).trans sT) e2
      · rcases List.mem_or_eq_of_mem_set hx with z | z
        · exact kb x z
        · rw [z]; exact ⟨xl, c1, c2⟩
    have hm4 : MR (rm [p] H4) v M := m_MR _ _ _ _ (rm_self s04) hm
    walk_at "rd"
    refine rd_ite (fun c0 => ?_) fun c0 => ?_
    · walk_at "rd"
      refine ⟨p, n + 1 + 50 * i + 2, v, M, N, rfl, hs4, by omega, hm4, sh, hN, fun a xs H5 s5 hs5 ha0 ha xl => ?_⟩
      walk_at "rd"
      refine rd_asgG ?_
      walk_at "rd"
      refine rd_iteT' c0 ?_
      walk_at "rd"
      have hk5 := at_draw s5 hDp hk4
      have hap := hs4.ne ha0
      have haD : a ≠ D := fun z => by rw [z, hk4] at ha0; cases ha0
      have g5 := grow s5
      refine rd_iL (sl hk5) (atI_nn q0 evq) ?_
      walk_at "rd"
      refine rd_iT (v := .int rq.2) (stp (rm_same _ _ _ _ (g5 _ _ h1'))) (by rfl) ?_
      walk_at "rd"
      refine ⟨ll (by simp), fun t ht => ?_⟩
      refine rd_gsub ?_
      walk_at "rd"
      refine rd_setL (j := q.toNat) (keep_upd ht hk5) (by omega) (by omega) ?_
      exact put (.ref a) H5 xs rq.2 s5 (hs5.le (by omega)) ⟨a, rfl, by rw [rm_at (by simp [haD, hap])]; exact ha⟩ xl kbq.2.1 kbq.2.2 t ht
    · walk_at "rd"
      refine rd_iL (sl hk4) (atI_nn q0 evq) ?_
      walk_at "rd"
      refine rd_iT (v := .ref b') (stp h1) (by rfl) ?_
      walk_at "rd"
      refine rd_asgG ?_
      walk_at "rd"
      refine rd_iteF' c0 ?_
      walk_at "rd"
      refine ⟨ll (by simp), fun t ht => ?_⟩
      refine rd_gsub ?_
      walk_at "rd"
      refine rd_setL (j := q.toNat) (keep_upd ht hk4) (by omega) (by omega) ?_
      exact put (.ref b') H4 rq.1 (1 - kd) (rm_same _ _) (hs4.le (by omega)) ⟨b', rfl, h2'⟩ kbq.1 (by omega) (by omega) t ht
  · rintro σ H' ⟨x0, y0, z0, w0, ys, ks, rfl, s2, hs2, hk, fk, kl, kb⟩
    walk_at "rd"
    refine h D H' ks s2 (hs2.le (by omega)) ⟨D, ys, rfl, by rw [rm_at (by simpa using hDp)]; exact hk, fk.imp fun _ _ _ q => m_Rq _ _ _ _ (rm_sub fun x hx => by simp at hx; simp [hx]) q⟩ kl kb
end
end LK
set_option maxHeartbeats 4000000
namespace LK
open PySem PySem.Spec PyProof.Rows L2
local macro_rules | `(tactic| walk_at "rd") => `(tactic| (repeat (first
  | with_reducible refine rd_seq ?_
  | with_reducible refine rd_asg ?_
  | with_reducible refine rd_ret ?_
  | with_reducible refine rd_drop ?_
  | with_reducible refine rd_if ?_
  | with_reducible refine rd_next ?_
  | ((with_reducible apply rd_var); (· exact rfl))
  | with_reducible refine rd_c ?_
  | with_reducible refine rd_op ?_
  | with_reducible refine rd_un ?_
  | with_reducible refine rd_I0 ?_
  | with_reducible refine rd_U ?_
  | with_reducible refine rd_eq ?_
  | with_reducible refine rd_ne ?_
  | with_reducible refine rd_neB ?_
  | with_reducible refine rd_asB ?_
  | with_reducible refine rd_test ?_
  | with_reducible refine rd_tB ?_
  | with_reducible refine rd_not ?_
  | with_reducible refine rd_and ?_
  | with_reducible refine rd_or ?_
  | with_reducible refine rd_andV ?_
  | with_reducible refine rd_orV ?_
  | with_reducible refine rd_notV ?_
  | with_reducible refine rd_ifx ?_
  | with_reducible refine rd_chain ?_
  | with_reducible refine rd_nil ?_
  | with_reducible refine rd_cons ?_
  | with_reducible refine rd_call ?_
  | with_reducible refine rd_cb ?_
  | with_reducible refine rd_lst ?_
  | with_reducible refine rd_tup ?_
  | with_reducible refine rd_min ?_
  | with_reducible refine rd_max ?_
  | with_reducible refine rd_abs ?_
  | with_reducible refine rd_int ?_
  | with_reducible refine rd_bm ?_
  | with_reducible refine rd_nt ?_
  | with_reducible refine rd_nf ?_
  | with_reducible refine rd_rg3 ?_
  | with_reducible refine rd_gnil ?_
  | with_reducible refine rd_gcons ?_
  | with_reducible refine rd_yes ?_
  | with_reducible refine rd_tt ?_
  | with_reducible refine rd_ff ?_
  | with_reducible refine rd_fld ?_
  | with_reducible refine rd_meth ?_
  | with_reducible refine rd_rev ?_
  | with_reducible refine rd_callN ?_
  | with_reducible refine rd_rg1 ?_
  | with_reducible refine rd_rg2 ?_
  | with_reducible refine rd_nm ?_
  | with_reducible refine rd_lc ?_
  | with_reducible refine rd_iL' ?_
  | with_reducible refine rd_iT' ?_)))
local macro_rules | `(tactic| walk_at "hp") => `(tactic| (first
  | assumption
  | exact upd_same ..
  | (refine keep_upd (by assumption) ?_; walk_at "hp")
  | (refine same_app (by assumption) ?_; walk_at "hp")))


theorem rd_raise {C : Addr} {f : Str} {W : WX} {ta : TA} {D : Ends} {σ : L2.St} {H : Hp} (h : ta σ H fun vs H1 => ∃ v, vs = [v] ∧ ∀ d, H1 d = none → W (.ref C) (some d) σ (upd H1 d (.xd [(f, v)]))) : tRaiseX C f W ta D σ H := h
section
variable {P : Program} {w : World} {K : PySem.W.Frag} {mg : Str → Option Value} {base : Heap}
def ErrAt (E : XK) (H : Hp) (C : Addr) (f : Str) (v : V) : Prop := ∀ d, H d = none → E (.ref C) (some d) (upd H d (.xd [(f, v)]))
def spNeedV (K : PySem.W.Frag) : Sp := fun vs H Q E => ∃ (B : BA) (M : Mod) (N : Nat) (u : V) (xs : List Int), vs = [.ref B.b, u] ∧ BR K H B M N ∧ Good M N ∧ IT H u xs ∧ xs.length < 1000 ∧ (isV M N xs = true → Q u H) ∧ (isV M N xs = false → ErrAt E H (xN K) "version" u)
theorem c_need_version (T : Txt P K mg) : Cal P w K mg base 2 "need_version" (spNeedV K) := by
  have S : FnScope ["book", "version"] ["book", "version"] (defScope (top 22)) := ⟨rfl, rfl, rfl, by decide +kernel, rfl, by decide +kernel, by decide +kernel⟩
  refine T.d_need_version.calX S (fun _ _ _ _ _ _ us hl => match us, hl with | [_, _], _ => rfl) (fun vs H Q E ⟨_, _, _, _, _, e, _⟩ => by rw [e]; rfl) fun f cdv A0 outer s H vs Q E hr ⟨B, M, N, u, xs, e, br, g, hu, hl, hy, hn⟩ => ?_
  subst e
  refine ⟨_, (pss_cons (ps_if (pt_not (pt_val (pe_m (pv 0) T.cl (c_Book_holds T) hr (by decide) (pa_cons (pv 1) pa_nil)))) (pss_one (ps_raiseX rfl T.x_N.c (Or.inl rfl) hr (takes_of rfl rfl rfl rfl) (pa_cons (pv 1) pa_nil) (by rfl))) pss_nil)
      (pss_one (ps_ret (pv 1)))), ?_⟩
  walk_at "rd"
  refine ⟨_, _, _, rfl, br.b, rfl, ?_⟩
  walk_at "rd"
  refine ⟨B, M, N, u, xs, rfl, br, g, hu, hl, ?_⟩
  cases c : isV M N xs with
  | true =>
    walk_at "rd"
    exact hy c
  | false =>
    walk_at "rd"
    refine rd_raise ?_
    walk_at "rd"
    exact ⟨u, rfl, hn c⟩
def spNeedR (K : PySem.W.Frag) : Sp := fun vs H Q E => ∃ (B : BA) (M : Mod) (N : Nat) (vr : V) (rs : List (List Int × Int)), vs = [.ref B.b, vr] ∧ BR K H B M N ∧ Good M N ∧ Row H vr rs ∧ rs.length < 1000 ∧ (∀ r ∈ rs, r.1.length < 1000) ∧
  (rs.findIdx? (badR M N) = none → Q .non H) ∧ (∀ i, rs.findIdx? (badR M N) = some i → ErrAt E H (xR K) "index" (.int i))
theorem c_need_requests (T : Txt P K mg) : Cal P w K mg base 3 "need_requests" (spNeedR K) := by
  have S : FnScope ["book", "requests", "index", "version", "count"] ["book", "requests"] (defScope (top 24)) := ⟨rfl, rfl, rfl, by decide +kernel, rfl, by decide +kernel, by decide +kernel⟩
  refine T.d_need_requests.calX S (fun _ _ _ _ _ _ us hl => match us, hl with | [_, _], _ => rfl) (fun vs H Q E ⟨_, _, _, _, _, e, _⟩ => by rw [e]; rfl) fun f cdv A0 outer s H vs Q E hr ⟨B, M, N, vr, rs, e, br, g, ⟨ar, xr, er, hra, fr⟩, rl, rv, hy, hn⟩ => ?_
  subst e er
  refine ⟨_, (pss_one (ps_for (passes_of rfl) rfl (pi_range1 (by rfl) T.b_range (pa_cons (pe_callB (k_lenK (K := K) rfl) (by rfl) T.b_len (by decide +kernel) (pa_cons (pv 1) pa_nil)) pa_nil)) (pg_name (i := 2) S.nd rfl (Or.inl rfl)) (pss_cons (ps_asg (pe_ix (ix_ltK (K := K) rfl) (pv 1) (pv 2) (fun _ _ => rfl)) (pg_tupK (K := K) (n := 2) rfl rfl (pgs_cons (pg_name (i := 3) S.nd rfl (Or.inl rfl)) (pgs_cons (pg_name (i := 4) S.nd rfl (Or.inl rfl)) pgs_nil))))
      (pss_one (ps_if (PW.pt (pw_or (pt_cmpR (op_notInOwn (c_Book_contains T) (hr.mono (by decide))) (pv 3) (pv 0) (by rfl)) (pw_or1 (pt_cmpR op_lt (pv 4) pe_int (nomark _))))) (pss_one (ps_raiseX rfl T.x_R.c (Or.inr (Or.inl rfl)) hr (takes_of rfl rfl rfl rfl) (pa_cons (pv 2) pa_nil) (by rfl))) pss_nil))))), ?_⟩
  refine rd_for ?_
  walk_at "rd"
  refine rd_lenL (sl hra) ?_
  walk_at "rd"
  refine rg1N rs.length (by rw [fr.length]) (by omega) ?_
  refine for_range (fun i σ H' => ∃ x y z : Option V, σ = [some (.ref B.b), some (.ref ar), x, y, z] ∧ H' = H ∧ ∀ j y, j < i → rs[j]? = some y → badR M N y = false) ⟨_, _, _, rfl, rfl, fun j y hj => by omega⟩ ?_ ?_
  · rintro i σ H' hi ⟨x0, y0, z0, rfl, rfl, hb⟩
    have ei : (0 : Int) + (i : Int) = ((i : Nat) : Int) := by omega
    have hri : rs[i]? = some rs[i] := List.getElem?_eq_getElem hi
    generalize rs[i] = r at hri
    obtain ⟨vq, evq, a', b', rfl, hq1, hq2⟩ := fr.getR hri
    walk_at "rd"
    rw [ei]
    refine rd_asgG ?_
    walk_at "rd"
    refine rd_iL (sl hra) (atI_nat evq) ?_
    refine rd_gtup (stp hq1) rfl ?_
    walk_at "rd"
    refine ⟨B.b, B.dx, bfs B, rfl, br.b, B, M, N, .ref b', r.1, rfl, br, g, ⟨b', rfl, hq2⟩, rv r (List.mem_of_getElem? hri), _, rfl, ?_⟩
    have err : badR M N r = true → ErrAt E H' (xR K) "index" (.int i) := fun z => hn i (findIdx_at hb hri z)
    cases cr : isV M N r.1 with
    | false =>
      walk_at "rd"
      refine rd_raise ?_
      walk_at "rd"
      exact ⟨_, rfl, err (by unfold badR; rw [cr]; rfl)⟩
    | true =>
      walk_at "rd"
      refine rd_ite (fun c => ?_) fun c => ?_
      · refine rd_raise ?_
        walk_at "rd"
        exact ⟨_, rfl, err (by unfold badR; rw [decide_eq_true c]; simp)⟩
      · walk_at "rd"
        refine ⟨_, _, _, rfl, rfl, fun j y hj hy => ?_⟩
        by_cases z : j = i
        · subst z
          rw [hri] at hy; cases hy
          unfold badR; rw [cr, decide_eq_false c]; rfl
        · exact hb j y (by omega) hy
  · rintro σ H' ⟨x0, y0, z0, rfl, rfl, hb⟩
    exact hy (findIdx_none fun i x hx => hb i x (List.getElem?_eq_some_iff.mp hx).1 hx)
def spLook (K : PySem.W.Frag) : Sp := fun vs H Q E => ∃ g : Int, vs = [.int g] ∧ (1 ≤ g → Q (.int g) H) ∧ (g < 1 → ErrAt E H (xP K) "price" (.int g))
theorem c_checked_look (T : Txt P K mg) : Cal P w K mg base 1 "checked_look" (spLook K) := by
  have S : FnScope ["look"] ["look"] (defScope (top 16)) := ⟨rfl, rfl, rfl, by decide +kernel, rfl, by decide +kernel, by decide +kernel⟩
  refine T.d_checked_look.calX S (fun _ _ _ _ _ _ us hl => match us, hl with | [_], _ => rfl) (fun vs H Q E ⟨_, e, _⟩ => by rw [e]; rfl) fun f cdv A0 outer s H vs Q E hr ⟨g, e, hy, hn⟩ => ?_
  subst e
  refine ⟨_, (pss_cons (ps_if (pt_cmpR op_lt (pv 0) pe_int (nomark _)) (pss_one (ps_raiseX rfl T.x_P.c (Or.inr (Or.inr rfl)) hr (takes_of rfl rfl rfl rfl) (pa_cons (pv 0) pa_nil) (by rfl))) pss_nil)
      (pss_one (ps_ret (pv 0)))), ?_⟩
  walk_at "rd"
  refine rd_ite (fun c => ?_) fun c => ?_
  · refine rd_raise ?_
    walk_at "rd"
    exact ⟨_, rfl, hn c⟩
  · walk_at "rd"
    exact hy (by omega)
def prs (N : Nat) : Sum Int (List Int) → List Int
  | .inl k => List.replicate N k
  | .inr ps => ps
def spPrices (K : PySem.W.Frag) : Sp := fun vs H Q E => ∃ (N : Nat) (vt : V) (hd : Sum Int (List Int)), vs = [.int N, vt] ∧ N ≤ 100 ∧ Hd H vt hd ∧ (dueP N hd = .no → ∀ q H', Same H H' → H q = none → H' q = some (.lst (iv (prs N hd))) → Q (.ref q) H') ∧
  (∀ n, dueP N hd = .i 3 n → ErrAt E H (xP K) "price" (.int n))
theorem c_positive_prices (T : Txt P K mg) : Cal P w K mg base 1 "positive_prices" (spPrices K) := by
  have S : FnScope ["many", "toggle", "price"] ["many", "toggle"] (defScope (top 36)) := ⟨rfl, rfl, rfl, by decide +kernel, rfl, by decide +kernel, by decide +kernel⟩
  refine T.d_positive_prices.calX S (fun _ _ _ _ _ _ us hl => match us, hl with | [_, _], _ => rfl) (fun vs H Q E ⟨_, _, _, e, _⟩ => by rw [e]; rfl) fun f cdv A0 outer s H vs Q E hr ⟨N, vt, hd, e, hN, hh, hy, hn⟩ => ?_
  subst e
  refine ⟨_, (pss_cons (ps_if (pt_val (pe_callB (k_isiK (K := K) rfl) (by rfl) T.b_isinstance (by decide +kernel) (pa_cons (pv 1) (pa_cons (pe_bltn (v := .ty "int") (by rfl) T.b_int (by decide +kernel) rfl) pa_nil)))) (pss_cons (ps_if (pt_cmpR op_lt (pv 1) pe_int (nomark _)) (pss_one (ps_raiseX rfl T.x_P.c (Or.inr (Or.inr rfl)) hr (takes_of rfl rfl rfl rfl) (pa_cons (pv 1) pa_nil) (by rfl))) pss_nil)
      (pss_one (ps_ret (pe_op op_rep (pe_lst (pa_cons (pv 1) pa_nil)) (pv 0))))) pss_nil)
      (pss_cons (ps_if (pt_cmpR op_ne (pe_callB (k_lenK (K := K) rfl) (by rfl) T.b_len (by decide +kernel) (pa_cons (pv 1) pa_nil)) (pv 0) (nomark _)) (pss_one (ps_raiseX rfl T.x_P.c (Or.inr (Or.inr rfl)) hr (takes_of rfl rfl rfl rfl) (pa_cons (pe_callB (k_lenK (K := K) rfl) (by rfl) T.b_len (by decide +kernel) (pa_cons (pv 1) pa_nil)) pa_nil) (by rfl))) pss_nil)
      (pss_cons (ps_for (passes_of rfl) rfl (pi_listK (K := K) rfl (pv 1)) (pg_name (i := 2) S.nd rfl (Or.inl rfl)) (pss_one (ps_if (pt_cmpR op_lt (pv 2) pe_int (nomark _)) (pss_one (ps_raiseX rfl T.x_P.c (Or.inr (Or.inr rfl)) hr (takes_of rfl rfl rfl rfl) (pa_cons (pv 2) pa_nil) (by rfl))) pss_nil)))
      (pss_one (ps_ret (pe_callTy (k_listK (K := K) rfl) (by rfl) T.b_list (by decide +kernel) (pa_cons (pv 1) pa_nil))))))), ?_⟩
  cases hd with
  | inl k =>
    obtain rfl : vt = .int k := hh
    walk_at "rd"
    refine is_ii ?_
    walk_at "rd"
    refine rd_ite (fun c => ?_) fun c => ?_
    · refine rd_raise ?_
      walk_at "rd"
      exact ⟨_, rfl, hn k (if_pos c)⟩
    · walk_at "rd"
      refine ⟨ll (by simp), fun q hq => ?_⟩
      walk_at "rd"
      refine rd_repL (upd_same ..) (by omega) (by simp; omega) (by omega) fun q2 hq2 => ?_
      refine hy (if_neg c) q2 _ ((Same.new hq).trans (Same.new hq2)) (none_of_upd hq2) ?_
      rw [upd_same]
      congr 2
      rw [Int.toNat_natCast]
      show (List.replicate N [V.int k]).flatten = iv (List.replicate N k)
      simp [List.flatten_replicate_singleton]
  | inr ps =>
    obtain ⟨a, rfl, ha⟩ := hh
    have lp : ((iv ps).length : Int) = ps.length := by simp
    walk_at "rd"
    refine is_li ha ?_
    walk_at "rd"
    refine rd_lenL (sl ha) ?_
    walk_at "rd"
    rw [lp]
    refine rd_iteN (fun c => ?_) fun c => ?_
    · refine rd_raise ?_
      walk_at "rd"
      refine rd_lenL (sl ha) ?_
      walk_at "rd"
      rw [lp]
      exact ⟨_, rfl, hn _ (if_pos fun z => c (by rw [z]))⟩
    have e3 : dueP N (.inr ps) = match ps.find? (fun p => decide (p < 1)) with | some p => .i 3 p | none => .no := by
      show (if ps.length ≠ N then _ else _) = _
      rw [if_neg (by omega)] <;> rfl
    walk_at "rd"
    refine rd_for ?_
    walk_at "rd"
    refine ⟨_, rfl, ⟨_, sl ha⟩, ?_⟩
    refine for_list (xs := iv ps) (fun i σ H1 => ∃ x : Option V, σ = [some (.int N), some (.ref a), x] ∧ H1 = H ∧ ∀ j y, j < i → ps[j]? = some y → decide (y < 1) = false) ⟨_, rfl, rfl, fun j y hj => by omega⟩ (fun i σ H1 _ ⟨_, _, e, _⟩ => e ▸ sl ha) ?_ ?_
    · rintro i x σ H1 hx ⟨x1, rfl, rfl, hb2⟩
      obtain ⟨y, hy', rfl⟩ := F2.getI hx
      walk_at "rd"
      refine rd_ite (fun c3 => ?_) fun c3 => ?_
      · refine rd_raise ?_
        walk_at "rd"
        exact ⟨_, rfl, hn y (by rw [e3, find_at (f := fun p => decide (p < 1)) hb2 hy' (decide_eq_true c3)])⟩
      · walk_at "rd"
        refine ⟨_, rfl, rfl, fun j z hj hz => ?_⟩
        by_cases c4 : j = i
        · subst c4
          rw [hy'] at hz; cases hz
          exact decide_eq_false c3
        · exact hb2 j z (by omega) hz
    · rintro σ H1 ⟨x1, rfl, rfl, hb2⟩
      walk_at "rd"
      refine rd_listL (sl ha) fun l hl => ?_
      refine hy ?_ l _ (Same.new hl) hl (upd_same ..)
      rw [e3, find_none' (f := fun p => decide (p < 1)) fun i x hx => hb2 i x (by have := (List.getElem?_eq_some_iff.mp hx).1; simpa using this) hx]
end
end LK
set_option maxHeartbeats 4000000
namespace LK
open PySem PySem.Spec PyProof.Rows L2
local macro_rules | `(tactic| walk_at "rd") => `(tactic| (repeat (first
  | with_reducible refine rd_seq ?_
  | with_reducible refine rd_asg ?_
  | with_reducible refine rd_ret ?_
  | with_reducible refine rd_drop ?_
  | with_reducible refine rd_if ?_
  | with_reducible refine rd_next ?_
  | ((with_reducible apply rd_var); (· exact rfl))
  | with_reducible refine rd_c ?_
  | with_reducible refine rd_op ?_
  | with_reducible refine rd_un ?_
  | with_reducible refine rd_I0 ?_
  | with_reducible refine rd_U ?_
  | with_reducible refine rd_eq ?_
  | with_reducible refine rd_ne ?_
  | with_reducible refine rd_neB ?_
  | with_reducible refine rd_asB ?_
  | with_reducible refine rd_test ?_
  | with_reducible refine rd_tB ?_
  | with_reducible refine rd_not ?_
  | with_reducible refine rd_and ?_
  | with_reducible refine rd_or ?_
  | with_reducible refine rd_andV ?_
  | with_reducible refine rd_orV ?_
  | with_reducible refine rd_notV ?_
  | with_reducible refine rd_ifx ?_
  | with_reducible refine rd_chain ?_
  | with_reducible refine rd_nil ?_
  | with_reducible refine rd_cons ?_
  | with_reducible refine rd_call ?_
  | with_reducible refine rd_cb ?_
  | with_reducible refine rd_lst ?_
  | with_reducible refine rd_tup ?_
  | with_reducible refine rd_min ?_
  | with_reducible refine rd_max ?_
  | with_reducible refine rd_abs ?_
  | with_reducible refine rd_int ?_
  | with_reducible refine rd_bm ?_
  | with_reducible refine rd_nt ?_
  | with_reducible refine rd_nf ?_
  | with_reducible refine rd_rg3 ?_
  | with_reducible refine rd_gnil ?_
  | with_reducible refine rd_gcons ?_
  | with_reducible refine rd_yes ?_
  | with_reducible refine rd_tt ?_
  | with_reducible refine rd_ff ?_
  | with_reducible refine rd_fld ?_
  | with_reducible refine rd_meth ?_
  | with_reducible refine rd_rev ?_
  | with_reducible refine rd_callN ?_
  | with_reducible refine rd_rg1 ?_
  | with_reducible refine rd_rg2 ?_
  | with_reducible refine rd_nm ?_
  | with_reducible refine rd_lc ?_
  | with_reducible refine rd_iL' ?_
  | with_reducible refine rd_iT' ?_)))
local macro_rules | `(tactic| walk_at "hp") => `(tactic| (first
  | assumption
  | exact upd_same ..
  | (refine keep_upd (by assumption) ?_; walk_at "hp")
  | (refine same_app (by assumption) ?_; walk_at "hp")))


section
variable {P : Program} {w : World} {K : PySem.W.Frag} {mg : Str → Option Value} {base : Heap}
def spStretch (K : PySem.W.Frag) : Sp := fun vs H Q _ => ∃ (B : BA) (M : Mod) (N : Nat) (u vr : V) (home : List Int) (rs : List (List Int × Int)) (m : Int), vs = [.ref B.b, u, vr, .int m] ∧ BR K H B M N ∧ Good M N ∧ IT H u home ∧ home.length < 1000 ∧ Row H vr rs ∧ rs.length < 1000 ∧ (∀ r ∈ rs, r.1.length < 1000) ∧
  isV M N home = true ∧ rs.findIdx? (badR M N) = none ∧ (∀ r ∈ rs, 0 ≤ r.2 ∧ r.2 ≤ 2 ^ 50) ∧ 0 ≤ m ∧ m < 2 ^ 90 ∧ ∀ q H', Same H H' → Plan H' (.ref q) (planF N home rs (2 * m + 1)) → H q = none → Q (.ref q) H'
theorem c_stretch_plan (T : Txt P K mg) : Cal P w K mg base 6 "stretch_plan" (spStretch K) := by
  have S : FnScope ["book", "home", "requests", "stretch", "rows", "number"] ["book", "home", "requests", "stretch"] (defScope (top 34)) := ⟨rfl, rfl, rfl, by decide +kernel, rfl, by decide +kernel, by decide +kernel⟩
  refine T.d_stretch_plan.cal S (fun _ _ _ _ _ _ us hl => match us, hl with | [_, _, _, _], _ => rfl) (fun vs H Q E ⟨_, _, _, _, _, _, _, _, e, _⟩ => by rw [e]; rfl) fun f cdv A0 outer s H vs Q E hr ⟨B, M, N, u, vr, home, rs, m, e, br, g, hu, hl, hrow, rl, rv, cv, cb, rc, m0, m1, h⟩ => ?_
  subst e
  refine ⟨_, (pss_cons (ps_expr (pe_c (c_need_version T) hr (by decide) (by rfl) (pa_cons (pv 0) (pa_cons (pv 1) pa_nil))))
      (pss_cons (ps_expr (pe_c (c_need_requests T) hr (by decide) (by rfl) (pa_cons (pv 0) (pa_cons (pv 2) pa_nil))))
      (pss_cons (ps_if (pt_cmpR op_lt (pv 3) pe_int (nomark _)) (pss_one ps_never) pss_nil)
      (pss_cons (ps_set (i := 4) S.nd rfl (Or.inl rfl) (pe_lst pa_nil))
      (pss_cons (ps_for PassesOwn.never rfl (pi_range2 (by rfl) T.b_range (pa_cons pe_int (pa_cons (pe_op op_add (pe_callB (k_lenOwn (c_Book_len T) (hr.mono (by decide))) (by rfl) T.b_len (by decide +kernel) (pa_cons (pv 0) pa_nil)) pe_int) pa_nil))) (pg_name (i := 5) S.nd rfl (Or.inl rfl)) (pss_one (ps_expr (pe_appK (K := K) rfl (pv 4) (pa_cons (pe_c (c_stretch_row T) hr (by decide) (by rfl) (pa_cons (pe_cmpR (op_inK (K := K) rfl) (pv 5) (pv 1) (by rfl)) (pa_cons (pe_c (c_signed_counts T) hr (by decide) (by rfl) (pa_cons (pv 2) (pa_cons (pv 5) pa_nil))) (pa_cons (pv 3) pa_nil)))) pa_nil)))))
      (pss_one (ps_ret (pe_c (c_homes_of T) hr (by decide) (by rfl) (pa_cons (pe_callB (k_lenK (K := K) rfl) (by rfl) T.b_len (by decide +kernel) (pa_cons (pv 2) pa_nil)) (pa_cons (pv 4) pa_nil)))))))))), ?_⟩
  have hN := g.nN
  walk_at "rd"
  refine ⟨B, M, N, u, home, rfl, br, g, hu, hl, fun _ => ?_, fun z => by rw [cv] at z; cases z⟩
  walk_at "rd"
  refine ⟨B, M, N, vr, rs, rfl, br, g, hrow, rl, rv, fun _ => ?_, fun i z => by rw [cb] at z; cases z⟩
  walk_at "rd"
  refine rd_iteF' (by omega) ?_
  walk_at "rd"
  refine ⟨ll (by simp), fun q hq => ?_⟩
  walk_at "rd"
  refine rd_for ?_
  walk_at "rd"
  have br1 := br.mono (Same.new hq (o := .lst []))
  refine ⟨B.b, B.dx, bfs B, rfl, br1.b, B, M, N, rfl, br1, N, rfl, by omega, by omega, ?_⟩
  walk_at "rd"
  refine rg2N N (by omega) (by omega) (by omega) (by omega) ?_
  refine for_range (fun i σ H' => ∃ x : Option V, σ = [some (.ref B.b), some u, some vr, some (.int m), some (.ref q), x] ∧ Same H H' ∧ Told BL q ((rowsF N home rs (2 * m + 1)).take i) H') ⟨_, rfl, Same.new hq, by simpa using Told.nil (upd_same ..)⟩ ?_ ?_
  · rintro i σ H' hi ⟨x0, rfl, s1, t1⟩
    have en : (1 : Int) + (i : Int) = (i : Int) + 1 := by omega
    obtain ⟨au, rfl, hua⟩ := hu
    walk_at "rd"
    rw [en]
    refine t1.ty ?_
    walk_at "rd"
    refine rd_inT (stp (s1 _ _ hua)) ?_
    walk_at "rd"
    refine ⟨vr, rs, (i : Int) + 1, rfl, m_Row _ _ _ _ s1 hrow, rl, fun z H3 s3 h3 hz => ?_⟩
    walk_at "rd"
    refine ⟨_, z, votes ((i : Int) + 1) rs, m, rfl, sl h3, by rw [votes_length]; exact rl, fun x hx => ?_, by omega, fun y H4 s4 h4 hy => ?_⟩
    · obtain ⟨r, hr', rfl⟩ := List.mem_map.mp hx
      have := rc r hr'
      split <;> omega
    walk_at "rd"
    have t3 := (t1.mono s3)
    have hyq : y ≠ q := t3.ne hy
    refine (t3.mono s4).push (by simp [rowsF_length]; omega) (d := sides (decide ((i : Int) + 1 ∈ home)) (four (votes ((i : Int) + 1) rs)) (2 * m + 1)) ⟨upd (fun _ => none) y (.lst (bv (sides (decide ((i : Int) + 1 ∈ home)) (four (votes ((i : Int) + 1) rs)) (2 * m + 1)))), ?_, ?_, y, rfl, upd_same ..⟩ fun H5 k5 t5 => ?_
    · intro b o hb
      by_cases c : b = y
      · subst c; rw [upd_same] at hb; rw [← hb]; exact h4
      · rw [upd_ne c] at hb; cases hb
    · rw [upd_ne (Ne.symm hyq)]
    · rw [take_snoc (rowsF_at hi)]
      exact ⟨_, rfl, Same.of_ne ((s1.trans s3).trans s4) hq k5, t5⟩
  · rintro σ H' ⟨x0, rfl, s1, t1⟩
    rw [List.take_of_length_le (by rw [rowsF_length]; exact Nat.le_refl _)] at t1
    obtain ⟨ar, xr, rfl, hra, fr⟩ := hrow
    walk_at "rd"
    refine rd_lenL (sl (s1 _ _ hra)) ?_
    walk_at "rd"
    refine ⟨xr.length, .ref q, rowsF N home rs (2 * m + 1), rfl, t1.end_ m_BL, by rw [fr.length]; exact rl, by rw [rowsF_length]; omega, fun r hr' => by rw [fr.length]; exact rowsF_len r hr', fun q2 H2 s2 p2 hq2 => ?_⟩
    rw [fr.length] at p2
    exact h q2 H2 (s1.trans s2) p2 (s1.free hq2)
/-! ### the plan in the middle -/
def spMiddle (K : PySem.W.Frag) : Sp := fun vs H Q E => ∃ (B : BA) (M : Mod) (N : Nat) (u vr vt : V) (home : List Int) (rs : List (List Int × Int)) (g : Int) (hd : Sum Int (List Int)), vs = [.ref B.b, u, vr, .int g, vt] ∧ BR K H B M N ∧ Good M N ∧ IT H u home ∧ home.length < 1000 ∧ Row H vr rs ∧ rs.length < 1000 ∧ (∀ r ∈ rs, r.1.length < 1000) ∧
  Hd H vt hd ∧ (∀ r ∈ rs, r.2 ≤ 2 ^ 50) ∧ (∀ p ∈ prs N hd, p ≤ 2 ^ 50) ∧ g < 2 ^ 50 ∧
  (dueF M N home rs g hd = .no → ∃ a b m : Int, (N ≠ 0 → a ∈ prs N hd ∧ b ∈ prs N hd ∧ ∀ p ∈ prs N hd, a ≤ p ∧ p ≤ b) ∧ 0 ≤ m ∧ m * m ≤ 4 * a * b ∧ 4 * a * b < (m + 1) * (m + 1) ∧ ∀ q H', Same H H' → Plan H' (.ref q) (planF N home rs (2 * (m / g) + 1)) → H q = none → Q (.ref q) H') ∧
  (∀ xs, dueF M N home rs g hd = .h xs → ErrAt E H (xN K) "version" u) ∧ (∀ n, dueF M N home rs g hd = .i 2 n → ErrAt E H (xR K) "index" (.int n)) ∧ (∀ n, dueF M N home rs g hd = .i 3 n → ErrAt E H (xP K) "price" (.int n))
theorem root_eq {x m k : Int} (m0 : 0 ≤ m) (k0 : 0 ≤ k) (h1 : m * m ≤ x) (h2 : x < (m + 1) * (m + 1)) (h3 : k * k ≤ x) (h4 : x < (k + 1) * (k + 1)) : m = k := by
  rcases Int.lt_trichotomy m k with h | h | h
  · have := sq_le (a := m + 1) (b := k) (by omega) (by omega)
    omega
  · exact h
  · have := sq_le (a := k + 1) (b := m) (by omega) (by omega)
    omega
theorem plan0 {home : List Int} {rs : List (List Int × Int)} {t : Int} : planF 0 home rs t = rs.map fun _ => [] := by
  unfold planF homes rowsF upto
  simp
  refine List.ext_getElem? fun i => ?_
  by_cases h : i < rs.length
  · simp [h]
  · simp [h]
structure FnMid (P : Program) (w : World) (K : PySem.W.Frag) (mg : Str → Option Value) (base : Heap) (k : Nat) (sp : Sp) : Prop where
  ex : ∃ (f : Addr) (fd : FuncData), FunD K "middle_plan" "middle_plan" (defArgs (top 37)) (defBody (top 37)) (defScope (top 37)) [] [("look", .int 1), ("toggle", .int 1)] f fd ∧ mg "middle_plan" = some (.ref f) ∧ FnOk P w K mg base (L2.CX P w) k f fd ["book", "home", "requests", "look", "toggle"] sp
theorem fn_middle (T : Txt P K mg) : FnMid P w K mg base 7 (spMiddle K) := by
  have S : FnScope ["book", "home", "requests", "look", "toggle", "prices", "_"] ["book", "home", "requests", "look", "toggle"] (defScope (top 37)) := ⟨rfl, rfl, rfl, by decide +kernel, rfl, by decide +kernel, by decide +kernel⟩
  obtain ⟨f, fd, F, hm⟩ := T.d_middle_plan.ex
  refine ⟨f, fd, F, hm, F.ok S (fun vs H Q E ⟨_, _, _, _, _, _, _, _, _, _, e, _⟩ => by rw [e]; rfl) fun cdv A0 outer s H vs Q E hr ⟨B, M, N, u, vr, vt, home, rs, g, hd, e, br, gd, hu, hl, hrow, rl, rv, hh, rc, pc, gc, hno, hN, hR, hP⟩ => ?_⟩
  subst e
  refine ⟨_, (pss_cons (ps_expr (pe_cE (c_need_version T) hr (by decide) (by rfl) (passes_call (takes_of rfl rfl rfl rfl) fun _ _ _ _ z => z) (pa_cons (pv 0) (pa_cons (pv 1) pa_nil))))
      (pss_cons (ps_expr (pe_cE (c_need_requests T) hr (by decide) (by rfl) (passes_call (takes_of rfl rfl rfl rfl) fun _ _ _ _ z => z) (pa_cons (pv 0) (pa_cons (pv 2) pa_nil))))
      (pss_cons (ps_expr (pe_cE (c_checked_look T) hr (by decide) (by rfl) (passes_call (takes_of rfl rfl rfl rfl) fun _ _ _ _ z => z) (pa_cons (pv 3) pa_nil)))
      (pss_cons (ps_set (i := 5) S.nd rfl (Or.inl rfl) (pe_cE (c_positive_prices T) hr (by decide) (by rfl) (passes_call (takes_of rfl rfl rfl rfl) fun _ _ _ _ z => z) (pa_cons (pe_callB (k_lenOwn (c_Book_len T) (hr.mono (by decide))) (by rfl) T.b_len (by decide +kernel) (pa_cons (pv 0) pa_nil)) (pa_cons (pv 4) pa_nil))))
      (pss_cons (ps_if (pt_cmpR op_eq (pe_callB (k_lenK (K := K) rfl) (by rfl) T.b_len (by decide +kernel) (pa_cons (pv 5) pa_nil)) pe_int (nomark _)) (pss_one (ps_ret (pe_lc (own := [("_", 6)]) (by rfl) S.nd (pi_listK (K := K) rfl (pv 2)) (blkOk_by (own := [("_", 6)]) (by kernel_rfl)) (fun _ _ _ _ _ => (pg_name (i := 6) S.nd rfl (Or.inl rfl))) (fun _ _ _ _ _ => pts_nil) (fun _ _ _ _ _ => (pe_tup pa_nil))))) pss_nil)
      (pss_one (ps_ret (pe_c (c_stretch_plan T) hr (by decide) (by rfl) (pa_cons (pv 0) (pa_cons (pv 1) (pa_cons (pv 2) (pa_cons (pe_op op_fdivW (pe_callBfun k_isqrt (by rfl) T.isqrt (pa_cons (pe_op op_mulW (pe_op op_mulW pe_int (pe_callB (k_minLK (K := K) rfl rfl) (by rfl) T.b_min (by decide +kernel) (pa_cons (pv 5) pa_nil))) (pe_callB (k_maxLK (K := K) rfl rfl) (by rfl) T.b_max (by decide +kernel) (pa_cons (pv 5) pa_nil))) pa_nil)) (pv 3)) pa_nil)))))))))))), ?_⟩
  have hN20 := gd.nN
  walk_at "rd"
  refine ⟨B, M, N, u, home, rfl, br, gd, hu, hl, fun cv => ?_, fun cv => ?_⟩
  rotate_left 1
  · exact hN home (by unfold dueF; rw [if_pos cv])
  have e1 : dueF M N home rs g hd = match rs.findIdx? (badR M N) with
    | some i => .i 2 i
    | none => if g < 1 then .i 3 g else dueP N hd := by unfold dueF; rw [if_neg (by rw [cv]; exact fun z => by cases z)] <;> rfl
  walk_at "rd"
  refine ⟨B, M, N, vr, rs, rfl, br, gd, hrow, rl, rv, fun cb => ?_, fun i cb => ?_⟩
  rotate_left 1
  · exact hR i (by rw [e1, cb])
  rw [cb] at e1
  walk_at "rd"
  refine ⟨g, rfl, fun cg => ?_, fun cg => ?_⟩
  rotate_left 1
  · exact hP g (by rw [e1]; exact if_pos cg)
  have e2 : dueF M N home rs g hd = dueP N hd := by rw [e1]; exact if_neg (by omega)
  rw [e2] at hno hP
  walk_at "rd"
  refine ⟨B.b, B.dx, bfs B, rfl, br.b, B, M, N, rfl, br, N, rfl, by omega, by omega, ?_⟩
  walk_at "rd"
  refine ⟨N, vt, hd, rfl, by omega, hh, fun cn q H1 s1 hq h1 => ?_, fun n cn => hP n cn⟩
  obtain ⟨a, b, m, hab, m0, m1, m2, hfin⟩ := hno cn
  have br1 := br.mono s1
  have pos : ∀ p ∈ prs N hd, 1 ≤ p := fun p hp => by
    cases hd with
    | inl k =>
      have ek : p = k := (List.mem_replicate.mp hp).2
      subst ek
      by_cases c : p < 1
      · have : dueP N (.inl p) = .i 3 p := if_pos c
        rw [this] at cn; cases cn
      · omega
    | inr ps =>
      by_cases c : ps.length ≠ N
      · have : dueP N (.inr ps) = .i 3 ps.length := if_pos c
        rw [this] at cn; cases cn
      · have e3 : dueP N (.inr ps) = match ps.find? (fun p => decide (p < 1)) with | some p => .i 3 p | none => .no := if_neg c
        rw [e3] at cn
        cases e4 : ps.find? (fun p => decide (p < 1)) with
        | some y => rw [e4] at cn; cases cn
        | none =>
          have := List.find?_eq_none.mp e4 p hp
          simp at this; omega
  have pl : (prs N hd).length = N := by
    cases hd with
    | inl k => simp [prs]
    | inr ps =>
      by_cases c : ps.length ≠ N
      · have : dueP N (.inr ps) = .i 3 ps.length := if_pos c
        rw [this] at cn; cases cn
      · show ps.length = N
        omega
  have lp : ((iv (prs N hd)).length : Int) = N := by simp [pl]
  walk_at "rd"
  refine rd_lenL (sl h1) ?_
  walk_at "rd"
  rw [lp]
  obtain ⟨ar, xr, rfl, hra, fr⟩ := hrow
  refine rd_ite (fun c0 => ?_) fun c0 => ?_
  · have n0 : N = 0 := by omega
    subst n0
    walk_at "rd"
    refine ⟨_, rfl, ⟨_, sl (s1 _ _ hra)⟩, fun D hD => ?_⟩
    refine lcD (fun _ => true) (fun _ y G => IT G y []) (sl (s1 _ _ hra)) fr hD (by omega) (fun _ y G G' s' q => m_IT _ _ _ _ s' q) (fun x r H3 _ _ s3 nD R1 R0 r1 r0 => ?_) fun H3 ys s3 h3 f3 => ?_
    · walk_at "rd"
      refine ⟨rfl, ?_⟩
      walk_at "rd"
      refine ⟨ll (by simp), fun l hl' => ?_⟩
      exact r1 rfl _ _ (Same.new hl') (.one (fun z => nD (by rw [← z]; exact hl')) ⟨l, rfl, upd_same ..⟩)
    · refine hfin D H3 (s1.trans s3) ⟨D, ys, rfl, h3, ?_⟩ (s1.free hD)
      rw [filter_tt] at f3
      rw [plan0]
      exact F2.flip (F2.mapL (f := fun _ : List Int × Int => ([] : List Int)) (R := fun d y => IT H3 y d) f3)
  · have hne : N ≠ 0 := fun z => c0 (by omega)
    obtain ⟨ha, hb, hall⟩ := hab hne
    have a1 := pos a ha
    have b1 := pc b hb
    have ab := hall a ha
    have a2 := pc a ha
    walk_at "rd"
    refine rd_minL (sl h1) (by omega) fun x hx hxm => ?_
    have exa : x = a := Int.le_antisymm (hxm a ha) (hall x hx).1
    subst exa
    walk_at "rd"
    refine rd_mul (by omega) (by omega) ?_
    walk_at "rd"
    refine rd_maxL (sl h1) (by omega) fun y hy hym => ?_
    have eyb : y = b := Int.le_antisymm (hall y hy).2 (hym b hb)
    subst eyb
    walk_at "rd"
    refine rd_mul (by omega) (by omega) ?_
    have q0 := mul_bd (a := 4 * x) (b := y) (A := 4 * 2 ^ 50) (B := 2 ^ 50) (by omega) (by omega) (by omega) (by omega)
    have ecast : 4 * x * y = (((4 * x * y).toNat : Nat) : Int) := (Int.toNat_of_nonneg q0.1).symm
    refine ⟨(4 * x * y).toNat, by rw [← ecast], by omega, fun k k1 k2 => ?_⟩
    have k1' : (k : Int) * k ≤ 4 * x * y := by rw [ecast]; exact_mod_cast k1
    have k2' : 4 * x * y < ((k : Int) + 1) * (k + 1) := by rw [ecast]; exact_mod_cast k2
    have ekm : (k : Int) = m := root_eq (by omega) m0 k1' k2' m1 m2
    have mb : m < 2 ^ 60 := by
      refine Int.not_le.mp fun z => ?_
      have := sq_le (a := 2 ^ 60) (b := m) (by omega) z
      omega
    walk_at "rd"
    refine rd_div (by omega) (by omega) ?_
    have g0 : (1 : Int) ≤ g := cg
    have d0 : 0 ≤ m / g := Int.ediv_nonneg m0 (by omega)
    have d1 : m / g ≤ m := Int.ediv_le_self _ m0
    walk_at "rd"
    rw [ekm]
    refine ⟨B, M, N, u, .ref ar, home, rs, m / g, rfl, br1, gd, m_IT _ _ _ _ s1 hu, hl, ⟨ar, xr, rfl, s1 _ _ hra, fr.imp fun _ _ _ q => m_Rq _ _ _ _ s1 q⟩, rl, rv, cv, cb, fun r hr' => ?_, d0, by omega, fun q2 H2 s2 p2 hq2 => hfin q2 H2 (s1.trans s2) p2 (s1.free hq2)⟩
    obtain ⟨i, hi⟩ := List.mem_iff_getElem?.mp hr'
    have hbad := List.findIdx?_eq_none_iff.mp cb r hr'
    unfold badR at hbad
    simp only [Bool.or_eq_false_iff, decide_eq_false_iff_not] at hbad
    exact ⟨by omega, rc r hr'⟩
end
end LK
set_option maxHeartbeats 4000000
namespace LK
open PySem PySem.Spec PyProof.Rows L2
local macro_rules | `(tactic| walk_at "rd") => `(tactic| (repeat (first
  | with_reducible refine rd_seq ?_
  | with_reducible refine rd_asg ?_
  | with_reducible refine rd_ret ?_
  | with_reducible refine rd_drop ?_
  | with_reducible refine rd_if ?_
  | with_reducible refine rd_next ?_
  | ((with_reducible apply rd_var); (· exact rfl))
  | with_reducible refine rd_c ?_
  | with_reducible refine rd_op ?_
  | with_reducible refine rd_un ?_
  | with_reducible refine rd_I0 ?_
  | with_reducible refine rd_U ?_
  | with_reducible refine rd_eq ?_
  | with_reducible refine rd_ne ?_
  | with_reducible refine rd_neB ?_
  | with_reducible refine rd_asB ?_
  | with_reducible refine rd_test ?_
  | with_reducible refine rd_tB ?_
  | with_reducible refine rd_not ?_
  | with_reducible refine rd_and ?_
  | with_reducible refine rd_or ?_
  | with_reducible refine rd_andV ?_
  | with_reducible refine rd_orV ?_
  | with_reducible refine rd_notV ?_
  | with_reducible refine rd_ifx ?_
  | with_reducible refine rd_chain ?_
  | with_reducible refine rd_nil ?_
  | with_reducible refine rd_cons ?_
  | with_reducible refine rd_call ?_
  | with_reducible refine rd_cb ?_
  | with_reducible refine rd_lst ?_
  | with_reducible refine rd_tup ?_
  | with_reducible refine rd_min ?_
  | with_reducible refine rd_max ?_
  | with_reducible refine rd_abs ?_
  | with_reducible refine rd_int ?_
  | with_reducible refine rd_bm ?_
  | with_reducible refine rd_nt ?_
  | with_reducible refine rd_nf ?_
  | with_reducible refine rd_rg3 ?_
  | with_reducible refine rd_gnil ?_
  | with_reducible refine rd_gcons ?_
  | with_reducible refine rd_yes ?_
  | with_reducible refine rd_tt ?_
  | with_reducible refine rd_ff ?_
  | with_reducible refine rd_fld ?_
  | with_reducible refine rd_meth ?_
  | with_reducible refine rd_rev ?_
  | with_reducible refine rd_callN ?_
  | with_reducible refine rd_rg1 ?_
  | with_reducible refine rd_rg2 ?_
  | with_reducible refine rd_nm ?_
  | with_reducible refine rd_lc ?_
  | with_reducible refine rd_iL' ?_
  | with_reducible refine rd_iT' ?_)))
local macro_rules | `(tactic| walk_at "hp") => `(tactic| (first
  | assumption
  | exact upd_same ..
  | (refine keep_upd (by assumption) ?_; walk_at "hp")
  | (refine same_app (by assumption) ?_; walk_at "hp")))


section
variable {P : Program} {w : World} {K : PySem.W.Frag} {mg : Str → Option Value} {base : Heap}
theorem c_middle_plan_look_toggle (T : Txt P K mg) : CalK P w K mg base 7 "middle_plan" 3 ["look", "toggle"] (fun vs zs => vs ++ zs) (spMiddle K) := by
  obtain ⟨f, fd, F, hm, ok⟩ := (fn_middle (w := w) (base := base) T).ex
  obtain ⟨mv, b⟩ := F.kbinds0 (ps := ["book", "home", "requests", "look", "toggle"]) 3 ["look", "toggle"] [] (fun us _ ws => us ++ ws) (by decide) (fun q hq => by cases hq) (fun r _ q => r.append q) fun D doc pm an cdv ct us mv ws h1 _ h2 => by
    match us, h1, ws, h2 with | [_, _, _], _, [_, _], _ => exact (rfl : bindArgs _ _ = _)
  exact ⟨f, fd, _, _, ok, hm, F.kp, b⟩
theorem c_middle_plan_look (T : Txt P K mg) : CalK P w K mg base 7 "middle_plan" 3 ["look"] (fun vs zs => vs ++ zs ++ [.int 1]) (spMiddle K) := by
  obtain ⟨f, fd, F, hm, ok⟩ := (fn_middle (w := w) (base := base) T).ex
  obtain ⟨mv, b⟩ := F.kbinds0 (ps := ["book", "home", "requests", "look", "toggle"]) 3 ["look"] [("toggle", .int 1)] (fun us ms ws => us ++ ws ++ ms) (by decide) (fun q hq => by simp at hq; simp [hq]) (fun r m q => (r.append q).append m) fun D doc pm an cdv ct us mv ws h1 h3 h2 => by
    match us, h1, ws, h2, mv, h3 with | [_, _, _], _, [_], _, [_], _ => exact ⟨_, _, _, _, _, _, rfl, rfl, rfl⟩
  exact ⟨f, fd, _, _, ok, hm, F.kp, b⟩
theorem c_middle_plan_toggle (T : Txt P K mg) : CalK P w K mg base 7 "middle_plan" 3 ["toggle"] (fun vs zs => vs ++ [.int 1] ++ zs) (spMiddle K) := by
  obtain ⟨f, fd, F, hm, ok⟩ := (fn_middle (w := w) (base := base) T).ex
  obtain ⟨mv, b⟩ := F.kbinds0 (ps := ["book", "home", "requests", "look", "toggle"]) 3 ["toggle"] [("look", .int 1)] (fun us ms ws => us ++ ms ++ ws) (by decide) (fun q hq => by simp at hq; simp [hq]) (fun r m q => (r.append m).append q) fun D doc pm an cdv ct us mv ws h1 h3 h2 => by
    match us, h1, ws, h2, mv, h3 with | [_, _, _], _, [_], _, [_], _ => exact ⟨_, _, _, _, _, _, rfl, rfl, rfl⟩
  exact ⟨f, fd, _, _, ok, hm, F.kp, b⟩
/-- a def called with some defaults lacking -/
structure CalD (P : Program) (w : World) (K : PySem.W.Frag) (mg : Str → Option Value) (base : Heap) (k : Nat) (x : Str) (dvs : List V) (sp : Sp) : Prop where
  ex : ∃ (f : Addr) (fd : FuncData) (ps : List Str) (ds : List Value), FnOk P w K mg base (L2.CX P w) k f fd ps sp ∧ mg x = some (.ref f) ∧ PySem.W.keepIn K (.ref f) = true ∧ Binds K fd ps ds ∧ Vals dvs ds
theorem c_middle_plan_none (T : Txt P K mg) : CalD P w K mg base 7 "middle_plan" [.int 1, .int 1] (spMiddle K) := by
  obtain ⟨f, fd, F, hm, ok⟩ := (fn_middle (w := w) (base := base) T).ex
  obtain ⟨ds, v, b⟩ := F.binds0 (ps := ["book", "home", "requests", "look", "toggle"]) 3 (by decide) (by decide) fun D doc pm an cdv ct us ks h1 h2 => by
    match us, h1, ks, h2 with | [_, _, _], _, [_, _], _ => exact ⟨_, _, _, _, _, _, rfl, rfl, _, _, _, _, _, _, rfl, rfl, rfl⟩
  exact ⟨f, fd, _, ds, ok, hm, F.kp, b, v⟩
end
section
variable {X : Cx} {k j : Nat} {x : Str} {sp : Sp} {E : XK} {p pos : Pos} {e : Expr} {es : List Expr} {t : TA} {dvs : List V}
theorem pe_cD (c : CalD X.prog X.w X.K X.mg X.base k x dvs sp) (hr : Room j X.A) (hk : k ≤ j) (hg : Gl X x) (ha : PA X (e :: es) t)
    (hdb : (x == ("__debug__" : Str)) = false := by decide) (he : starEach (e :: es) X.env = (false, eval e X.env) :: starEach es X.env := by rfl) (hpl : (backTo pos (starEach es X.env)).any (·.1) = false := by rfl) :
    PE X (.Call (.Name x p) (e :: es) [] pos) (tCall sp dvs E0 t) := by
  obtain ⟨f, fd, ps, ds, F, hm, kp, b, v⟩ := c.ex
  exact pe_call F (hr.mono hk) hg hm kp b v passL ha hdb he hpl
end
end LK
set_option maxHeartbeats 4000000
namespace LK
open PySem PySem.Spec PyProof.Rows L2
local macro_rules | `(tactic| walk_at "rd") => `(tactic| (repeat (first
  | with_reducible refine rd_seq ?_
  | with_reducible refine rd_asg ?_
  | with_reducible refine rd_ret ?_
  | with_reducible refine rd_drop ?_
  | with_reducible refine rd_if ?_
  | with_reducible refine rd_next ?_
  | ((with_reducible apply rd_var); (· exact rfl))
  | with_reducible refine rd_c ?_
  | with_reducible refine rd_op ?_
  | with_reducible refine rd_un ?_
  | with_reducible refine rd_I0 ?_
  | with_reducible refine rd_U ?_
  | with_reducible refine rd_eq ?_
  | with_reducible refine rd_ne ?_
  | with_reducible refine rd_neB ?_
  | with_reducible refine rd_asB ?_
  | with_reducible refine rd_test ?_
  | with_reducible refine rd_tB ?_
  | with_reducible refine rd_not ?_
  | with_reducible refine rd_and ?_
  | with_reducible refine rd_or ?_
  | with_reducible refine rd_andV ?_
  | with_reducible refine rd_orV ?_
  | with_reducible refine rd_notV ?_
  | with_reducible refine rd_ifx ?_
  | with_reducible refine rd_chain ?_
  | with_reducible refine rd_nil ?_
  | with_reducible refine rd_cons ?_
  | with_reducible refine rd_call ?_
  | with_reducible refine rd_cb ?_
  | with_reducible refine rd_lst ?_
  | with_reducible refine rd_tup ?_
  | with_reducible refine rd_min ?_
  | with_reducible refine rd_max ?_
  | with_reducible refine rd_abs ?_
  | with_reducible refine rd_int ?_
  | with_reducible refine rd_bm ?_
  | with_reducible refine rd_nt ?_
  | with_reducible refine rd_nf ?_
  | with_reducible refine rd_rg3 ?_
  | with_reducible refine rd_gnil ?_
  | with_reducible refine rd_gcons ?_
  | with_reducible refine rd_yes ?_
  | with_reducible refine rd_tt ?_
  | with_reducible refine rd_ff ?_
  | with_reducible refine rd_fld ?_
  | with_reducible refine rd_meth ?_
  | with_reducible refine rd_rev ?_
  | with_reducible refine rd_callN ?_
  | with_reducible refine rd_rg1 ?_
  | with_reducible refine rd_rg2 ?_
  | with_reducible refine rd_nm ?_
  | with_reducible refine rd_lc ?_
  | with_reducible refine rd_iL' ?_
  | with_reducible refine rd_iT' ?_)))
local macro_rules | `(tactic| walk_at "hp") => `(tactic| (first
  | assumption
  | exact upd_same ..
  | (refine keep_upd (by assumption) ?_; walk_at "hp")
  | (refine same_app (by assumption) ?_; walk_at "hp")))


section
variable {X : Cx} {CX : CXT} {k n : Nat} {f : Addr} {fd : FuncData} {ps ks : List Str} {sp : Sp} {E : L2.St → XK} {x : Str} {p pos : Pos} {e : Expr} {es : List Expr} {kws : List Keyword} {t tk : TA} {g : List Value → List Value → List Value} {gV : List V → List V → List V}
def tCallNS (n m : Nat) (sp : Sp) (gV : List V → List V → List V) (E : L2.St → XK) (t tk : TA) : TE := fun σ H Q => t σ H fun vs H1 => tk σ H1 fun zs H2 => vs.length = n ∧ zs.length = m ∧ sp (gV vs zs) H2 Q (E σ)
theorem pe_callNS (F : FnOk X.prog X.w X.K X.mg X.base CX k f fd ps sp) (hr : Room k X.A) (hg : Gl X x) (hm : X.mg x = some (.ref f)) (hk : PySem.W.keepIn X.K (.ref f) = true) (hb : KBn X.K fd ps n ks g gV) (hx : ∀ σ, PassesAt CX X σ (E σ))
    (ha : PA X (e :: es) t) (hkw : PK X kws tk) (hall : (backToKw pos (keywordEach kws X.env)).all (·.1.isSome) = true := by rfl) (hks : (backToKw pos (keywordEach kws X.env)).filterMap (·.1) = ks := by rfl)
    (hdb : (x == ("__debug__" : Str)) = false := by decide) (he : starEach (e :: es) X.env = (false, eval e X.env) :: starEach es X.env := by rfl)
    (hpl : ((backTo pos (starEach (e :: es) X.env)).any (·.1) || (backToKw pos (keywordEach kws X.env)).any (·.1.isNone)) = false := by rfl) :
    PE X (.Call (.Name x p) (e :: es) kws pos) (tCallNS n ks.length sp gV E t tk) := by
  refine ⟨fun pins s σ H Q I h => ?_⟩
  refine wpAny_Call_Name_kw (ld_glob I hg hm ?_ hdb)
  refine PySem.W.callWith_KW (h₀ := X.base) I.ok.mod.kin hk hall (thn (ha.run pos pins s σ H _ I h) fun us s1 ⟨vs, H1, I1, r, q⟩ => ?_) hpl he
  refine thn (hkw.run pos pins s1 σ H1 _ I1 q) fun ws s2 ⟨zs, H2, I2, rz, l1, l2, q2⟩ => ⟨I2.kIn, ?_⟩
  rw [hks]
  have r2 := hb.rel r rz
  refine wpAny_call (codeAny_mono (F.run X.A X.stack s2 H2 ⟨us, ks.zip ws⟩ (g us ws) (gV vs zs) Q (E σ) hr I2.env0 (hb.to s2 us ws I2.kIn (r.length.symm.trans l1) (rz.length.symm.trans l2)) r2 q2) fun r s' hq => ?_)
  cases r with
  | error e => exact hx σ pins H2 s2 e s' I2 hq
  | ok fl =>
    cases fl with
    | ret u => exact I2.after hq
    | next => exact False.elim hq
    | brk => exact False.elim hq
    | cont => exact False.elim hq
theorem pe_cKS {j : Nat} (c : CalK X.prog X.w X.K X.mg X.base k x n ks gV sp) (hr : Room j X.A) (hk : k ≤ j) (hg : Gl X x) (hx : ∀ σ, PassesAt (L2.CX X.prog X.w) X σ (E σ)) (ha : PA X (e :: es) t) (hkw : PK X kws tk)
    (hall : (backToKw pos (keywordEach kws X.env)).all (·.1.isSome) = true := by rfl) (hks : (backToKw pos (keywordEach kws X.env)).filterMap (·.1) = ks := by rfl)
    (hdb : (x == ("__debug__" : Str)) = false := by decide) (he : starEach (e :: es) X.env = (false, eval e X.env) :: starEach es X.env := by rfl)
    (hpl : ((backTo pos (starEach (e :: es) X.env)).any (·.1) || (backToKw pos (keywordEach kws X.env)).any (·.1.isNone)) = false := by rfl) :
    PE X (.Call (.Name x p) (e :: es) kws pos) (tCallNS n ks.length sp gV E t tk) := by
  obtain ⟨f, fd, ps, g, F, hm, kp, b⟩ := c.ex
  exact pe_callNS F (hr.mono hk) hg hm kp b hx ha hkw hall hks hdb he hpl
end
theorem rd_callNS {n m : Nat} {sp : Sp} {gV : List V → List V → List V} {E : L2.St → XK} {t tk : TA} {σ : L2.St} {H : Hp} {Q : VK} (h : t σ H fun vs H1 => tk σ H1 fun zs H2 => vs.length = n ∧ zs.length = m ∧ sp (gV vs zs) H2 Q (E σ)) : tCallNS n m sp gV E t tk σ H Q := h
theorem k_isXK {X : Cx} {K : PySem.W.Frag} {a : Addr} {oe : Obj} {pn : List (Addr × Obj)} {cls : Value} {d : Option Addr} (q : X.K = K) (hz : Zc cls d oe) (hf : ∃ vs, oe.data = .fields vs) : CallR (X.suite a ((a, oe) :: pn)) (.builtin "isinstance") (rIsX K a cls d) := q ▸ k_isX hz hf
theorem k_isXTK {X : Cx} {K : PySem.W.Frag} {a : Addr} {oe : Obj} {pn : List (Addr × Obj)} {cls : Value} {d : Option Addr} (q : X.K = K) (hz : Zc cls d oe) (hf : ∃ vs, oe.data = .fields vs) : CallR (X.suite a ((a, oe) :: pn)) (.builtin "isinstance") (rIsXT K a cls d) := q ▸ k_isXT hz hf
theorem due_h {M : Mod} {N : Nat} {home xs : List Int} {rs : List (List Int × Int)} {g : Int} {hd : Sum Int (List Int)} (h : dueF M N home rs g hd = .h xs) : xs = home := by
  have p : ∀ N hd, dueP N hd ≠ .h xs := fun N hd h => by
    cases hd with
    | inl k =>
      unfold dueP at h
      by_cases c : k < 1 <;> simp [c] at h
    | inr ps =>
      unfold dueP at h
      by_cases c : ps.length = N
      · cases e : ps.find? (fun p => decide (p < 1)) <;> simp [c, e] at h
      · simp [c] at h
  unfold dueF at h
  by_cases c : isV M N home = false
  · rw [if_pos c] at h; cases h; rfl
  · rw [if_neg c] at h
    cases e : rs.findIdx? (badR M N) with
    | some i => rw [e] at h; cases h
    | none =>
      rw [e] at h
      by_cases c2 : g < 1
      · have h' : (if g < 1 then Du.i 3 g else dueP N hd) = .h xs := h
        rw [if_pos c2] at h'; cases h'
      · have h' : (if g < 1 then Du.i 3 g else dueP N hd) = .h xs := h
        rw [if_neg c2] at h'
        exact absurd h' (p N hd)
section
variable {P : Program} {w : World} {K : PySem.W.Frag} {mg : Str → Option Value} {base : Heap}
def spRefused (K : PySem.W.Frag) : Sp := fun vs H Q _ => ∃ (B : BA) (M : Mod) (N : Nat) (u vr vt : V) (home : List Int) (rs : List (List Int × Int)) (g : Int) (hd : Sum Int (List Int)), vs = [.ref B.b, u, vr, .int g, vt] ∧ BR K H B M N ∧ Good M N ∧ IT H u home ∧ home.length < 1000 ∧ Row H vr rs ∧ rs.length < 1000 ∧ (∀ r ∈ rs, r.1.length < 1000) ∧
  Hd H vt hd ∧ (∀ r ∈ rs, r.2 ≤ 2 ^ 50) ∧ (∀ p ∈ prs N hd, p ≤ 2 ^ 50) ∧ g < 2 ^ 50 ∧
  (dueF M N home rs g hd = .no → ∃ a b m : Int, (N ≠ 0 → a ∈ prs N hd ∧ b ∈ prs N hd ∧ ∀ p ∈ prs N hd, a ≤ p ∧ p ≤ b) ∧ 0 ≤ m ∧ m * m ≤ 4 * a * b ∧ 4 * a * b < (m + 1) * (m + 1)) ∧
  (∀ k n, dueF M N home rs g hd = .i k n → k = 2 ∨ k = 3) ∧ ∀ v H', Same H H' → DuAt H' v (dueF M N home rs g hd) → Q v H'
theorem c__law_refused (T : Txt P K mg) : Cal P w K mg base 8 "_law_refused" (spRefused K) := by
  have S : FnScope ["_law_book_here", "_law_home", "_law_row_here", "_law_gaze", "_law_handed", "e", "_law_fine"] ["_law_book_here", "_law_home", "_law_row_here", "_law_gaze", "_law_handed"] (defScope (top 65)) := ⟨rfl, rfl, rfl, by decide +kernel, rfl, by decide +kernel, by decide +kernel⟩
  refine T.d__law_refused.calX S (fun _ _ _ _ _ _ us hl => match us, hl with | [_, _, _, _, _], _ => rfl) (fun vs H Q E ⟨_, _, _, _, _, _, _, _, _, _, e, _⟩ => by rw [e]; rfl) fun f cdv A0 outer s H vs Q E hr ⟨B, M, N, u, vr, vt, home, rs, g, hd, e, br, gd, hu, hl, hrow, rl, rv, hh, rc, pc, gc, hno, hk, h⟩ => ?_
  subst e
  refine ⟨_, (pss_cons (ps_try_ma (i := 5) rfl rfl S.nd rfl rfl (takes_of rfl rfl rfl rfl)
      (fun W pn xe tk po => (pss_one (ps_expr (pe_cKS (E := WE W) (c_middle_plan_look_toggle T) hr (by decide) (by rfl) (passAt tk) (pa_cons (pv 0) (pa_cons (pv 1) (pa_cons (pe_callTy (k_listK (K := K) rfl) (by rfl) T.b_list (by decide +kernel) (pa_cons (pv 2) pa_nil)) pa_nil))) (pk_cons (pv 3) (pk_cons (pv 4) pk_nil))))))
      (.cons (c := .ref (xN K)) ⟨by rfl, by decide, .inl T.x_N.c.gC⟩ (fun a oe cls d pn hz hf =>
        (pss_cons (ps_set (i := 6) S.nd rfl (Or.inl rfl) (pe_and (pe_callB (k_isXK (K := K) rfl hz hf) (by rfl) T.b_isinstance (by decide +kernel) (pa_cons (pv 5) (pa_cons (pe_glob (v := .ref (xL K)) (by rfl) T.x_L rfl) pa_nil))) (pe_and (pe_callB (k_isXK (K := K) rfl hz hf) (by rfl) T.b_isinstance (by decide +kernel) (pa_cons (pv 5) (pa_cons (pe_bltn (v := .ty "ValueError") (by rfl) T.b_ValueError (by decide +kernel) rfl) pa_nil)))
          (pe_one (pe_not (pe_callB (k_isXTK (K := K) rfl hz hf) (by rfl) T.b_isinstance (by decide +kernel) (pa_cons (pv 5) (pa_cons (pe_tup (pa_cons (pe_glob (v := .ref (xR K)) (by rfl) T.x_R.c.gC rfl) (pa_cons (pe_glob (v := .ref (xP K)) (by rfl) T.x_P.c.gC rfl) pa_nil))) pa_nil))))))))
        (pss_one (ps_ret (pe_ifExp (pt_val (pv 6)) (pe_lst (pa_cons pe_int (pa_cons (pe_xf (C := xN K) T.x_N.f T.x_N.c.noN hz hf (pv 5)) pa_nil))) (pe_lst (pa_cons pe_int pa_nil)))))))
      (.cons (c := .ref (xR K)) ⟨by rfl, by decide, .inl T.x_R.c.gC⟩ (fun a oe cls d pn hz hf =>
        (pss_cons (ps_set (i := 6) S.nd rfl (Or.inl rfl) (pe_and (pe_callB (k_isXK (K := K) rfl hz hf) (by rfl) T.b_isinstance (by decide +kernel) (pa_cons (pv 5) (pa_cons (pe_glob (v := .ref (xL K)) (by rfl) T.x_L rfl) pa_nil))) (pe_and (pe_callB (k_isXK (K := K) rfl hz hf) (by rfl) T.b_isinstance (by decide +kernel) (pa_cons (pv 5) (pa_cons (pe_bltn (v := .ty "ValueError") (by rfl) T.b_ValueError (by decide +kernel) rfl) pa_nil)))
          (pe_one (pe_not (pe_callB (k_isXK (K := K) rfl hz hf) (by rfl) T.b_isinstance (by decide +kernel) (pa_cons (pv 5) (pa_cons (pe_glob (v := .ref (xP K)) (by rfl) T.x_P.c.gC rfl) pa_nil))))))))
        (pss_one (ps_ret (pe_ifExp (pt_val (pv 6)) (pe_lst (pa_cons pe_int (pa_cons (pe_xf (C := xR K) T.x_R.f T.x_R.c.noN hz hf (pv 5)) pa_nil))) (pe_lst (pa_cons pe_int pa_nil)))))))
      (.cons (c := .ref (xP K)) ⟨by rfl, by decide, .inl T.x_P.c.gC⟩ (fun a oe cls d pn hz hf =>
        (pss_one (ps_ret (pe_ifExp (PW.pt (pw_and (pt_val (pe_callB (k_isXK (K := K) rfl hz hf) (by rfl) T.b_isinstance (by decide +kernel) (pa_cons (pv 5) (pa_cons (pe_glob (v := .ref (xL K)) (by rfl) T.x_L rfl) pa_nil)))) (pw_and1 (pt_val (pe_callB (k_isXK (K := K) rfl hz hf) (by rfl) T.b_isinstance (by decide +kernel) (pa_cons (pv 5) (pa_cons (pe_bltn (v := .ty "ValueError") (by rfl) T.b_ValueError (by decide +kernel) rfl) pa_nil))))))) (pe_lst (pa_cons pe_int (pa_cons (pe_xf (C := xP K) T.x_P.f T.x_P.c.noN hz hf (pv 5)) pa_nil))) (pe_lst (pa_cons pe_int pa_nil))))))
      .nil))))
      (pss_one (ps_ret (pe_lst pa_nil)))), ?_⟩
  obtain ⟨ar, xr, rfl, hra, fr⟩ := hrow
  refine rd_seq ?_
  refine rd_drop ?_
  refine rd_callNS ?_
  walk_at "rd"
  refine rd_listL (sl hra) fun l hl' => ?_
  have s1 : Same H (upd H l (.lst xr)) := Same.new hl'
  have hl1 : (upd H l (.lst xr)) l = some (.lst xr) := upd_same ..
  generalize upd H l (.lst xr) = H1 at *
  walk_at "rd"
  have hu1 := m_IT _ _ _ _ s1 hu
  refine ⟨rfl, rfl, B, M, N, u, .ref l, vt, home, rs, g, hd, rfl, br.mono s1, gd, hu1, hl, ⟨l, xr, rfl, hl1, fr.imp fun _ _ _ q => m_Rq _ _ _ _ s1 q⟩, rl, rv, m_Hd _ _ _ _ s1 hh, rc, pc, gc, fun hdue => ?_, fun xs hdue => ?_, fun n hdue => ?_, fun n hdue => ?_⟩
  · obtain ⟨a, b, m, h1, h2, h3, h4⟩ := hno hdue
    refine ⟨a, b, m, h1, h2, h3, h4, fun q H2 s2 _ _ => ?_⟩
    walk_at "rd"
    refine ⟨ll (by simp), fun r hr' => ?_⟩
    refine h _ _ ((s1.trans s2).trans (Same.new hr')) ?_
    rw [hdue]
    exact ⟨r, rfl, upd_same ..⟩
  · intro d hd1
    have sd : Same H1 (upd H1 d (.xd [("version", u)])) := Same.new hd1
    have hxd : (upd H1 d (.xd [("version", u)])) d = some (.xd [("version", u)]) := upd_same ..
    generalize upd H1 d (.xd [("version", u)]) = H2 at *
    refine ⟨true, T.e_NN, fun _ a ha => ?_, fun z => by cases z⟩
    walk_at "rd"
    refine ⟨xN K, d, _, _, _, true, rfl, rfl, ⟨T.x_N.i, T.x_N.c.exC, T.x_N.mo⟩, hxd, rfl, .own _, T.x_N.isL, ?_⟩
    walk_at "rd"
    refine ⟨xN K, d, _, _, _, true, rfl, rfl, ⟨T.x_N.i, T.x_N.c.exC, T.x_N.mo⟩, hxd, rfl, .ty _, T.x_N.isV, ?_⟩
    walk_at "rd"
    refine ⟨ll (by simp), fun tp htp => ?_⟩
    have st : Same H2 (upd H2 tp (.tup [.ref (xR K), .ref (xP K)])) := Same.new htp
    have hxd' := st _ _ hxd
    have htp' : (upd H2 tp (.tup [.ref (xR K), .ref (xP K)])) tp = some (.tup [.ref (xR K), .ref (xP K)]) := upd_same ..
    show _
    walk_at "rd"
    generalize upd H2 tp (.tup [.ref (xR K), .ref (xP K)]) = H3 at *
    refine ⟨xN K, d, tp, _, _, _, false, rfl, rfl, ⟨T.x_N.i, T.x_N.c.exC, T.x_N.mo⟩, hxd', rfl, htp', .cons (.own _) (.cons (.own _) .nil), T.k_N, ?_⟩
    walk_at "rd"
    refine ⟨_, rfl, ?_⟩
    walk_at "rd"
    refine ⟨rfl, rfl, d, _, u, rfl, hxd', rfl, ?_⟩
    walk_at "rd"
    refine ⟨ll (by simp), fun r hr' => ?_⟩
    have s0 := ((s1.trans sd).trans st).trans (Same.new hr' (o := .lst [.int 1, u]))
    refine h _ _ s0 ?_
    rw [hdue, due_h hdue]
    exact ⟨r, u, rfl, upd_same .., m_IT _ _ _ _ s0 hu⟩
  · intro d hd1
    have sd : Same H1 (upd H1 d (.xd [("index", .int n)])) := Same.new hd1
    have hxd : (upd H1 d (.xd [("index", .int n)])) d = some (.xd [("index", .int n)]) := upd_same ..
    generalize upd H1 d (.xd [("index", .int n)]) = H2 at *
    refine ⟨false, T.e_RN, (fun z => by cases z), fun _ => ⟨true, T.e_RR, fun _ a ha => ?_, fun z => by cases z⟩⟩
    walk_at "rd"
    refine ⟨xR K, d, _, _, _, true, rfl, rfl, ⟨T.x_R.i, T.x_R.c.exC, T.x_R.mo⟩, hxd, rfl, .own _, T.x_R.isL, ?_⟩
    walk_at "rd"
    refine ⟨xR K, d, _, _, _, true, rfl, rfl, ⟨T.x_R.i, T.x_R.c.exC, T.x_R.mo⟩, hxd, rfl, .ty _, T.x_R.isV, ?_⟩
    walk_at "rd"
    refine ⟨xR K, d, _, _, _, false, rfl, rfl, ⟨T.x_R.i, T.x_R.c.exC, T.x_R.mo⟩, hxd, rfl, .own _, T.k_R, ?_⟩
    walk_at "rd"
    refine ⟨_, rfl, ?_⟩
    walk_at "rd"
    refine ⟨rfl, rfl, d, _, .int n, rfl, hxd, rfl, ?_⟩
    walk_at "rd"
    refine ⟨ll (by simp), fun r hr' => ?_⟩
    refine h _ _ ((s1.trans sd).trans (Same.new hr')) ?_
    rw [hdue]
    exact ⟨r, rfl, upd_same ..⟩
  · intro d hd1
    have sd : Same H1 (upd H1 d (.xd [("price", .int n)])) := Same.new hd1
    have hxd : (upd H1 d (.xd [("price", .int n)])) d = some (.xd [("price", .int n)]) := upd_same ..
    generalize upd H1 d (.xd [("price", .int n)]) = H2 at *
    refine ⟨false, T.e_PN, (fun z => by cases z), fun _ => ⟨false, T.e_PR, (fun z => by cases z), fun _ => ⟨true, T.e_PP, fun _ a ha => ?_, fun z => by cases z⟩⟩⟩
    walk_at "rd"
    refine ⟨xP K, d, _, _, _, true, rfl, rfl, ⟨T.x_P.i, T.x_P.c.exC, T.x_P.mo⟩, hxd, rfl, .own _, T.x_P.isL, ?_⟩
    walk_at "rd"
    refine ⟨xP K, d, _, _, _, true, rfl, rfl, ⟨T.x_P.i, T.x_P.c.exC, T.x_P.mo⟩, hxd, rfl, .ty _, T.x_P.isV, ?_⟩
    walk_at "rd"
    refine ⟨_, rfl, ?_⟩
    walk_at "rd"
    refine ⟨rfl, rfl, d, _, .int n, rfl, hxd, rfl, ?_⟩
    walk_at "rd"
    refine ⟨ll (by simp), fun r hr' => ?_⟩
    refine h _ _ ((s1.trans sd).trans (Same.new hr')) ?_
    rw [hdue]
    exact ⟨r, rfl, upd_same ..⟩
end
end LK
set_option maxHeartbeats 4000000
/-! The plain law of plans: versions, costs. -/
namespace LK
/-! ### versions -/
structure VP (M : Mod) (N : Nat) (xs : List Int) : Prop where
  asc : xs.Pairwise (· < ·)
  inN : ∀ x ∈ xs, 1 ≤ x ∧ x ≤ N
  nd : ∀ x ∈ xs, ∀ q ∈ ndA M x, q ∈ xs
  br : ∀ x ∈ xs, ∀ r ∈ brA M x, r ∉ xs
theorem last_lt {ys : List Int} {y : Int} (asc : ys.Pairwise (· < ·)) (h : ∀ l, ys.getLast? = some l → l < y) : ∀ z ∈ ys, z < y := by
  intro z hz
  rcases List.eq_nil_or_concat ys with e | ⟨zs, l, e⟩
  · rw [e] at hz; cases hz
  · have e : ys = zs ++ [l] := e.trans List.concat_eq_append
    have hl := h l (by rw [e, List.getLast?_concat])
    rw [e] at hz asc
    rcases List.mem_append.mp hz with c | c
    · have := (List.pairwise_append.mp asc).2.2 z c l (by simp)
      omega
    · rw [List.mem_singleton.mp c]; exact hl
theorem isV_app {M : Mod} {N : Nat} {ys : List Int} {y : Int} : isV M N (ys ++ [y]) = true ↔ isV M N ys = true ∧ 1 ≤ y ∧ y ≤ N ∧ (∀ l, ys.getLast? = some l → l < y) ∧ fits M ys y = true := by
  unfold isV
  rw [goV_snoc]
  simp only [List.nil_append, Bool.and_eq_true, decide_eq_true_eq]
  constructor
  · rintro ⟨a, ⟨⟨b, c⟩, d⟩, e⟩; exact ⟨a, b, c, d, e⟩
  · rintro ⟨a, b, c, d, e⟩; exact ⟨a, ⟨⟨b, c⟩, d⟩, e⟩
theorem isV_iff {M : Mod} {N : Nat} (g : Good M N) : ∀ (n : Nat) (xs : List Int), xs.length = n → (isV M N xs = true ↔ VP M N xs)
  | 0, xs, hl => by
    obtain rfl : xs = [] := List.length_eq_zero_iff.mp hl
    exact ⟨fun _ => ⟨.nil, by simp, by simp, by simp⟩, fun _ => rfl⟩
  | n + 1, xs, hl => by
    rcases List.eq_nil_or_concat xs with e | ⟨ys, y, e⟩
    · rw [e] at hl; cases hl
    · have e : xs = ys ++ [y] := e.trans List.concat_eq_append
      subst e
      have ih := isV_iff g n ys (by simpa using hl)
      rw [isV_app, ih]
      constructor
      · rintro ⟨v, y1, y2, hlast, hf⟩
        obtain ⟨f1, f2⟩ := fits_iff.mp hf
        have lt := last_lt v.asc hlast
        refine ⟨List.pairwise_append.mpr ⟨v.asc, by simp, fun a ha b hb => by rw [List.mem_singleton.mp hb]; exact lt a ha⟩, fun x hx => ?_, fun x hx q hq => ?_, fun x hx r hr hrx => ?_⟩
        · rcases List.mem_append.mp hx with c | c
          · exact v.inN x c
          · rw [List.mem_singleton.mp c]; exact ⟨y1, y2⟩
        · rcases List.mem_append.mp hx with c | c
          · exact List.mem_append_left _ (v.nd x c q hq)
          · rw [List.mem_singleton.mp c] at hq
            exact List.mem_append_left _ (f1 q hq)
        · rcases List.mem_append.mp hx with c | c
          · rcases List.mem_append.mp hrx with d | d
            · exact v.br x c r hr d
            · rw [List.mem_singleton.mp d] at hr
              have xi := v.inN x c
              exact f2 x ((g.brs x y xi.1 xi.2 y1 y2).mp hr) c
          · rw [List.mem_singleton.mp c] at hr
            rcases List.mem_append.mp hrx with d | d
            · exact f2 r hr d
            · rw [List.mem_singleton.mp d] at hr
              exact (g.brr y y y1 y2 hr).2.2 rfl
      · intro v
        have y1 := v.inN y (by simp)
        have pw := List.pairwise_append.mp v.asc
        have lt : ∀ z ∈ ys, z < y := fun z hz => pw.2.2 z hz y (by simp)
        refine ⟨⟨pw.1, fun x hx => v.inN x (by simp [hx]), fun x hx q hq => ?_, fun x hx r hr hrx => v.br x (by simp [hx]) r hr (by simp [hrx])⟩, y1.1, y1.2, fun l el => lt l (List.mem_of_getLast? el), fits_iff.mpr ⟨fun q hq => ?_, fun r hr hrx => v.br y (by simp) r hr (by simp [hrx])⟩⟩
        · have xi := v.inN x (by simp [hx])
          have ql := ((g.nd x q xi.1 xi.2).mp hq).1
          have := lt x hx
          rcases List.mem_append.mp (v.nd x (by simp [hx]) q hq) with c | c
          · exact c
          · have := List.mem_singleton.mp c; omega
        · have ql := ((g.nd y q y1.1 y1.2).mp hq).1
          rcases List.mem_append.mp (v.nd y (by simp) q hq) with c | c
          · exact c
          · have := List.mem_singleton.mp c; omega
theorem isVP {M : Mod} {N : Nat} (g : Good M N) {xs : List Int} : isV M N xs = true ↔ VP M N xs := isV_iff g _ xs rfl
/-! ### counters, side by side -/
theorem clip_mono {a b t : Int} (h : a ≤ b) : clip a t ≤ clip b t := by unfold clip; omega
theorem ub_mono {t : Int} : ∀ {ws vs : List Int}, F2 (· ≤ ·) ws vs → ub t ws ≤ ub t vs
  | _, _, .nil => Int.le_refl _
  | _, _, .cons h r => by
    have := ub_mono (t := t) r
    exact clip_mono (by omega)
theorem rowF_mono {t : Int} : ∀ {ws vs : List Int} {D E : Int}, F2 (· ≤ ·) ws vs → D ≤ E → F2 (fun a b : Bool => a = true → b = true) (rowF t D ws) (rowF t E vs)
  | _, _, _, _, .nil, _ => .nil
  | _, _, _, _, .cons h r, hd => by
    have := ub_mono (t := t) r
    refine .cons (fun z => ?_) (rowF_mono r (clip_mono (by omega)))
    have z' := of_decide_eq_true z
    exact decide_eq_true (by omega)
theorem ub_neg {t : Int} (ht : 0 ≤ t) : ∀ {ws vs : List Int}, F2 (fun a b => b ≤ -a) ws vs → ub t vs ≤ -ub t ws
  | _, _, .nil => by simp [ub]
  | _, _, .cons h r => by
    have := ub_neg ht r
    simp only [ub, clip]; omega
theorem rowF_neg {t : Int} (ht : 0 ≤ t) : ∀ {ws vs : List Int} {D E : Int}, F2 (fun a b => b ≤ -a) ws vs → E ≤ -D → F2 (fun a b : Bool => ¬(a = true ∧ b = true)) (rowF t D ws) (rowF t E vs)
  | _, _, _, _, .nil, _ => .nil
  | _, _, _, _, .cons h r, hd => by
    have := ub_neg ht r
    refine .cons (fun ⟨z1, z2⟩ => ?_) (rowF_neg ht r (by unfold clip; omega))
    have z1' := of_decide_eq_true z1
    have z2' := of_decide_eq_true z2
    omega
theorem four_F2 {R : Int → Int → Prop} (h : ∀ a b, R a b → R (4 * a) (4 * b)) {ws vs : List Int} (f : F2 R ws vs) : F2 R (four ws) (four vs) := by
  induction f with
  | nil => exact .nil
  | cons r _ ih => exact .cons (h _ _ r) ih
/-! ### the plan -/
theorem mem_home {N : Nat} {home : List Int} {rs : List (List Int × Int)} {t : Int} {j : Nat} {xs : List Int} (h : (planF N home rs t)[j]? = some xs) (p : Int) : p ∈ xs ↔ (1 ≤ p ∧ p ≤ N) ∧ (sides (decide (p ∈ home)) (four (votes p rs)) t).getD j false = true := by
  unfold planF homes at h
  rw [List.getElem?_map] at h
  cases e : (List.range rs.length)[j]? with
  | none => rw [e] at h; cases h
  | some j' =>
    have ej : j' = j := by
      have := List.getElem?_eq_some_iff.mp e
      obtain ⟨h1, h2⟩ := this
      simpa using h2.symm
    rw [e, ej] at h
    cases h
    rw [List.mem_map]
    constructor
    · rintro ⟨i, hi, rfl⟩
      rw [List.mem_filter] at hi
      have hiN : i < N := by have := List.mem_range.mp hi.1; rwa [rowsF_length] at this
      have er : (rowsF N home rs t).getD i [] = sides (decide ((i : Int) + 1 ∈ home)) (four (votes ((i : Int) + 1) rs)) t := by
        rw [List.getD_eq_getElem?_getD, rowsF_at hiN]; rfl
      rw [er] at hi
      exact ⟨by omega, hi.2⟩
    · rintro ⟨h1, h2⟩
      obtain ⟨i, rfl⟩ : ∃ i : Nat, p = (i : Int) + 1 := ⟨(p - 1).toNat, by omega⟩
      have hiN : i < N := by omega
      refine ⟨i, ?_, rfl⟩
      rw [List.mem_filter]
      have er : (rowsF N home rs t).getD i [] = sides (decide ((i : Int) + 1 ∈ home)) (four (votes ((i : Int) + 1) rs)) t := by
        rw [List.getD_eq_getElem?_getD, rowsF_at hiN]; rfl
      rw [er]
      exact ⟨List.mem_range.mpr (by rw [rowsF_length]; exact hiN), h2⟩
theorem plan_asc {N : Nat} {home : List Int} {rs : List (List Int × Int)} {t : Int} {xs : List Int} (h : xs ∈ planF N home rs t) : xs.Pairwise (· < ·) := by
  unfold planF homes at h
  obtain ⟨j, _, rfl⟩ := List.mem_map.mp h
  refine List.pairwise_map.mpr (List.Pairwise.imp ?_ (List.Pairwise.filter _ List.pairwise_lt_range))
  intro a b hab
  omega
structure RowsOk (M : Mod) (N : Nat) (home : List Int) (rs : List (List Int × Int)) : Prop where
  home : isV M N home = true
  rows : ∀ r ∈ rs, isV M N r.1 = true ∧ 0 ≤ r.2
theorem votes_le {rs : List (List Int × Int)} {p q : Int} (h : ∀ r ∈ rs, (p ∈ r.1 → q ∈ r.1) ∧ 0 ≤ r.2) : F2 (· ≤ ·) (votes p rs) (votes q rs) := by
  induction rs with
  | nil => exact .nil
  | cons r rs ih =>
    refine .cons ?_ (ih fun r m => h r (List.mem_cons_of_mem _ m))
    obtain ⟨h1, h2⟩ := h r List.mem_cons_self
    show (if p ∈ r.1 then r.2 else -r.2) ≤ (if q ∈ r.1 then r.2 else -r.2)
    by_cases c : p ∈ r.1
    · rw [if_pos c, if_pos (h1 c)]; exact Int.le_refl _
    · rw [if_neg c]; split <;> omega
theorem votes_neg {rs : List (List Int × Int)} {p q : Int} (h : ∀ r ∈ rs, (p ∈ r.1 → q ∉ r.1) ∧ 0 ≤ r.2) : F2 (fun a b => b ≤ -a) (votes p rs) (votes q rs) := by
  induction rs with
  | nil => exact .nil
  | cons r rs ih =>
    refine .cons ?_ (ih fun r m => h r (List.mem_cons_of_mem _ m))
    obtain ⟨h1, h2⟩ := h r List.mem_cons_self
    show (if q ∈ r.1 then r.2 else -r.2) ≤ -(if p ∈ r.1 then r.2 else -r.2)
    by_cases c : p ∈ r.1
    · rw [if_pos c, if_neg (h1 c)]; exact Int.le_refl _
    · rw [if_neg c]; split <;> omega
theorem F2.getB {R : Bool → Bool → Prop} {as bs : List Bool} (h : F2 R as bs) (h0 : R false false) (j : Nat) : R (as.getD j false) (bs.getD j false) := by
  rw [List.getD_eq_getElem?_getD, List.getD_eq_getElem?_getD]
  cases e : as[j]? with
  | none =>
    have : bs[j]? = none := by
      rw [List.getElem?_eq_none_iff] at e ⊢
      rw [← h.length]; exact e
    rw [this]; exact h0
  | some a =>
    obtain ⟨b, e2, r⟩ := h.get e
    rw [e2]; exact r
theorem plan_isV {M : Mod} {N : Nat} {home : List Int} {rs : List (List Int × Int)} {t : Int} (g : Good M N) (ok : RowsOk M N home rs) (ht : 0 ≤ t) {xs : List Int} (h : xs ∈ planF N home rs t) : isV M N xs = true := by
  obtain ⟨j, hj⟩ := List.mem_iff_getElem?.mp h
  have mem := mem_home hj
  have vh := (isVP g).mp ok.home
  have vr : ∀ r ∈ rs, VP M N r.1 := fun r m => (isVP g).mp (ok.rows r m).1
  refine (isVP g).mpr ⟨plan_asc h, fun x hx => ((mem x).mp hx).1, fun x hx q hq => ?_, fun x hx r hr hrx => ?_⟩
  · obtain ⟨xi, hs⟩ := (mem x).mp hx
    have ql := ((g.nd x q xi.1 xi.2).mp hq).1
    refine (mem q).mpr ⟨by omega, ?_⟩
    have st : d0 (decide (x ∈ home)) t ≤ d0 (decide (q ∈ home)) t := by
      unfold d0
      by_cases c : x ∈ home
      · rw [decide_eq_true c, decide_eq_true (vh.nd x c q hq)]; exact Int.le_refl _
      · simp only [decide_eq_false c, Bool.false_eq_true, if_false]
        split <;> omega
    have := F2.getB (rowF_mono (t := t) (four_F2 (R := (· ≤ ·)) (fun a b h => by omega) (votes_le fun r m => ⟨fun c => (vr r m).nd x c q hq, (ok.rows r m).2⟩)) st) (fun z => z) j
    exact this hs
  · obtain ⟨xi, hs⟩ := (mem x).mp hx
    obtain ⟨ri, hs2⟩ := (mem r).mp hrx
    have st : d0 (decide (r ∈ home)) t ≤ -d0 (decide (x ∈ home)) t := by
      unfold d0
      by_cases c : x ∈ home
      · rw [decide_eq_true c, decide_eq_false (vh.br x c r hr)]; simp
      · simp only [decide_eq_false c, Bool.false_eq_true, if_false, Int.neg_neg]
        split <;> omega
    have := F2.getB (rowF_neg ht (four_F2 (R := fun a b => b ≤ -a) (fun a b h => by omega) (votes_neg fun r' m => ⟨fun c => (vr r' m).br x c r hr, (ok.rows r' m).2⟩)) st) (by simp) j
    exact this ⟨hs, hs2⟩
end LK
set_option maxHeartbeats 4000000
/-! The plain law of costs. -/
namespace LK
theorem sumBy_cons (f : Int → Int) (x : Int) (xs : List Int) : sumBy f (x :: xs) = f x + sumBy f xs := by simp [sumBy]
theorem sumBy_nil (f : Int → Int) : sumBy f [] = 0 := rfl
theorem sumBy_append (f : Int → Int) (xs ys : List Int) : sumBy f (xs ++ ys) = sumBy f xs + sumBy f ys := by simp [sumBy]
theorem sumBy_add (f g : Int → Int) : ∀ xs : List Int, sumBy (fun x => f x + g x) xs = sumBy f xs + sumBy g xs
  | [] => rfl
  | x :: xs => by simp only [sumBy_cons, sumBy_add f g xs]; omega
theorem sumBy_congr {f g : Int → Int} : ∀ {xs : List Int}, (∀ x ∈ xs, f x = g x) → sumBy f xs = sumBy g xs
  | [], _ => rfl
  | x :: xs, h => by rw [sumBy_cons, sumBy_cons, h x List.mem_cons_self, sumBy_congr fun y m => h y (List.mem_cons_of_mem _ m)]
theorem sumBy_zero : ∀ xs : List Int, sumBy (fun _ => 0) xs = 0
  | [] => rfl
  | x :: xs => by rw [sumBy_cons, sumBy_zero xs]; rfl
theorem sumBy_filter (f : Int → Int) (c : Int → Bool) : ∀ xs : List Int, sumBy f (xs.filter c) = sumBy (fun x => if c x = true then f x else 0) xs
  | [] => rfl
  | x :: xs => by
    rw [sumBy_cons, ← sumBy_filter f c xs]
    by_cases h : c x = true
    · rw [List.filter_cons_of_pos h, sumBy_cons, if_pos h]
    · rw [List.filter_cons_of_neg h, if_neg h]; omega
theorem sumBy_perm {f : Int → Int} {xs ys : List Int} (h : xs.Perm ys) : sumBy f xs = sumBy f ys := by
  induction h with
  | nil => rfl
  | cons x _ ih => rw [sumBy_cons, sumBy_cons, ih]
  | swap x y l => simp only [sumBy_cons]; omega
  | trans _ _ ih1 ih2 => rw [ih1, ih2]
/-- the numbers of a set, counted among all -/
theorem sumBy_set {f : Int → Int} {xs : List Int} {N : Nat} (hn : xs.Nodup) (hi : ∀ x ∈ xs, 1 ≤ x ∧ x ≤ N) : sumBy f xs = sumBy (fun p => if decide (p ∈ xs) = true then f p else 0) (upto N) := by
  rw [← sumBy_filter]
  refine sumBy_perm ?_
  refine (List.perm_ext_iff_of_nodup hn ((upto_nodup N).filter _)).mpr fun a => ?_
  rw [List.mem_filter, mem_upto, decide_eq_true_eq]
  exact ⟨fun h => ⟨hi a h, h⟩, fun h => h.2⟩
theorem sumBy_apart {f : Int → Int} {a b : List Int} {N : Nat} (ha : a.Nodup) (hb : b.Nodup) (ia : ∀ x ∈ a, 1 ≤ x ∧ x ≤ N) (ib : ∀ x ∈ b, 1 ≤ x ∧ x ≤ N) : sumBy f (apart a b) = sumBy (fun p => neg1 (decide (p ∈ a)) (decide (p ∈ b)) * f p) (upto N) := by
  have hn : (apart a b).Nodup := by
    unfold apart
    refine List.nodup_append.mpr ⟨ha.filter _, hb.filter _, fun x hx y hy e => ?_⟩
    rw [List.mem_filter] at hx hy
    subst e
    have := hx.2
    simp [hy.1] at this
  have hi : ∀ x ∈ apart a b, 1 ≤ x ∧ x ≤ N := fun x hx => by
    rcases List.mem_append.mp hx with c | c
    · exact ia x (List.mem_filter.mp c).1
    · exact ib x (List.mem_filter.mp c).1
  rw [sumBy_set hn hi]
  refine sumBy_congr fun p _ => ?_
  have hm : (p ∈ apart a b) ↔ (p ∈ a ∧ p ∉ b) ∨ (p ∈ b ∧ p ∉ a) := by
    unfold apart
    rw [List.mem_append, List.mem_filter, List.mem_filter]
    simp
  by_cases h1 : p ∈ a <;> by_cases h2 : p ∈ b <;> simp [hm, h1, h2, neg1]
/-- what a patch costs along a plan -/
def patchC (t g : Int) (start : Bool) (ws : List Int) (col : List Bool) : Int := t * tog start col + g * looks ws col
theorem cost_by {M : Mod} {N : Nat} {g : Int} {ps : List Int} : ∀ (pl : List (List Int)) (rs : List (List Int × Int)) (here : List Int), pl.length = rs.length → here.Nodup → (∀ x ∈ here, 1 ≤ x ∧ x ≤ N) → (∀ a ∈ pl, a.Nodup ∧ ∀ x ∈ a, 1 ≤ x ∧ x ≤ N) → (∀ r ∈ rs, (r.1.Nodup ∧ ∀ x ∈ r.1, 1 ≤ x ∧ x ≤ N) ∧ 0 ≤ r.2) →
    costF M g ps here pl rs = sumBy (fun p => szA M p * patchC (prA ps p) g (decide (p ∈ here)) (votes p rs) (pl.map fun a => decide (p ∈ a))) (upto N)
  | [], [], here, _, _, _, _, _ => by
    show 0 = _
    rw [← sumBy_zero (upto N)]
    refine sumBy_congr fun p _ => ?_
    simp [patchC, tog, looks, votes]
  | nx :: pl, r :: rs, here, hl, hn, hi, hp, hr => by
    obtain ⟨n1, i1⟩ := hp nx List.mem_cons_self
    obtain ⟨⟨n2, i2⟩, c2⟩ := hr r List.mem_cons_self
    have ih := cost_by (M := M) (g := g) (ps := ps) pl rs nx (by simpa using hl) n1 i1 (fun a m => hp a (List.mem_cons_of_mem _ m)) (fun a m => hr a (List.mem_cons_of_mem _ m))
    show cost1 M g ps here nx r + costF M g ps nx pl rs = _
    rw [ih, cost1, sumBy_apart hn n1 hi i1, sumBy_apart n1 n2 i1 i2, ← sumBy_add, ← sumBy_add]
    refine sumBy_congr fun p _ => ?_
    simp only [patchC, List.map_cons, tog, looks, votes]
    have lkv : lk (if p ∈ r.1 then r.2 else -r.2) (decide (p ∈ nx)) = neg1 (decide (p ∈ nx)) (decide (p ∈ r.1)) * r.2 := by
      by_cases h1 : p ∈ nx <;> by_cases h2 : p ∈ r.1 <;> simp [lk, neg1, h1, h2] <;> omega
    rw [lkv]
    generalize neg1 (decide (p ∈ here)) (decide (p ∈ nx)) = A
    generalize neg1 (decide (p ∈ nx)) (decide (p ∈ r.1)) = B
    generalize tog (decide (p ∈ nx)) _ = T
    generalize looks _ _ = L
    simp only [Int.mul_add]
    have e1 : A * (prA ps p * szA M p) = szA M p * (prA ps p * A) := by ac_rfl
    have e2 : B * (g * r.2 * szA M p) = szA M p * (g * (B * r.2)) := by ac_rfl
    rw [e1, e2]
    omega
  | [], _ :: _, _, hl, _, _, _, _ => by simp at hl
  | _ :: _, [], _, hl, _, _, _, _ => by simp at hl
/-- a patch's column in the plan is its row of sides -/
theorem plan_col {N : Nat} {home : List Int} {rs : List (List Int × Int)} {t : Int} {p : Int} (hp : 1 ≤ p ∧ p ≤ N) : (planF N home rs t).map (fun a => decide (p ∈ a)) = sides (decide (p ∈ home)) (four (votes p rs)) t := by
  have sl0 : (sides (decide (p ∈ home)) (four (votes p rs)) t).length = rs.length := by rw [sides_length]; simp [four, votes]
  refine List.ext_getElem? fun j => ?_
  rw [List.getElem?_map]
  cases e : (planF N home rs t)[j]? with
  | none =>
    have : rs.length ≤ j := by
      have := List.getElem?_eq_none_iff.mp e
      unfold planF at this
      rwa [homes_length] at this
    rw [List.getElem?_eq_none (by omega)]; rfl
  | some xs =>
    have hj : j < rs.length := by
      have := (List.getElem?_eq_some_iff.mp e).1
      unfold planF at this
      rwa [homes_length] at this
    have m := mem_home e p
    rw [getD_at (xs := sides (decide (p ∈ home)) (four (votes p rs)) t) (d := false) (by omega)]
    show some (decide (p ∈ xs)) = _
    congr 1
    cases c : (sides (decide (p ∈ home)) (four (votes p rs)) t).getD j false with
    | true => exact decide_eq_true (m.mpr ⟨hp, c⟩)
    | false => exact decide_eq_false fun z => by have := (m.mp z).2; rw [c] at this; cases this
theorem asc_nodup {xs : List Int} (h : xs.Pairwise (· < ·)) : xs.Nodup := h.imp fun h e => by omega
/-- one patch -/
theorem patch_near {a b t g m s : Int} {st : Bool} {ws : List Int} (ha : 1 ≤ a) (hat : a ≤ t) (htb : t ≤ b) (hg : 1 ≤ g) (hm : 0 ≤ m) (m1 : m * m ≤ 4 * a * b) (m2 : 4 * a * b < (m + 1) * (m + 1)) (hs : s = m / g) :
    solo st (ws.map (g * ·)) t ≤ patchC t g st ws (sides st (four ws) (2 * s + 1)) ∧
    patchC t g st ws (sides st (four ws) (2 * s + 1)) * patchC t g st ws (sides st (four ws) (2 * s + 1)) * a ≤ solo st (ws.map (g * ·)) t * solo st (ws.map (g * ·)) t * b := by
  have hl : (sides st (four ws) (2 * s + 1)).length = ws.length := by rw [sides_length]; simp [four]
  have g0 : 0 ≤ g := by omega
  have t0 : 0 ≤ t := by omega
  have s0 : 0 ≤ s := by rw [hs]; exact Int.ediv_nonneg hm g0
  have s1 : s * g ≤ m := by rw [hs]; exact Int.ediv_mul_le m (by omega)
  have s2 : m + 1 ≤ (s + 1) * g := by rw [hs]; exact Int.lt_ediv_add_one_mul_self m (by omega)
  constructor
  · have := solo_le t0 st (ws.map (g * ·)) (sides st (four ws) (2 * s + 1)) (by simpa using hl)
    rw [looks_mul g0] at this
    exact this
  · obtain ⟨r, hrl, hr⟩ := solo_is t0 st (ws.map (g * ·))
    rw [looks_mul g0] at hr
    have hrl' : r.length = ws.length := by simpa using hrl
    have b1 := stretch_best s0 (.inl rfl) st ws r hrl'
    have b2 := stretch_best s0 (.inr rfl) st ws r hrl'
    have n := near_one (T := tog st (sides st (four ws) (2 * s + 1))) (L := looks ws (sides st (four ws) (2 * s + 1))) (T' := tog st r) (L' := looks ws r) ha hat htb hg hm m1 m2 s1 s2 s0 (tog_nonneg _ _) (looks_nonneg _ _) (tog_nonneg _ _) (looks_nonneg _ _) b1 b2
    refine Int.le_trans n (Int.mul_le_mul_of_nonneg_right ?_ (by omega))
    have o0 : 0 ≤ t * tog st r + g * looks ws r := Int.add_nonneg (Int.mul_nonneg t0 (tog_nonneg _ _)) (Int.mul_nonneg g0 (looks_nonneg _ _))
    exact Int.mul_le_mul hr hr o0 (by omega)
theorem patch_nn {t g : Int} {st : Bool} {ws : List Int} {col : List Bool} (ht : 0 ≤ t) (hg : 0 ≤ g) : 0 ≤ patchC t g st ws col := Int.add_nonneg (Int.mul_nonneg ht (tog_nonneg _ _)) (Int.mul_nonneg hg (looks_nonneg _ _))
theorem sumBy_nn {f : Int → Int} : ∀ {xs : List Int}, (∀ x ∈ xs, 0 ≤ f x) → 0 ≤ sumBy f xs
  | [], _ => Int.le_refl _
  | x :: xs, h => by
    rw [sumBy_cons]
    exact Int.add_nonneg (h x List.mem_cons_self) (sumBy_nn fun y m => h y (List.mem_cons_of_mem _ m))
theorem sumBy_le {f g : Int → Int} : ∀ {xs : List Int}, (∀ x ∈ xs, f x ≤ g x) → sumBy f xs ≤ sumBy g xs
  | [], _ => Int.le_refl _
  | x :: xs, h => by
    rw [sumBy_cons, sumBy_cons]
    exact Int.add_le_add (h x List.mem_cons_self) (sumBy_le fun y m => h y (List.mem_cons_of_mem _ m))
theorem sumBy_const {c : Int} : ∀ (xs : List Int), sumBy (fun _ => c) xs = c * xs.length
  | [] => by simp [sumBy]
  | x :: xs => by rw [sumBy_cons, sumBy_const xs]; simp [Int.mul_add]; omega
theorem near_sum {a b : Int} {f o : Int → Int} (ha : 0 ≤ a) (hb : 0 ≤ b) : ∀ {xs : List Int}, (∀ x ∈ xs, 0 ≤ f x ∧ 0 ≤ o x ∧ f x * f x * a ≤ o x * o x * b) → sumBy f xs * sumBy f xs * a ≤ sumBy o xs * sumBy o xs * b
  | [], _ => by simp [sumBy]
  | x :: xs, h => by
    rw [sumBy_cons, sumBy_cons]
    obtain ⟨h1, h2, h3⟩ := h x List.mem_cons_self
    have ht := fun y m => h y (List.mem_cons_of_mem x m)
    exact near_add hb ha h1 (sumBy_nn fun y m => (ht y m).1) h2 (sumBy_nn fun y m => (ht y m).2.1) h3 (near_sum ha hb ht)
theorem tog_le : ∀ (r : List Bool) (p : Bool), tog p r ≤ r.length
  | [], _ => by simp [tog]
  | b :: r, p => by
    have := tog_le r b
    simp only [tog, neg1, List.length_cons]
    split <;> omega
/-- the plan's cost, near the sum -/
theorem costs {M : Mod} {N : Nat} {home : List Int} {rs : List (List Int × Int)} {ps : List Int} {g a b m : Int} (gd : Good M N) (ok : RowsOk M N home rs) (bd : Bd M N g ps rs) (hg : 1 ≤ g) (h20 : rs.length ≤ 30)
    (ha : 1 ≤ a) (hb : b ≤ 2 ^ 50) (hab : a ≤ b) (hp : ∀ p : Int, 1 ≤ p → p ≤ N → a ≤ prA ps p ∧ prA ps p ≤ b) (hm : 0 ≤ m) (m1 : m * m ≤ 4 * a * b) (m2 : 4 * a * b < (m + 1) * (m + 1)) :
    sumF M N g ps home rs ≤ costF M g ps home (planF N home rs (2 * (m / g) + 1)) rs ∧
    costF M g ps home (planF N home rs (2 * (m / g) + 1)) rs * costF M g ps home (planF N home rs (2 * (m / g) + 1)) rs * a ≤ sumF M N g ps home rs * sumF M N g ps home rs * b ∧
    0 ≤ sumF M N g ps home rs ∧ costF M g ps home (planF N home rs (2 * (m / g) + 1)) rs < 2 ^ 90 := by
  have t0 : 0 ≤ 2 * (m / g) + 1 := by have := Int.ediv_nonneg hm (show 0 ≤ g by omega); omega
  have vh := (isVP gd).mp ok.home
  have vr : ∀ r ∈ rs, VP M N r.1 := fun r m => (isVP gd).mp (ok.rows r m).1
  have vp : ∀ xs ∈ planF N home rs (2 * (m / g) + 1), VP M N xs := fun xs m => (isVP gd).mp (plan_isV gd ok t0 m)
  have cb := cost_by (M := M) (N := N) (g := g) (ps := ps) (planF N home rs (2 * (m / g) + 1)) rs home (homes_length _ _) (asc_nodup vh.asc) vh.inN (fun xs m => ⟨asc_nodup (vp xs m).asc, (vp xs m).inN⟩) (fun r m => ⟨⟨asc_nodup (vr r m).asc, (vr r m).inN⟩, (ok.rows r m).2⟩)
  have cb : costF M g ps home (planF N home rs (2 * (m / g) + 1)) rs = sumBy (fun p => szA M p * patchC (prA ps p) g (decide (p ∈ home)) (votes p rs) (sides (decide (p ∈ home)) (four (votes p rs)) (2 * (m / g) + 1))) (upto N) := by
    rw [cb]
    refine sumBy_congr fun p hp => ?_
    rw [plan_col (mem_upto.mp hp)]
  have sz : ∀ p ∈ upto N, 0 ≤ szA M p ∧ szA M p ≤ 3 := fun p hp => by
    have := mem_upto.mp hp
    exact bd.sz _ (getD_mem (by rw [gd.lsz]; omega))
  have pn := fun (p : Int) (hpu : p ∈ upto N) => patch_near (st := decide (p ∈ home)) (ws := votes p rs) ha (hp p (mem_upto.mp hpu).1 (mem_upto.mp hpu).2).1 (hp p (mem_upto.mp hpu).1 (mem_upto.mp hpu).2).2 hg hm m1 m2 rfl
  have sol0 : ∀ p ∈ upto N, 0 ≤ solo (decide (p ∈ home)) ((votes p rs).map (g * ·)) (prA ps p) := fun p hpu => by
    have hpp := hp p (mem_upto.mp hpu).1 (mem_upto.mp hpu).2
    exact (solo_bd (by omega) (B := 100 * 2 ^ 50) (by omega) _ _ (votes_bd p bd.g0 bd.g1 bd.rc)).1
  have pc0 : ∀ p ∈ upto N, 0 ≤ patchC (prA ps p) g (decide (p ∈ home)) (votes p rs) (sides (decide (p ∈ home)) (four (votes p rs)) (2 * (m / g) + 1)) := fun p hpu => by
    have hpp := hp p (mem_upto.mp hpu).1 (mem_upto.mp hpu).2
    exact patch_nn (by omega) (by omega)
  rw [cb]
  unfold sumF
  refine ⟨sumBy_le fun p hpu => Int.mul_le_mul_of_nonneg_left (pn p hpu).1 (sz p hpu).1, near_sum (by omega) (by omega) fun p hpu => ⟨Int.mul_nonneg (sz p hpu).1 (pc0 p hpu), Int.mul_nonneg (sz p hpu).1 (sol0 p hpu), near_mul (pn p hpu).2⟩, sumBy_nn fun p hpu => Int.mul_nonneg (sz p hpu).1 (sol0 p hpu), ?_⟩
  have le : sumBy (fun p => szA M p * patchC (prA ps p) g (decide (p ∈ home)) (votes p rs) (sides (decide (p ∈ home)) (four (votes p rs)) (2 * (m / g) + 1))) (upto N) ≤ sumBy (fun _ => 3 * (2 ^ 50 * 30 + 100 * (2 ^ 50 * 30))) (upto N) := sumBy_le fun p hpu => by
    have hpp := hp p (mem_upto.mp hpu).1 (mem_upto.mp hpu).2
    have hl : (sides (decide (p ∈ home)) (four (votes p rs)) (2 * (m / g) + 1)).length = rs.length := by rw [sides_length]; simp [four, votes]
    have k1 := tog_le (sides (decide (p ∈ home)) (four (votes p rs)) (2 * (m / g) + 1)) (decide (p ∈ home))
    have k2 := looks_bd (B := 2 ^ 50) (by omega) (votes p rs) (sides (decide (p ∈ home)) (four (votes p rs)) (2 * (m / g) + 1)) (fun w hw => by
      obtain ⟨r, hr, rfl⟩ := List.mem_map.mp hw
      have := bd.rc r hr
      split <;> omega)
    rw [votes_length] at k2
    have k3 : (2 : Int) ^ 50 * rs.length ≤ 2 ^ 50 * 30 := Int.mul_le_mul_of_nonneg_left (by omega) (by omega)
    have q1 := mul_bd (a := prA ps p) (b := tog (decide (p ∈ home)) (sides (decide (p ∈ home)) (four (votes p rs)) (2 * (m / g) + 1))) (A := 2 ^ 50) (B := 30) (by omega) (by omega) (tog_nonneg _ _) (by omega)
    have q2 := mul_bd (a := g) (b := looks (votes p rs) (sides (decide (p ∈ home)) (four (votes p rs)) (2 * (m / g) + 1))) (A := 100) (B := 2 ^ 50 * 30) (by omega) bd.g1 (looks_nonneg _ _) (by omega)
    exact (mul_bd (sz p hpu).1 (sz p hpu).2 (pc0 p hpu) (by unfold patchC; omega)).2
  rw [sumBy_const, upto_length] at le
  have nn := gd.nN
  have : (3 * (2 ^ 50 * 30 + 100 * (2 ^ 50 * 30)) : Int) * (N : Int) ≤ 3 * (2 ^ 50 * 30 + 100 * (2 ^ 50 * 30)) * 20 := Int.mul_le_mul_of_nonneg_left (by omega) (by omega)
  omega
end LK
set_option maxHeartbeats 4000000
namespace LK
open PySem PySem.Spec PyProof.Rows L2
local macro_rules | `(tactic| walk_at "rd") => `(tactic| (repeat (first
  | with_reducible refine rd_seq ?_
  | with_reducible refine rd_asg ?_
  | with_reducible refine rd_ret ?_
  | with_reducible refine rd_drop ?_
  | with_reducible refine rd_if ?_
  | with_reducible refine rd_next ?_
  | ((with_reducible apply rd_var); (· exact rfl))
  | with_reducible refine rd_c ?_
  | with_reducible refine rd_op ?_
  | with_reducible refine rd_un ?_
  | with_reducible refine rd_I0 ?_
  | with_reducible refine rd_U ?_
  | with_reducible refine rd_eq ?_
  | with_reducible refine rd_ne ?_
  | with_reducible refine rd_neB ?_
  | with_reducible refine rd_asB ?_
  | with_reducible refine rd_test ?_
  | with_reducible refine rd_tB ?_
  | with_reducible refine rd_not ?_
  | with_reducible refine rd_and ?_
  | with_reducible refine rd_or ?_
  | with_reducible refine rd_andV ?_
  | with_reducible refine rd_orV ?_
  | with_reducible refine rd_notV ?_
  | with_reducible refine rd_ifx ?_
  | with_reducible refine rd_chain ?_
  | with_reducible refine rd_nil ?_
  | with_reducible refine rd_cons ?_
  | with_reducible refine rd_call ?_
  | with_reducible refine rd_cb ?_
  | with_reducible refine rd_lst ?_
  | with_reducible refine rd_tup ?_
  | with_reducible refine rd_min ?_
  | with_reducible refine rd_max ?_
  | with_reducible refine rd_abs ?_
  | with_reducible refine rd_int ?_
  | with_reducible refine rd_bm ?_
  | with_reducible refine rd_nt ?_
  | with_reducible refine rd_nf ?_
  | with_reducible refine rd_rg3 ?_
  | with_reducible refine rd_gnil ?_
  | with_reducible refine rd_gcons ?_
  | with_reducible refine rd_yes ?_
  | with_reducible refine rd_tt ?_
  | with_reducible refine rd_ff ?_
  | with_reducible refine rd_fld ?_
  | with_reducible refine rd_meth ?_
  | with_reducible refine rd_rev ?_
  | with_reducible refine rd_callN ?_
  | with_reducible refine rd_rg1 ?_
  | with_reducible refine rd_rg2 ?_
  | with_reducible refine rd_nm ?_
  | with_reducible refine rd_lc ?_
  | with_reducible refine rd_iL' ?_
  | with_reducible refine rd_iT' ?_)))
local macro_rules | `(tactic| walk_at "hp") => `(tactic| (first
  | assumption
  | exact upd_same ..
  | (refine keep_upd (by assumption) ?_; walk_at "hp")
  | (refine same_app (by assumption) ?_; walk_at "hp")))


/-- a price handed that may be used -/
structure HdGood (N : Nat) (hd : Sum Int (List Int)) (ps : List Int) : Prop where
  eq : ps.drop 1 = prs N hd
  len : ps.length = N + 1
  bd : ∀ p ∈ prs N hd, 1 ≤ p ∧ p ≤ 2 ^ 40
  one : ∀ k, hd = .inl k → 1 ≤ k ∧ k ≤ 2 ^ 40
theorem dueP_no {N : Nat} {hd : Sum Int (List Int)} {ps : List Int} (h : HdGood N hd ps) : dueP N hd = .no := by
  cases hd with
  | inl k =>
    have := (h.one k rfl).1
    exact if_neg (by omega)
  | inr qs =>
    have hl : qs.length = N := by
      have := congrArg List.length h.eq
      rw [List.length_drop, h.len] at this
      have e : prs N (.inr qs) = qs := rfl
      rw [e] at this; omega
    have hf : qs.find? (fun p => decide (p < 1)) = none := find_none' fun i x hx => by
      have := (h.bd x (List.mem_of_getElem? hx)).1
      exact decide_eq_false (by omega)
    unfold dueP
    simp [hl, hf]
theorem due_no {M : Mod} {N : Nat} {home : List Int} {rs : List (List Int × Int)} {g : Int} {hd : Sum Int (List Int)} {ps : List Int} (h : HdGood N hd ps) (hv : isV M N home = true) (hr : ∀ r ∈ rs, isV M N r.1 = true ∧ 1 ≤ r.2) (hg : 1 ≤ g) : rs.findIdx? (badR M N) = none ∧ dueF M N home rs g hd = .no := by
  have f : rs.findIdx? (badR M N) = none := findIdx_none fun i x hx => by
    have := hr x (List.mem_of_getElem? hx)
    unfold badR
    rw [this.1, decide_eq_false (by omega)]; rfl
  refine ⟨f, ?_⟩
  unfold dueF
  rw [hv, f, if_neg (by decide)]
  show (if g < 1 then _ else _) = _
  rw [if_neg (by omega)]
  exact dueP_no h
theorem rd_np {σ : L2.St} {H : Hp} {Q : Option Int → Hp → Prop} (h : Q none H) : tNoPart σ H Q := h
theorem rd_ifH {c : Bool} {Pm : V → Hp → Prop} {ta tb : TE} {σ : L2.St} {H : Hp} {Q : VK} (ha : c = true → ∀ Q : VK, (∀ x H', Pm x H' → Q x H') → ta σ H Q) (hb : c = false → ∀ Q : VK, (∀ x H', Pm x H' → Q x H') → tb σ H Q) (h : ∀ x H', Pm x H' → Q x H') : if c = true then ta σ H Q else tb σ H Q := by
  cases c
  · exact hb rfl Q h
  · exact ha rfl Q h
theorem cut_given {K : PySem.W.Frag} {v : V} {hd : Sum Int (List Int)} {ta tb : TE} {σ : L2.St} {H : Hp} {Q : VK} (hh : Hd H v hd) (ha : ∀ k, v = .int k → ∀ Q : VK, Q v H → ta σ H Q) (hb : ∀ a ps, v = .ref a → H a = some (.lst (iv ps)) → ∀ Q : VK, (∀ l, H l = none → Q (.ref l) (upd H l (.lst (iv ps)))) → tb σ H Q)
    (h : ∀ v' H', Same H H' → Hd H' v' hd → Q v' H') : rIsi K [v, .ty "int"] H (asB fun c H1 => if c = true then ta σ H1 Q else tb σ H1 Q) := by
  cases hd with
  | inl k =>
    obtain rfl : v = .int k := hh
    refine is_ii ⟨true, rfl, ?_⟩
    exact ha k rfl Q (h _ _ (Same.refl _) rfl)
  | inr ps =>
    obtain ⟨a, rfl, hl⟩ := hh
    refine is_li hl ⟨false, rfl, ?_⟩
    exact hb a ps rfl hl Q fun l hl' => h _ _ (Same.new hl') ⟨l, rfl, upd_same ..⟩
section
variable {P : Program} {w : World} {K : PySem.W.Frag} {mg : Str → Option Value} {base : Heap}
def spJudged (K : PySem.W.Frag) : Sp := fun vs H Q _ => ∃ (B : BA) (M : Mod) (N : Nat) (vm u vr vt : V) (home : List Int) (rs : List (List Int × Int)) (g : Int) (a : Addr) (ps : List Int) (hd : Sum Int (List Int)), vs = [vm, .ref B.b, u, vr, .int g, .ref a, vt] ∧ MR H vm M ∧ BR K H B M N ∧ Good M N ∧ IT H u home ∧ isV M N home = true ∧ home.length < 1000 ∧ Row H vr rs ∧ rs.length ≤ 30 ∧
  (∀ r ∈ rs, isV M N r.1 = true ∧ 1 ≤ r.2 ∧ r.2 ≤ 2 ^ 41 ∧ r.1.length < 1000) ∧ 1 ≤ g ∧ g ≤ 100 ∧ H a = some (.lst (iv ps)) ∧ HdGood N hd ps ∧ ps.getD 0 0 ≤ 2 ^ 40 ∧ 0 ≤ ps.getD 0 0 ∧ Hd H vt hd ∧ ∀ H', Same H H' → Q (.bl true) H'
theorem c__law_judged (T : Txt P K mg) : Cal P w K mg base 10 "_law_judged" (spJudged K) := by
  have S : FnScope ["_law_model_here", "_law_book_here", "_law_home", "_law_row_here", "_law_gaze", "_law_prices", "_law_handed", "_law_least", "_law_greatest", "_law_due_here", "_law_passed", "_law_given", "_law_told", "_law_cost_here", "_law_total"] ["_law_model_here", "_law_book_here", "_law_home", "_law_row_here", "_law_gaze", "_law_prices", "_law_handed"] (defScope (top 66)) := ⟨rfl, rfl, rfl, by decide +kernel, rfl, by decide +kernel, by decide +kernel⟩
  refine T.d__law_judged.cal S (fun _ _ _ _ _ _ us hl => match us, hl with | [_, _, _, _, _, _, _], _ => rfl) (fun vs H Q E ⟨_, _, _, _, _, _, _, _, _, _, _, _, _, e, _⟩ => by rw [e]; rfl) fun f cdv A0 outer s H vs Q E hr ⟨B, M, N, vm, u, vr, vt, home, rs, g, a, ps, hd, e, hm, br, gd, hu, hv, hl, hrow, rl, rok, g1, g2, ha, hg, p0, p0', hh, h⟩ => ?_
  subst e
  refine ⟨_, (pss_cons (ps_set (i := 7) S.nd rfl (Or.inl rfl) (pe_ifExp (pt_cmpR op_gt (pe_callB (k_lenK (K := K) rfl) (by rfl) T.b_len (by decide +kernel) (pa_cons (pv 5) pa_nil)) pe_int (nomark _)) (pe_callB (k_minLK (K := K) rfl rfl) (by rfl) T.b_min (by decide +kernel) (pa_cons (pe_slice (sl_listK (K := K) rfl) (pv 5) (po_some pe_int) po_none) pa_nil)) pe_int))
      (pss_cons (ps_set (i := 8) S.nd rfl (Or.inl rfl) (pe_ifExp (pt_cmpR op_gt (pe_callB (k_lenK (K := K) rfl) (by rfl) T.b_len (by decide +kernel) (pa_cons (pv 5) pa_nil)) pe_int (nomark _)) (pe_callB (k_maxLK (K := K) rfl rfl) (by rfl) T.b_max (by decide +kernel) (pa_cons (pe_slice (sl_listK (K := K) rfl) (pv 5) (po_some pe_int) po_none) pa_nil)) pe_int))
      (pss_cons (ps_set (i := 9) S.nd rfl (Or.inl rfl) (pe_c (c__law_plan T) hr (by decide) (by rfl) (pa_cons (pv 0) (pa_cons (pv 2) (pa_cons (pv 3) (pa_cons pe_int (pa_cons (pe_op op_add (pe_op op_mulW pe_int (pe_op op_fdivW (pe_c (c__law_root T) hr (by decide) (by rfl) (pa_cons (pe_op op_mulW (pe_op op_mulW pe_int (pv 7)) (pv 8)) pa_nil)) (pv 4))) pe_int) pa_nil)))))))
      (pss_cons (ps_set (i := 10) S.nd rfl (Or.inl rfl) (pe_callTy (k_listK (K := K) rfl) (by rfl) T.b_list (by decide +kernel) (pa_cons (pv 3) pa_nil)))
      (pss_cons (ps_set (i := 11) S.nd rfl (Or.inl rfl) (pe_ifExp (pt_val (pe_callB (k_isiK (K := K) rfl) (by rfl) T.b_isinstance (by decide +kernel) (pa_cons (pv 6) (pa_cons (pe_bltn (v := .ty "int") (by rfl) T.b_int (by decide +kernel) rfl) pa_nil)))) (pv 6) (pe_callTy (k_listK (K := K) rfl) (by rfl) T.b_list (by decide +kernel) (pa_cons (pv 6) pa_nil))))
      (pss_cons (ps_set (i := 12) S.nd rfl (Or.inl rfl) (pe_cK (c_middle_plan_look_toggle T) hr (by decide) (by rfl) passL (pa_cons (pv 1) (pa_cons (pv 2) (pa_cons (pv 10) pa_nil))) (pk_cons (pv 4) (pk_cons (pv 11) pk_nil))))
      (pss_cons (ps_if (PW.pt (pw_or (pt_not (pt_val (pe_c (c__law_is_plan T) hr (by decide) (by rfl) (pa_cons (pv 0) (pa_cons (pv 12) (pa_cons (pe_callB (k_lenK (K := K) rfl) (by rfl) T.b_len (by decide +kernel) (pa_cons (pv 3) pa_nil)) pa_nil)))))) (pw_or1 (pt_not (pt_val (pe_c (c__law_alike T) hr (by decide) (by rfl) (pa_cons (pv 12) (pa_cons (pv 9) pa_nil)))))))) (pss_one (ps_ret pe_bl)) pss_nil)
      (pss_cons (ps_set (i := 13) S.nd rfl (Or.inl rfl) (pe_c (c__law_cost T) hr (by decide) (by rfl) (pa_cons (pv 0) (pa_cons (pv 2) (pa_cons (pv 3) (pa_cons (pv 12) (pa_cons (pv 4) (pa_cons (pv 5) pa_nil))))))))
      (pss_cons (ps_set (i := 14) S.nd rfl (Or.inl rfl) (pe_c (c__law_sum T) hr (by decide) (by rfl) (pa_cons (pv 0) (pa_cons (pv 2) (pa_cons (pv 3) (pa_cons (pv 4) (pa_cons (pv 5) pa_nil)))))))
      (pss_cons (ps_if (PW.pt (pw_or (pt_cmpR op_lt (pv 13) (pv 14) (nomark _)) (pw_or1 (pt_cmpR op_gt (pe_op op_mulW (pe_op op_mulW (pv 13) (pv 13)) (pv 7)) (pe_op op_mulW (pe_op op_mulW (pv 14) (pv 14)) (pv 8)) (nomark _))))) (pss_one (ps_ret pe_bl)) pss_nil)
      (pss_cons (ps_expr (pe_appK (K := K) rfl (pv 12) (pa_cons (pe_tup pa_nil) pa_nil)))
      (pss_cons (ps_if (pt_not (pt_val (pe_c (c__law_alike T) hr (by decide) (by rfl) (pa_cons (pe_cK (c_middle_plan_look_toggle T) hr (by decide) (by rfl) passL (pa_cons (pv 1) (pa_cons (pv 2) (pa_cons (pv 10) pa_nil))) (pk_cons (pv 4) (pk_cons (pv 11) pk_nil))) (pa_cons (pv 9) pa_nil))))) (pss_one (ps_ret pe_bl)) pss_nil)
      (pss_one (ps_ret (pe_and (pe_c (c__law_alike T) hr (by decide) (by rfl) (pa_cons (pv 10) (pa_cons (pv 3) pa_nil))) (pe_one (pe_c (c__law_alike T) hr (by decide) (by rfl) (pa_cons (pv 11) (pa_cons (pv 6) pa_nil))))))))))))))))))), ?_⟩
  have hN := gd.nN
  have sh := gd.sh
  have lp : ((iv ps).length : Int) = N + 1 := by simp [hg.len]
  have pbd : ∀ p ∈ ps.drop 1, 1 ≤ p ∧ p ≤ 2 ^ 40 := fun p hp => hg.bd p (hg.eq ▸ hp)
  have dl : (ps.drop 1).length = N := by rw [List.length_drop, hg.len]; omega
  walk_at "rd"
  refine rd_lenL (sl ha) ?_
  walk_at "rd"
  rw [lp]
  refine rd_ifH (Pm := fun x H' => Same H H' ∧ ∃ lo : Int, x = .int lo ∧ (1 ≤ lo ∧ lo ≤ 2 ^ 40) ∧ (N ≠ 0 → lo ∈ prs N hd ∧ ∀ p ∈ prs N hd, lo ≤ p) ∧ (N = 0 → lo = 1)) (fun c Q q => ?_) (fun c Q q => ?_) fun x H1 ⟨s1, lo, ex, lo1, lo2, lo3⟩ => ?_
  · have c' := of_decide_eq_true c
    walk_at "rd"
    refine rd_sl ?_
    walk_at "rd"
    refine ⟨1, rfl, ?_⟩
    refine rd_np ?_
    refine rd_slL (sl ha) fun l hl' => ?_
    have e9 : cutV (iv ps) (some 1) none = iv (ps.drop 1) := by rw [cut1]; simp
    rw [e9]
    walk_at "rd"
    refine rd_minL (sl (upd_same ..)) (by omega) fun m hm' hmin => ?_
    refine q _ _ ⟨Same.new hl', m, rfl, pbd m hm', fun _ => ⟨hg.eq ▸ hm', fun p hp => hmin p (hg.eq ▸ hp)⟩, fun z => by omega⟩
  · have c' := of_decide_eq_false c
    walk_at "rd"
    exact q _ _ ⟨Same.refl _, 1, rfl, by omega, fun z => absurd z (by omega), fun _ => rfl⟩
  subst ex
  have ha1 := s1 _ _ ha
  walk_at "rd"
  refine rd_lenL (sl ha1) ?_
  walk_at "rd"
  rw [lp]
  refine rd_ifH (Pm := fun x H' => Same H1 H' ∧ ∃ hi : Int, x = .int hi ∧ (1 ≤ hi ∧ hi ≤ 2 ^ 40) ∧ (N ≠ 0 → hi ∈ prs N hd ∧ ∀ p ∈ prs N hd, p ≤ hi) ∧ (N = 0 → hi = 1)) (fun c Q q => ?_) (fun c Q q => ?_) fun x H2 ⟨s2, hi, ex, hi1, hi2, hi3⟩ => ?_
  · have c' := of_decide_eq_true c
    walk_at "rd"
    refine rd_sl ?_
    walk_at "rd"
    refine ⟨1, rfl, ?_⟩
    refine rd_np ?_
    refine rd_slL (sl ha1) fun l hl' => ?_
    have e9 : cutV (iv ps) (some 1) none = iv (ps.drop 1) := by rw [cut1]; simp
    rw [e9]
    walk_at "rd"
    refine rd_maxL (sl (upd_same ..)) (by omega) fun m hm' hmax => ?_
    refine q _ _ ⟨Same.new hl', m, rfl, pbd m hm', fun _ => ⟨hg.eq ▸ hm', fun p hp => hmax p (hg.eq ▸ hp)⟩, fun z => by omega⟩
  · have c' := of_decide_eq_false c
    walk_at "rd"
    exact q _ _ ⟨Same.refl _, 1, rfl, by omega, fun z => absurd z (by omega), fun _ => rfl⟩
  subst ex
  have s02 := s1.trans s2
  have lohi : lo ≤ hi := by
    by_cases z : N = 0
    · rw [lo3 z, hi3 z]; exact Int.le_refl _
    · exact (hi2 z).2 lo (lo2 z).1
  walk_at "rd"
  refine rd_mul (by omega) (by omega) ?_
  walk_at "rd"
  refine rd_mul (by omega) (by omega) ?_
  walk_at "rd"
  have q0 := mul_bd (a := 4 * lo) (b := hi) (A := 4 * 2 ^ 40) (B := 2 ^ 40) (by omega) (by omega) (by omega) (by omega)
  refine ⟨4 * lo * hi, rfl, q0.1, by omega, fun m m0 m1 m2 => ?_⟩
  have mb : m < 2 ^ 60 := by
    refine Int.not_le.mp fun z => ?_
    have := sq_le (a := 2 ^ 60) (b := m) (by omega) z
    omega
  have d0 : 0 ≤ m / g := Int.ediv_nonneg m0 (by omega)
  have d1 : m / g ≤ m := Int.ediv_le_self _ m0
  walk_at "rd"
  refine rd_div (by omega) (by omega) ?_
  walk_at "rd"
  refine rd_mul (by omega) (by omega) ?_
  walk_at "rd"
  have rc50 : ∀ r ∈ rs, 0 ≤ r.2 ∧ r.2 ≤ 2 ^ 50 := fun r hr' => by have := rok r hr'; omega
  refine ⟨vm, u, vr, M, N, home, rs, 2 * (m / g) + 1, rfl, m_MR _ _ _ _ s02 hm, sh, m_IT _ _ _ _ s02 hu, m_Row _ _ _ _ s02 hrow, by omega, rc50, by omega, fun q3 H3 s3 p3 hq3 => ?_⟩
  have s03 := s02.trans s3
  obtain ⟨ar, xr, rfl, hra, fr⟩ := hrow
  walk_at "rd"
  refine rd_listL (sl (s03 _ _ hra)) fun q4 hq4 => ?_
  have s4 : Same H3 (upd H3 q4 (.lst xr)) := Same.new hq4
  have h4 : (upd H3 q4 (.lst xr)) q4 = some (.lst xr) := upd_same ..
  generalize upd H3 q4 (.lst xr) = H4 at *
  have s04 := s03.trans s4
  walk_at "rd"
  refine cut_given (m_Hd _ _ _ _ s04 hh) (fun k ek Q q => by walk_at "rd"; exact q) (fun a' qs ea hq Q q => by subst ea; walk_at "rd"; refine rd_listL (sl hq) fun l hl' => ?_; exact q l hl') fun vg H5 s5 hgv => ?_
  have s05 := s04.trans s5
  have h45 := s5 _ _ h4
  have row5 : Row H5 (.ref q4) rs := ⟨q4, xr, rfl, h45, fr.imp fun _ _ _ q => m_Rq _ _ _ _ s05 q⟩
  obtain ⟨dn1, dn2⟩ := due_no (M := M) (home := home) (rs := rs) (g := g) hg hv (fun r hr' => ⟨(rok r hr').1, (rok r hr').2.1⟩) g1
  have mid : ∀ (Hx : Hp), Same H5 Hx → ∀ (Q : VK) (E : XK), (∀ q H', Same Hx H' → Plan H' (.ref q) (planF N home rs (2 * (m / g) + 1)) → Hx q = none → Q (.ref q) H') → spMiddle K [.ref B.b, u, .ref q4, .int g, vg] Hx Q E := fun Hx sx Q E hq => by
    have sx0 := s05.trans sx
    refine ⟨B, M, N, u, .ref q4, vg, home, rs, g, hd, rfl, br.mono sx0, gd, m_IT _ _ _ _ sx0 hu, hl, m_Row _ _ _ _ sx row5, by omega, fun r hr' => (rok r hr').2.2.2, m_Hd _ _ _ _ sx hgv, fun r hr' => (rc50 r hr').2, fun p hp => by have := hg.bd p hp; omega, by omega, fun _ => ⟨lo, hi, m, fun z => ⟨(lo2 z).1, (hi2 z).1, fun p hp => ⟨(lo2 z).2 p hp, (hi2 z).2 p hp⟩⟩, m0, m1, m2, hq⟩, fun xs z => ?_, fun n z => ?_, fun n z => ?_⟩
    all_goals rw [dn2] at z; cases z
  walk_at "rd"
  refine ⟨rfl, rfl, mid H5 (Same.refl _) _ _ fun q6 H6 s6 p6 hq6 => ?_⟩
  have s06 := s05.trans s6
  have ok : RowsOk M N home rs := ⟨hv, fun r hr' => ⟨(rok r hr').1, by have := rok r hr'; omega⟩⟩
  have plen : (planF N home rs (2 * (m / g) + 1)).length = rs.length := homes_length _ _
  have pv : ∀ xs ∈ planF N home rs (2 * (m / g) + 1), isV M N xs = true := fun xs hx => plan_isV gd ok (by omega) hx
  have inN : ∀ xs, isV M N xs = true → xs.length < 1000 → InN N xs := fun xs hx hl => ⟨hl, fun x m => by have := ((isVP gd).mp hx).inN x m; omega⟩
  have pl1000 : ∀ xs ∈ planF N home rs (2 * (m / g) + 1), xs.length < 1000 := fun xs hx => by
    unfold planF homes at hx
    obtain ⟨j, _, rfl⟩ := List.mem_map.mp hx
    rw [List.length_map]
    have := List.length_filter_le (fun i => ((rowsF N home rs (2 * (m / g) + 1)).getD i []).getD j false) (List.range (rowsF N home rs (2 * (m / g) + 1)).length)
    rw [List.length_range, rowsF_length] at this
    rw [rowsF_length]
    omega
  have due6 : Plan H6 (.ref q3) (planF N home rs (2 * (m / g) + 1)) := m_Plan _ _ _ _ ((s4.trans s5).trans s6) p3
  walk_at "rd"
  refine rd_lenL (sl (s06 _ _ hra)) ?_
  walk_at "rd"
  have exr : (xr.length : Int) = (planF N home rs (2 * (m / g) + 1)).length := by rw [fr.length, plen]
  rw [exr]
  refine ⟨vm, .ref q6, M, N, _, rfl, m_MR _ _ _ _ s06 hm, sh, p6, by omega, fun xs hx => ⟨pl1000 xs hx, pv xs hx⟩, fun H7 s7 => ?_⟩
  have s07 := s06.trans s7
  walk_at "rd"
  have p7 := m_Plan _ _ _ _ s7 p6
  have due7 := m_Plan _ _ _ _ s7 due6
  refine ⟨.ref q6, .ref q3, rfl, Eqv.plan (k := 6) (by omega) (fun r hr' => by have := pl1000 r hr'; omega) p7 due7, ?_⟩
  walk_at "rd"
  have bd : Bd M N g ps rs := ⟨gd.sz, by omega, by omega, hg.len, fun p hp => by
    obtain ⟨i, hi'⟩ := List.mem_iff_getElem?.mp hp
    cases i with
    | zero =>
      have : ps.getD 0 0 = p := by rw [List.getD_eq_getElem?_getD, hi']; rfl
      omega
    | succ i =>
      have : p ∈ ps.drop 1 := List.mem_of_getElem? (i := i) (by rw [List.getElem?_drop, Nat.add_comm]; exact hi')
      have := pbd p this
      omega, by omega, rc50, fun r hr' => inN _ (rok r hr').1 (rok r hr').2.2.2⟩
  refine ⟨vm, u, .ref ar, .ref q6, M, N, home, rs, planF N home rs (2 * (m / g) + 1), g, a, ps, rfl, m_MR _ _ _ _ s07 hm, sh, m_IT _ _ _ _ s07 hu, ⟨ar, xr, rfl, s07 _ _ hra, fr.imp fun _ _ _ q => m_Rq _ _ _ _ s07 q⟩, p7, s07 _ _ ha, bd, inN home hv hl, fun xs hx => inN xs (pv xs hx) (pl1000 xs hx), plen, fun H8 s8 => ?_⟩
  have s08 := s07.trans s8
  walk_at "rd"
  refine ⟨vm, u, .ref ar, M, N, home, rs, g, a, ps, rfl, m_MR _ _ _ _ s08 hm, sh, m_IT _ _ _ _ s08 hu, ⟨ar, xr, rfl, s08 _ _ hra, fr.imp fun _ _ _ q => m_Rq _ _ _ _ s08 q⟩, s08 _ _ ha, bd, fun H9 s9 => ?_⟩
  have s09 := s08.trans s9
  have pr : ∀ p : Int, 1 ≤ p → p ≤ N → lo ≤ prA ps p ∧ prA ps p ≤ hi := fun p h1 h2 => by
    have hne : N ≠ 0 := by omega
    have : prA ps p ∈ ps.drop 1 := by
      have e1 : ps[p.toNat]? = some (prA ps p) := getD_at (by rw [hg.len]; omega)
      exact List.mem_of_getElem? (i := p.toNat - 1) (by rw [List.getElem?_drop, show 1 + (p.toNat - 1) = p.toNat by omega]; exact e1)
    rw [hg.eq] at this
    exact ⟨(lo2 hne).2 _ this, (hi2 hne).2 _ this⟩
  obtain ⟨c1, c2, c3, c4⟩ := costs gd ok bd g1 rl lo1.1 (by omega) lohi pr m0 m1 m2
  generalize costF M g ps home (planF N home rs (2 * (m / g) + 1)) rs = cost at *
  generalize sumF M N g ps home rs = total at *
  have cc := mul_bd (a := cost) (b := cost) (A := 2 ^ 90) (B := 2 ^ 90) (by omega) (by omega) (by omega) (by omega)
  have tt := mul_bd (a := total) (b := total) (A := 2 ^ 90) (B := 2 ^ 90) (by omega) (by omega) (by omega) (by omega)
  walk_at "rd"
  refine rd_iteF' (by omega) ?_
  walk_at "rd"
  refine rd_mul (by omega) (by omega) ?_
  walk_at "rd"
  refine rd_mul (by omega) (by omega) ?_
  walk_at "rd"
  refine rd_mul (by omega) (by omega) ?_
  walk_at "rd"
  refine rd_mul (by omega) (by omega) ?_
  walk_at "rd"
  refine rd_iteF' (by omega) ?_
  obtain ⟨ys, hy6, fy6⟩ := p6.at_
  have hy9 := (s7.trans (s8.trans s9)) _ _ hy6
  have s69 := s7.trans (s8.trans s9)
  have s59 := s6.trans s69
  refine rd_next ?_
  refine rd_seq ?_
  walk_at "rd"
  refine rd_tyL hy9 ?_
  walk_at "rd"
  refine ⟨ll (by simp), fun e hE => ?_⟩
  have hyl : ys.length = rs.length := by rw [fy6.length, plen]
  walk_at "rd"
  refine rd_push (keep_upd hE hy9) (by omega) ?_
  have s5F : Same H5 (upd (upd H9 e (.tup [])) q6 (.lst (ys ++ [.ref e]))) := Same.upd (s59.trans (Same.new hE)) hq6
  generalize upd (upd H9 e (.tup [])) q6 (.lst (ys ++ [.ref e])) = HF at *
  walk_at "rd"
  refine ⟨rfl, rfl, mid HF s5F _ _ fun q7 HG sG pG hqG => ?_⟩
  have s5G := s5F.trans sG
  have dueG : Plan HG (.ref q3) (planF N home rs (2 * (m / g) + 1)) := m_Plan _ _ _ _ (s4.trans (s5.trans s5G)) p3
  walk_at "rd"
  refine ⟨.ref q7, .ref q3, rfl, Eqv.plan (k := 6) (by omega) (fun r hr' => by have := pl1000 r hr'; omega) pG dueG, ?_⟩
  walk_at "rd"
  have s0G := s05.trans s5G
  refine ⟨.ref q4, .ref ar, rfl, Eqv.row (k := 5) (by omega) (fun r hr' => by have := rok r hr'; omega) (m_Row _ _ _ _ s5G row5) ⟨ar, xr, rfl, s0G _ _ hra, fr.imp fun _ _ _ q => m_Rq _ _ _ _ s0G q⟩, ?_⟩
  walk_at "rd"
  refine ⟨vg, vt, rfl, ?_, h _ s0G⟩
  have hg1 := m_Hd _ _ _ _ s5G hgv
  have hg2 := m_Hd _ _ _ _ s0G hh
  cases hd with
  | inl k =>
    obtain rfl : vg = .int k := hg1
    obtain rfl : vt = .int k := hg2
    exact .int k
  | inr qs => exact Eqv.il (k := 7) (by have := hg.len; have e := congrArg List.length hg.eq; rw [List.length_drop] at e; have e2 : (prs N (.inr qs)).length = qs.length := rfl; omega) hg1 hg2
end
end LK
set_option maxHeartbeats 4000000
/-! The plain law of the grown model. -/
namespace LK
open PySem PySem.Spec PyProof.Rows L2
section
variable {M M' : Mod} {N : Nat}
/-- what the growth left as it was -/
structure OldP (M : Mod) (N : Nat) (M' : Mod) : Prop where
  nd : ∀ p : Int, 1 ≤ p → p ≤ N → ndA M' p = ndA M p
  wr : ∀ p : Int, 1 ≤ p → p ≤ N → wrA M' p = wrA M p
  br : ∀ p o : Int, 1 ≤ p → p ≤ N → (o ∈ brA M' p ↔ o ∈ brA M p ∨ (o = N + 1 ∧ o ∈ brA M' p))
theorem GrownP.old (h : GrownP M N M') (g : Good M N) : OldP M N M' := by
  obtain ⟨ws, e, nd, bars, ds, qs, rfl, h1, h2, h3, h4, h5, h6, h7, h8, h9⟩ := h.ex
  have br : ∀ o ∈ bars, 1 ≤ o ∧ o ≤ N := fun o ho => by rw [h8] at ho; exact (mem_barsF.mp ho).1
  have bn : bars.Nodup := by rw [h8]; exact (upto_nodup N).filter _
  refine ⟨fun p a b => by rw [grown_nd g (by omega), if_neg (by omega)], fun p a b => by rw [grown_wr g (by omega), if_neg (by omega)], fun p o a b => ?_⟩
  rw [grown_br g bn br (by omega), if_neg (by omega), List.mem_append]
  by_cases c : p ∈ bars
  · simp [c]
    constructor
    · rintro (z | z)
      · exact .inl z
      · exact .inr ⟨z, .inr z⟩
    · rintro (z | ⟨z, _⟩)
      · exact .inl z
      · exact .inr z
  · simp [c]
theorem VP.grown {xs : List Int} (v : VP M N xs) (o : OldP M N M') (g : Good M N) : VP M' (N + 1) xs := by
  refine ⟨v.asc, fun x hx => by have := v.inN x hx; omega, fun x hx q hq => ?_, fun x hx r hr hrx => ?_⟩
  · have xi := v.inN x hx
    rw [o.nd x xi.1 xi.2] at hq
    exact v.nd x hx q hq
  · have xi := v.inN x hx
    have ri := v.inN r hrx
    rcases (o.br x r xi.1 xi.2).mp hr with z | ⟨z, _⟩
    · exact v.br x hx r z hrx
    · omega
theorem isV_grown {xs : List Int} (h : isV M N xs = true) (o : OldP M N M') (g : Good M N) (g' : Good M' (N + 1)) : isV M' (N + 1) xs = true := (isVP g').mpr (((isVP g).mp h).grown o g)
/-- needs of needs -/
theorem nd_trans (g : Good M N) : ∀ {n : Nat} {d x q : Int}, d.toNat ≤ n → 1 ≤ d → d ≤ N → x ∈ ndA M d → q ∈ ndA M x → q ∈ ndA M d
  | 0, d, x, q, hn, h1, h2, _, _ => by omega
  | n + 1, d, x, q, hn, h1, h2, hx, hq => by
    have hx' := (g.nd d x h1 h2).mp hx
    have xr := hx'.1
    have qr := ((g.nd x q xr.1 (by omega)).mp hq).1
    refine (g.nd d q h1 h2).mpr ⟨by omega, ?_⟩
    rcases hx'.2 with e | ⟨e, e1, e2⟩
    · exact .inr ⟨x, e, hq⟩
    · have er := g.dm d h1 h2 e e1
      exact .inr ⟨e, e1, nd_trans g (n := n) (by omega) er.1 (by omega) e2 hq⟩
/-- a patch and what it needs -/
theorem isV_new {p : Int} (g : Good M N) (h1 : 1 ≤ p) (h2 : p ≤ N) : isV M N (ndA M p ++ [p]) = true := by
  have nr := fun q (hq : q ∈ ndA M p) => ((g.nd p q h1 h2).mp hq).1
  refine (isVP g).mpr ⟨List.pairwise_append.mpr ⟨g.nds p h1 h2, by simp, fun a ha b hb => by rw [List.mem_singleton.mp hb]; exact (nr a ha).2⟩, fun x hx => ?_, fun x hx q hq => ?_, fun x hx r hr hrx => ?_⟩
  · rcases List.mem_append.mp hx with c | c
    · have := nr x c; omega
    · rw [List.mem_singleton.mp c]; exact ⟨h1, h2⟩
  · rcases List.mem_append.mp hx with c | c
    · have xr := nr x c
      have qr := ((g.nd x q xr.1 (by omega)).mp hq).1
      refine List.mem_append_left _ ((g.nd p q h1 h2).mpr ⟨by omega, ?_⟩)
      -- closed: by the demands
      rcases ((g.nd p x h1 h2).mp c).2 with d | ⟨d, d1, d2⟩
      · exact .inr ⟨x, d, hq⟩
      · refine .inr ⟨d, d1, ?_⟩
        have dr := g.dm p h1 h2 d d1
        exact nd_trans g (Nat.le_refl _) dr.1 (by omega) d2 hq
    · rw [List.mem_singleton.mp c] at hq
      exact List.mem_append_left _ hq
  · rcases List.mem_append.mp hx with c | c
    · have xr := nr x c
      rcases List.mem_append.mp hrx with d | d
      · have rr := nr r d
        have hit : HitP M p r := .inr (.inl ⟨x, c, hr⟩)
        exact g.disj p r h1 h2 ((g.brc p r h1 h2 rr.1 rr.2).mpr (.inl hit)) d
      · rw [List.mem_singleton.mp d] at hr
        exact g.disj p x h1 h2 ((g.brs x p xr.1 (by omega) h1 h2).mp hr) c
    · rw [List.mem_singleton.mp c] at hr
      rcases List.mem_append.mp hrx with d | d
      · exact g.disj p r h1 h2 hr d
      · rw [List.mem_singleton.mp d] at hr
        exact (g.brr p p h1 h2 hr).2.2 rfl
theorem BR.grown {K : PySem.W.Frag} {H : Hp} {B : BA} (h : BR K H B M N) (o : OldP M N M') (g : Good M N) : BR K H B M' N := by
  obtain ⟨x1, a1, b1⟩ := h.h1
  obtain ⟨x2, a2, b2⟩ := h.h2
  obtain ⟨x3, a3, b3, c3⟩ := h.h3
  obtain ⟨x4, a4, b4, c4⟩ := h.h4
  obtain ⟨x5, a5, b5, c5⟩ := h.h5
  refine ⟨h.b, h.h0, ⟨x1, a1, b1⟩, ⟨x2, a2, b2⟩, ⟨x3, a3, b3, fun p q r => by rw [o.nd p q r]; exact c3 p q r⟩, ⟨x4, a4, b4, fun p q r => (c4 p q r).congr fun y _ => ?_⟩, ⟨x5, a5, b5, fun c q r => (c5 c q r).congr fun y _ => ?_⟩, h.dis⟩
  · rw [o.br p y q r]
    constructor
    · rintro ⟨z1, z2⟩; exact ⟨.inl z1, z2⟩
    · rintro ⟨z1 | ⟨z1, _⟩, z2⟩
      · exact ⟨z1, z2⟩
      · omega
  · constructor
    · rintro ⟨z1, z2⟩; exact ⟨z1, by rw [o.wr y z1.1 z1.2]; exact z2⟩
    · rintro ⟨z1, z2⟩; exact ⟨z1, by rw [o.wr y z1.1 z1.2] at z2; exact z2⟩
end
/-- least, greatest, root: there are such -/
theorem ex_min : ∀ (xs : List Int), xs ≠ [] → ∃ a ∈ xs, ∀ p ∈ xs, a ≤ p
  | [], h => absurd rfl h
  | [x], _ => ⟨x, by simp, by simp⟩
  | x :: y :: r, _ => by
    obtain ⟨a, h1, h2⟩ := ex_min (y :: r) (by simp)
    by_cases c : x ≤ a
    · refine ⟨x, by simp, fun p hp => ?_⟩
      rcases List.mem_cons.mp hp with z | z
      · omega
      · have := h2 p z; omega
    · refine ⟨a, List.mem_cons_of_mem _ h1, fun p hp => ?_⟩
      rcases List.mem_cons.mp hp with z | z
      · omega
      · exact h2 p z
theorem ex_max : ∀ (xs : List Int), xs ≠ [] → ∃ a ∈ xs, ∀ p ∈ xs, p ≤ a
  | [], h => absurd rfl h
  | [x], _ => ⟨x, by simp, by simp⟩
  | x :: y :: r, _ => by
    obtain ⟨a, h1, h2⟩ := ex_max (y :: r) (by simp)
    by_cases c : a ≤ x
    · refine ⟨x, by simp, fun p hp => ?_⟩
      rcases List.mem_cons.mp hp with z | z
      · omega
      · have := h2 p z; omega
    · refine ⟨a, List.mem_cons_of_mem _ h1, fun p hp => ?_⟩
      rcases List.mem_cons.mp hp with z | z
      · omega
      · exact h2 p z
theorem ex_root : ∀ n : Nat, ∃ m : Int, 0 ≤ m ∧ m * m ≤ (n : Int) ∧ (n : Int) < (m + 1) * (m + 1)
  | 0 => ⟨0, by omega, by omega, by omega⟩
  | n + 1 => by
    obtain ⟨m, h0, h1, h2⟩ := ex_root n
    by_cases c : ((n + 1 : Nat) : Int) < (m + 1) * (m + 1)
    · exact ⟨m, h0, by omega, c⟩
    · refine ⟨m + 1, by omega, by omega, ?_⟩
      have e : (m + 1 + 1) * (m + 1 + 1) = (m + 1) * (m + 1) + 2 * (m + 1) + 1 := by
        simp only [Int.add_mul, Int.mul_add]; omega
      omega
end LK
set_option maxHeartbeats 4000000
/-! What stays, kept in heaps of its own. -/
namespace LK
open PySem PySem.Spec PyProof.Rows L2
def sgl (a : Addr) (o : HO) : Hp := upd (fun _ => none) a o
theorem sgl_same {a : Addr} {o : HO} {H : Hp} (h : H a = some o) : Same (sgl a o) H := fun b u e => by
  by_cases c : b = a
  · subst c
    have : sgl b o b = some o := upd_same ..
    rw [this] at e; rw [← e]; exact h
  · have : sgl a o b = none := upd_ne c
    rw [this] at e; cases e
theorem sgl_at {a : Addr} {o : HO} : sgl a o a = some o := upd_same ..
theorem sgl_ne {a b : Addr} {o : HO} (h : b ≠ a) : sgl a o b = none := upd_ne h
/-- sources Ss, the model's lists Ms, the book's lists Bs; GM the model, GB the book, Gs the rest -/
structure St (Ss Ms Bs : List Addr) (GM GB : Hp) (Gs : List Hp) (H : Hp) : Prop where
  m : Same GM H
  mS : ∀ x ∈ Ss, GM x = none
  mB : ∀ x ∈ Bs, GM x = none
  b : Same GB H
  bS : ∀ x ∈ Ss, GB x = none
  bM : ∀ x ∈ Ms, GB x = none
  r : ∀ G ∈ Gs, Same G H
  rS : ∀ G ∈ Gs, ∀ x ∈ Ss, G x = none
  rM : ∀ G ∈ Gs, ∀ x ∈ Ms, G x = none
  rB : ∀ G ∈ Gs, ∀ x ∈ Bs, G x = none
  iS : ∀ x ∈ Ss, H x ≠ none
  iM : ∀ x ∈ Ms, H x ≠ none
  iB : ∀ x ∈ Bs, H x ≠ none
theorem some_same {H H' : Hp} {x : Addr} (s : Same H H') (h : H x ≠ none) : H' x ≠ none := fun z => h (s.free z)
section
variable {Ss Ms Bs : List Addr} {GM GB : Hp} {Gs : List Hp} {H H' : Hp}
theorem St.mono (t : St Ss Ms Bs GM GB Gs H) (s : Same H H') : St Ss Ms Bs GM GB Gs H' :=
  ⟨t.m.trans s, t.mS, t.mB, t.b.trans s, t.bS, t.bM, fun G hG => (t.r G hG).trans s, t.rS, t.rM, t.rB, fun x hx => some_same s (t.iS x hx), fun x hx => some_same s (t.iM x hx), fun x hx => some_same s (t.iB x hx)⟩
theorem in_draw {S x : Addr} (s : Same (rm [S] H) H') (hS : H' S ≠ none) (h : H x ≠ none) : H' x ≠ none := by
  by_cases c : x = S
  · rw [c]; exact hS
  · exact some_same s (by rw [rm_at (by simpa using c)]; exact h)
theorem draw_of {S : Addr} {G : Hp} (g : Same G H) (hG : G S = none) (s : Same (rm [S] H) H') : Same G H' := (rm_of g fun x hx => by rw [List.mem_singleton.mp hx]; exact hG).trans s
theorem St.draw {S : Addr} {n : Nat} (t : St Ss Ms Bs GM GB Gs H) (h : S ∈ Ss) (s : Same (rm [S] H) H') (hS : Src S H' n) : St Ss Ms Bs GM GB Gs H' := by
  have k := src_ne hS
  exact ⟨draw_of t.m (t.mS S h) s, t.mS, t.mB, draw_of t.b (t.bS S h) s, t.bS, t.bM, fun G hG => draw_of (t.r G hG) (t.rS G hG S h) s, t.rS, t.rM, t.rB, fun x hx => in_draw s k (t.iS x hx), fun x hx => in_draw s k (t.iM x hx), fun x hx => in_draw s k (t.iB x hx)⟩
/-- a new source -/
theorem St.src {S : Addr} {n : Nat} (t : St Ss Ms Bs GM GB Gs H) (s : Same H H') (h : H S = none) (hS : Src S H' n) : St (S :: Ss) Ms Bs GM GB Gs H' := by
  have u := t.mono s
  refine ⟨u.m, fun x hx => ?_, t.mB, u.b, fun x hx => ?_, t.bM, u.r, fun G hG x hx => ?_, t.rM, t.rB, fun x hx => ?_, u.iM, u.iB⟩
  · rcases List.mem_cons.mp hx with z | z
    · rw [z]; exact t.m.free h
    · exact t.mS x z
  · rcases List.mem_cons.mp hx with z | z
    · rw [z]; exact t.b.free h
    · exact t.bS x z
  · rcases List.mem_cons.mp hx with z | z
    · rw [z]; exact (t.r G hG).free h
    · exact t.rS G hG x z
  · rcases List.mem_cons.mp hx with z | z
    · rw [z]; exact src_ne hS
    · exact u.iS x z
/-- more that stays -/
theorem St.add {G : Hp} (t : St Ss Ms Bs GM GB Gs H') (g : Same G H') (k : ∀ b, H b ≠ none → G b = none) (u : St Ss Ms Bs GM GB Gs H) : St Ss Ms Bs GM GB (G :: Gs) H' := by
  refine ⟨t.m, t.mS, t.mB, t.b, t.bS, t.bM, fun G' hG => ?_, fun G' hG x hx => ?_, fun G' hG x hx => ?_, fun G' hG x hx => ?_, t.iS, t.iM, t.iB⟩
  · rcases List.mem_cons.mp hG with z | z
    · rw [z]; exact g
    · exact t.r G' z
  · rcases List.mem_cons.mp hG with z | z
    · rw [z]; exact k x (u.iS x hx)
    · exact t.rS G' z x hx
  · rcases List.mem_cons.mp hG with z | z
    · rw [z]; exact k x (u.iM x hx)
    · exact t.rM G' z x hx
  · rcases List.mem_cons.mp hG with z | z
    · rw [z]; exact k x (u.iB x hx)
    · exact t.rB G' z x hx
theorem St.add1 {a : Addr} {o : HO} (t : St Ss Ms Bs GM GB Gs H') (h : H' a = some o) (u : St Ss Ms Bs GM GB Gs H) (ha : H a = none) : St Ss Ms Bs GM GB (sgl a o :: Gs) H' :=
  t.add (sgl_same h) (fun b hb => sgl_ne fun z => hb (by rw [z]; exact ha)) u
theorem upd_in {a x : Addr} {o : HO} (h : H x ≠ none) : upd H a o x ≠ none := by
  by_cases c : x = a
  · subst c; rw [upd_same]; exact fun z => by cases z
  · rw [upd_ne c]; exact h
/-- what was made since is written -/
theorem St.put {a : Addr} {o : HO} (t : St Ss Ms Bs GM GB Gs H') (u : St Ss Ms Bs GM GB Gs H) (ha : H a = none) : St Ss Ms Bs GM GB Gs (upd H' a o) :=
  ⟨Same.upd t.m (u.m.free ha), t.mS, t.mB, Same.upd t.b (u.b.free ha), t.bS, t.bM, fun G hG => Same.upd (t.r G hG) ((u.r G hG).free ha), t.rS, t.rM, t.rB, fun x hx => upd_in (t.iS x hx), fun x hx => upd_in (t.iM x hx), fun x hx => upd_in (t.iB x hx)⟩
theorem St.at1 {a : Addr} {o : HO} (t : St Ss Ms Bs GM GB Gs H) (h : sgl a o ∈ Gs) : H a = some o := t.r _ h _ _ sgl_at
/-- the model after a draw to come -/
theorem St.mrS {A : MA} {bA : List Addr} {M : Mod} {S : Addr} (t : St Ss Ms Bs GM GB Gs H) (h : MM GM A bA M) (hS : S ∈ Ss) : MR (rm [S] H) (.ref A.m) M :=
  ⟨A, rfl, (h.mono (rm_of t.m fun x hx => by rw [List.mem_singleton.mp hx]; exact t.mS S hS)).mra⟩
theorem St.mr {A : MA} {bA : List Addr} {M : Mod} (t : St Ss Ms Bs GM GB Gs H) (h : MM GM A bA M) : MR H (.ref A.m) M := ⟨A, rfl, (h.mono t.m).mra⟩
theorem St.rSx {G : Hp} {S : Addr} (t : St Ss Ms Bs GM GB Gs H) (h : G ∈ Gs) (hS : S ∈ Ss) : Same G (rm [S] H) := rm_of (t.r G h) fun x hx => by rw [List.mem_singleton.mp hx]; exact t.rS G h S hS
/-- the start -/
theorem St.start {S1 : Addr} {A : MA} {B : BA} {bA : List Addr} {M : Mod} {N : Nat} {K : PySem.W.Frag} {H0 H1 H4 H5 : Hp} {n : Nat} (s04 : Same H0 H1) (hS1 : H0 S1 = none) (hs1 : Src S1 H1 n) (m1 : Same GM H4) (m2 : ∀ b, H1 b ≠ none → GM b = none) (m3 : MM GM A bA M)
    (s14 : ∀ b, H1 b ≠ none → H4 b ≠ none) (s04' : Same H0 H4) (s45 : Same H4 H5) (b1 : Same GB H5) (b2 : ∀ b, H4 b ≠ none → GB b = none) (b3 : BR K GB B M N) : St [S1] (mts A bA) (bmt B) GM GB [H0] H5 := by
  have hb : ∀ x ∈ bmt B, GB x ≠ none := fun x hx => by
    obtain ⟨x1, a1, _⟩ := b3.h1
    obtain ⟨x2, a2, _⟩ := b3.h2
    obtain ⟨x3, a3, _⟩ := b3.h3
    obtain ⟨x4, a4, _⟩ := b3.h4
    obtain ⟨x5, a5, _⟩ := b3.h5
    unfold bmt at hx
    simp only [List.mem_cons, List.not_mem_nil, or_false] at hx
    rcases hx with z | z | z | z | z | z
    · rw [z, b3.h0]; exact fun q => by cases q
    · rw [z, a1]; exact fun q => by cases q
    · rw [z, a2]; exact fun q => by cases q
    · rw [z, a3]; exact fun q => by cases q
    · rw [z, a4]; exact fun q => by cases q
    · rw [z, a5]; exact fun q => by cases q
  have hb4 : ∀ x ∈ bmt B, H4 x = none := fun x hx => Classical.byContradiction fun c => hb x hx (b2 x c)
  have hm1 : ∀ x ∈ mts A bA, H1 x = none := fun x hx => Classical.byContradiction fun c => m3.in_ x hx (m2 x c)
  have i1 : H1 S1 ≠ none := src_ne hs1
  have one1 : ∀ x ∈ [S1], x = S1 := fun x hx => List.mem_singleton.mp hx
  have hG : ∀ G ∈ [H0], G = H0 := fun x hx => List.mem_singleton.mp hx
  refine ⟨m1.trans s45, fun x hx => ?_, fun x hx => m1.free (hb4 x hx), b1, fun x hx => ?_, fun x hx => b2 x (some_same m1 (m3.in_ x hx)), fun G g => ?_, fun G g x hx => ?_, fun G g x hx => ?_, fun G g x hx => ?_, fun x hx => ?_, fun x hx => some_same (m1.trans s45) (m3.in_ x hx), fun x hx => some_same b1 (hb x hx)⟩
  · rw [one1 x hx]; exact m2 _ i1
  · rw [one1 x hx]; exact b2 _ (s14 _ i1)
  · rw [hG G g]; exact s04'.trans s45
  · rw [hG G g, one1 x hx]; exact hS1
  · rw [hG G g]; exact s04.free (hm1 x hx)
  · rw [hG G g]; exact s04'.free (hb4 x hx)
  · rw [one1 x hx]; exact some_same s45 (s14 _ i1)
theorem src_draw {S S' : Addr} {n : Nat} (h : Src S H n) (ne : S ≠ S') (s : Same (rm [S'] H) H') : Src S H' n := by
  obtain ⟨c, r, k, q, z⟩ := h
  exact ⟨c, r, k, at_draw s ne q, z⟩
theorem dueF_i {M : Mod} {N : Nat} {home : List Int} {rs : List (List Int × Int)} {g : Int} {hd : Sum Int (List Int)} {k n : Int} (h : dueF M N home rs g hd = .i k n) : k = 2 ∨ k = 3 := by
  unfold dueF at h
  split at h
  · cases h
  · split at h
    · cases h; exact .inl rfl
    · split at h
      · cases h; exact .inr rfl
      · cases hd with
        | inl q =>
          unfold dueP at h
          simp only at h
          split at h
          · cases h; exact .inr rfl
          · cases h
        | inr ps =>
          unfold dueP at h
          simp only at h
          split at h
          · cases h; exact .inr rfl
          · split at h
            · cases h; exact .inr rfl
            · cases h
/-- the prices' ends and root -/
theorem ends {N : Nat} {hd : Sum Int (List Int)} {M : Mod} {home : List Int} {rs : List (List Int × Int)} {g : Int} (h : dueF M N home rs g hd = .no) : ∃ a b m : Int, (N ≠ 0 → a ∈ prs N hd ∧ b ∈ prs N hd ∧ ∀ p ∈ prs N hd, a ≤ p ∧ p ≤ b) ∧ 0 ≤ m ∧ m * m ≤ 4 * a * b ∧ 4 * a * b < (m + 1) * (m + 1) := by
  by_cases hN : N = 0
  · exact ⟨1, 1, 2, fun z => absurd hN z, by omega, by omega, by omega⟩
  have hp : dueP N hd = .no := by
    unfold dueF at h
    split at h
    · cases h
    · split at h
      · cases h
      · split at h
        · cases h
        · exact h
  have pos : ∀ p ∈ prs N hd, 1 ≤ p := by
    cases hd with
    | inl k =>
      intro p hm
      have : p = k := List.eq_of_mem_replicate hm
      unfold dueP at hp
      simp only at hp
      split at hp
      · cases hp
      · omega
    | inr ps =>
      intro p hm
      unfold dueP at hp
      simp only at hp
      split at hp
      · cases hp
      · split at hp
        · cases hp
        · rename_i hf
          have := List.find?_eq_none.mp hf p hm
          simp at this; omega
  have ne : prs N hd ≠ [] := by
    cases hd with
    | inl k =>
      intro z
      have := congrArg List.length z
      have e : (prs N (.inl k)).length = N := List.length_replicate
      rw [e] at this; exact hN this
    | inr ps =>
      intro z
      have : ps = [] := z
      subst this
      unfold dueP at hp
      simp only at hp
      split at hp
      · cases hp
      · rename_i c
        simp at c; omega
  obtain ⟨a, ha, ha'⟩ := ex_min _ ne
  obtain ⟨b, hb, hb'⟩ := ex_max _ ne
  have a1 := pos a ha
  have b1 := pos b hb
  have ab : 0 ≤ 4 * a * b := Int.mul_nonneg (by omega) (by omega)
  obtain ⟨m, m0, m1, m2⟩ := ex_root (4 * a * b).toNat
  rw [Int.toNat_of_nonneg ab] at m1 m2
  exact ⟨a, b, m, fun _ => ⟨ha, hb, fun p hp => ⟨ha' p hp, hb' p hp⟩⟩, m0, m1, m2⟩
end
end LK
set_option maxHeartbeats 4000000
/-! Plans asked with one price. -/
namespace LK
open PySem PySem.Spec PyProof.Rows L2
section
variable {K : PySem.W.Frag} {M : Mod} {N : Nat}
theorem hdOne {k : Int} (h1 : 1 ≤ k) (h2 : k ≤ 2 ^ 40) : HdGood N (.inl k) (List.replicate (N + 1) k) := by
  refine ⟨?_, by simp, fun p hp => ?_, fun z e => ?_⟩
  · show (List.replicate (N + 1) k).drop 1 = List.replicate N k
    simp
  · have : p = k := List.eq_of_mem_replicate hp
    omega
  · cases e; exact ⟨h1, h2⟩
theorem plan_short {home : List Int} {rs : List (List Int × Int)} {t : Int} (hN : N ≤ 20) (rl : rs.length ≤ 30) : (planF N home rs t).length = rs.length ∧ ∀ xs ∈ planF N home rs t, xs.length < 1000 := by
  refine ⟨homes_length _ _, fun xs hx => ?_⟩
  unfold planF homes at hx
  obtain ⟨j, _, rfl⟩ := List.mem_map.mp hx
  rw [List.length_map]
  have := List.length_filter_le (fun i => ((rowsF N home rs t).getD i []).getD j false) (List.range (rowsF N home rs t).length)
  rw [List.length_range, rowsF_length] at this
  rw [rowsF_length]
  omega
theorem alike_plan {H : Hp} {u v : V} {home : List Int} {rs : List (List Int × Int)} {t : Int} {k : Nat} (hN : N ≤ 20) (rl : rs.length ≤ 30) (h1 : Plan H u (planF N home rs t)) (h2 : Plan H v (planF N home rs t)) : Eqv H (k + 2) u v := by
  obtain ⟨a, b⟩ := plan_short (N := N) (home := home) (t := t) hN rl
  exact Eqv.plan (by omega) (fun r hr => by have := b r hr; omega) h1 h2
theorem mid1 {H : Hp} {B : BA} {u vr : V} {home : List Int} {rs : List (List Int × Int)} {g k : Int} {Q : VK} {E : XK} (br : BR K H B M N) (gd : Good M N) (hu : IT H u home) (hl : home.length < 1000) (hrow : Row H vr rs) (rl : rs.length ≤ 30)
    (rok : ∀ r ∈ rs, isV M N r.1 = true ∧ 1 ≤ r.2 ∧ r.2 ≤ 2 ^ 41 ∧ r.1.length < 1000) (hv : isV M N home = true) (g1 : 1 ≤ g) (g2 : g ≤ 100) (k1 : 1 ≤ k) (k2 : k ≤ 2 ^ 40)
    (hq : ∀ q H', Same H H' → Plan H' (.ref q) (planF N home rs (2 * (2 * k / g) + 1)) → H q = none → Q (.ref q) H') : spMiddle K [.ref B.b, u, vr, .int g, .int k] H Q E := by
  obtain ⟨d1, d2⟩ := due_no (M := M) (home := home) (rs := rs) (g := g) (hdOne (N := N) k1 k2) hv (fun r hr => ⟨(rok r hr).1, (rok r hr).2.1⟩) g1
  have mem : ∀ p ∈ prs N (.inl k), p = k := fun p hp => List.eq_of_mem_replicate hp
  refine ⟨B, M, N, u, vr, .int k, home, rs, g, .inl k, rfl, br, gd, hu, hl, hrow, by omega, fun r hr => (rok r hr).2.2.2, rfl, fun r hr => by have := rok r hr; omega, fun p hp => by rw [mem p hp]; omega, by omega, fun _ => ⟨k, k, 2 * k, fun z => ?_, by omega, ?_, ?_, hq⟩, fun xs z => ?_, fun n z => ?_, fun n z => ?_⟩
  · have : k ∈ prs N (.inl k) := List.mem_replicate.mpr ⟨z, rfl⟩
    exact ⟨this, this, fun p hp => by rw [mem p hp]; omega⟩
  · have : 2 * k * (2 * k) = 4 * k * k := by simp only [Int.mul_assoc, Int.mul_left_comm k 2 k]; omega
    omega
  · have : (2 * k + 1) * (2 * k + 1) = 4 * k * k + 4 * k + 1 := by simp only [Int.add_mul, Int.mul_add, Int.mul_assoc, Int.mul_left_comm k 2 k]; omega
    omega
  all_goals rw [d2] at z; cases z
end
end LK
set_option maxHeartbeats 4000000
/-! The last growth, and what it leaves. -/
namespace LK
open PySem PySem.Spec PyProof.Rows L2
/-- what L holds of H -/
def prt (L : List Addr) (H : Hp) : Hp := fun b => if b ∈ L then H b else none
theorem prt_in {L : List Addr} {H : Hp} {b : Addr} (h : b ∈ L) : prt L H b = H b := if_pos h
theorem prt_ne {L : List Addr} {H : Hp} {b : Addr} (h : b ∉ L) : prt L H b = none := if_neg h
section
variable {Ss Ms Bs : List Addr} {GM GB G : Hp} {Gs : List Hp} {H H' : Hp}
theorem St.dup (t : St Ss Ms Bs GM GB Gs H) (h : G ∈ Gs) : St Ss Ms Bs GM GB (G :: Gs) H := by
  have m : ∀ G' ∈ G :: Gs, G' ∈ Gs := fun G' hG => (List.mem_cons.mp hG).elim (fun z => z ▸ h) id
  exact ⟨t.m, t.mS, t.mB, t.b, t.bS, t.bM, fun G' hG => t.r G' (m G' hG), fun G' hG => t.rS G' (m G' hG), fun G' hG => t.rM G' (m G' hG), fun G' hG => t.rB G' (m G' hG), t.iS, t.iM, t.iB⟩
/-- the model ahead of a draw -/
theorem St.mmS {A : MA} {bA : List Addr} {M : Mod} {S : Addr} (t : St Ss Ms Bs GM GB Gs H) (h : MM GM A bA M) (hS : S ∈ Ss) : MM (rm [S] H) A bA M :=
  h.mono (rm_of t.m fun x hx => by rw [List.mem_singleton.mp hx]; exact t.mS S hS)
theorem St.grow {A : MA} {bA : List Addr} {B : BA} {M M' : Mod} {b S : Addr} (t : St Ss (mts A bA) (bmt B) GM GB Gs H) (hS : S ∈ Ss) (mm : MM GM A bA M) (s : Same (rm (S :: mts A bA) H) H')
    (k : ∀ Z : Hp, Z S ≠ none → (∀ b, Z b ≠ none → H b ≠ none) → MM (rmH Z H) A bA M → MM (rmH Z H') A (bA ++ [b]) M') :
    Same GB H' ∧ (∀ G ∈ Gs, Same G H' ∧ ∀ x ∈ bmt B, G x = none) ∧ ∃ GM' : Hp, Same GM' H' ∧ (∀ x ∈ bmt B, GM' x = none) ∧ MM GM' A (bA ++ [b]) M' := by
  have off : ∀ G, Same G H → G S = none → (∀ x ∈ mts A bA, G x = none) → Same G H' := fun G g g0 g1 => (rm_of g fun x hx => (List.mem_cons.mp hx).elim (fun z => by rw [z]; exact g0) (g1 x)).trans s
  have zin : ∀ {y}, y ∈ S :: bmt B → prt (S :: bmt B) H y ≠ none := fun {y} hy => by
    rw [prt_in hy]
    exact (List.mem_cons.mp hy).elim (fun z => by rw [z]; exact t.iS S hS) (t.iB y)
  have gmz : ∀ {y}, y ∈ S :: bmt B → GM y = none := fun {y} hy => (List.mem_cons.mp hy).elim (fun z => by rw [z]; exact t.mS S hS) (t.mB y)
  refine ⟨off GB t.b (t.bS S hS) t.bM, fun G hG => ⟨off G (t.r G hG) (t.rS G hG S hS) (t.rM G hG), t.rB G hG⟩, rmH (prt (S :: bmt B) H) H', rmH_same _ _, fun x hx => rmH_in (zin (List.mem_cons_of_mem _ hx)), k _ (zin List.mem_cons_self) (fun y hy => ?_) (mm.mono fun y o e => ?_)⟩
  · by_cases c : y ∈ S :: bmt B
    · rwa [prt_in c] at hy
    · exact absurd (prt_ne c) hy
  · have c : y ∉ S :: bmt B := fun z => by rw [gmz z] at e; cases e
    rw [rmH_at (prt_ne c)]
    exact t.m _ _ e
theorem Eqv.hd {k : Nat} {u v : V} {hd : Sum Int (List Int)} (ok : HdOk hd) (h1 : Hd H u hd) (h2 : Hd H v hd) : Eqv H (k + 1) u v := by
  cases hd with
  | inl n =>
    obtain rfl : u = .int n := h1
    obtain rfl : v = .int n := h2
    exact .int n
  | inr ps => exact .il (by have := ok.1; omega) h1 h2
theorem prs_le {N : Nat} {hd : Sum Int (List Int)} (ok : HdOk hd) : ∀ p ∈ prs N hd, p ≤ 2 ^ 50 := fun p hp => by
  cases hd with
  | inl n =>
    have e : p = n := List.eq_of_mem_replicate hp
    rw [e]; exact ok.2
  | inr ps => exact (ok.2 p hp).2
end
end LK
set_option maxHeartbeats 4000000
namespace LK
open PySem PySem.Spec PyProof.Rows L2
local macro_rules | `(tactic| walk_at "rd") => `(tactic| (repeat (first
  | with_reducible refine rd_seq ?_
  | with_reducible refine rd_asg ?_
  | with_reducible refine rd_ret ?_
  | with_reducible refine rd_drop ?_
  | with_reducible refine rd_if ?_
  | with_reducible refine rd_next ?_
  | ((with_reducible apply rd_var); (· exact rfl))
  | with_reducible refine rd_c ?_
  | with_reducible refine rd_op ?_
  | with_reducible refine rd_un ?_
  | with_reducible refine rd_I0 ?_
  | with_reducible refine rd_U ?_
  | with_reducible refine rd_eq ?_
  | with_reducible refine rd_ne ?_
  | with_reducible refine rd_neB ?_
  | with_reducible refine rd_asB ?_
  | with_reducible refine rd_test ?_
  | with_reducible refine rd_tB ?_
  | with_reducible refine rd_not ?_
  | with_reducible refine rd_and ?_
  | with_reducible refine rd_or ?_
  | with_reducible refine rd_andV ?_
  | with_reducible refine rd_orV ?_
  | with_reducible refine rd_notV ?_
  | with_reducible refine rd_ifx ?_
  | with_reducible refine rd_chain ?_
  | with_reducible refine rd_nil ?_
  | with_reducible refine rd_cons ?_
  | with_reducible refine rd_call ?_
  | with_reducible refine rd_cb ?_
  | with_reducible refine rd_lst ?_
  | with_reducible refine rd_tup ?_
  | with_reducible refine rd_min ?_
  | with_reducible refine rd_max ?_
  | with_reducible refine rd_abs ?_
  | with_reducible refine rd_int ?_
  | with_reducible refine rd_bm ?_
  | with_reducible refine rd_nt ?_
  | with_reducible refine rd_nf ?_
  | with_reducible refine rd_rg3 ?_
  | with_reducible refine rd_gnil ?_
  | with_reducible refine rd_gcons ?_
  | with_reducible refine rd_yes ?_
  | with_reducible refine rd_tt ?_
  | with_reducible refine rd_ff ?_
  | with_reducible refine rd_fld ?_
  | with_reducible refine rd_meth ?_
  | with_reducible refine rd_rev ?_
  | with_reducible refine rd_callN ?_
  | with_reducible refine rd_rg1 ?_
  | with_reducible refine rd_rg2 ?_
  | with_reducible refine rd_nm ?_
  | with_reducible refine rd_lc ?_
  | with_reducible refine rd_iL' ?_
  | with_reducible refine rd_iT' ?_)))
local macro_rules | `(tactic| walk_at "hp") => `(tactic| (first
  | assumption
  | exact upd_same ..
  | (refine keep_upd (by assumption) ?_; walk_at "hp")
  | (refine same_app (by assumption) ?_; walk_at "hp")))


section
variable {P : Program} {w : World} {K : PySem.W.Frag} {mg : Str → Option Value} {base : Heap}
theorem rd_sig {t u : TS} {D : Ends} {σ τ : L2.St} {H : Hp} (e : σ = τ) (h : tSeq t u D τ H) : tSeq t u D σ H := e ▸ h
def spLaw (K : PySem.W.Frag) : Sp := fun vs H Q _ => ∃ (a : Addr) (ns : List Int), vs = [.ref a] ∧ SqL K H a (iv ns) ∧ ns.length ≤ 63 ∧ ∀ H', Q (.bl true) H'
theorem okN {x : Str} {st : Stmt} {N ps : List Str} {k : Nat} {sp : Sp} {f : Addr} {fd : FuncData} (F : FunD K x x (defArgs st) (defBody st) (defScope st) [] [] f fd) (S : FnScope N ps (defScope st)) (len : ∀ vs H Q E, sp vs H Q E → vs.length = ps.length)
    (hb : ∀ (cdv : Value) (A : Around) (outer : List Env) (s : Shared) (H : Hp) (vs : List V) (Q : VK) (E : XK), Room k (A.deeper (envOfC x (defScope st) s.heap.objs.size f cdv)) → sp vs H Q E →
      ∃ t, PSs (cxOf (L2.CX P w) P w K mg base N x (defScope st) f cdv A outer s H E).nox (defBody st) t ∧ t { nx := fun _ H' => Q .non H', rt := Q } (start N vs) H) : FnOk P w K mg base (L2.CX P w) (k + 1) f fd ps sp :=
  F.ok S len fun cdv A outer s H vs Q E hr h => (hb cdv A outer s H vs Q E hr h).elim fun t z => ⟨t, z.1.nox, z.2⟩
theorem ok_law (T : Txt P K mg) {f : Addr} {fd : FuncData} (F : FunD K "law" "law" (defArgs (top 67)) (defBody (top 67)) (defScope (top 67)) [] [] f fd) : FnOk P w K mg base (L2.CX P w) 11 f fd ["_law_script"] (spLaw K) := by
  have S : FnScope ["_law_script", "_law_pick", "_law_model_here", "_law_book_here", "_law_gaze", "_law_home", "_law_source_here", "_law_most", "_law_prices", "_law_row_here", "_law_single", "_law_mess", "_law_start", "_law_asked", "_law_eye", "_law_wrong_here", "_law_due_here", "_law_kept", "_law_told", "_law_number", "_law_turn"] ["_law_script"] (defScope (top 67)) := ⟨rfl, rfl, rfl, by decide +kernel, rfl, by decide +kernel, by decide +kernel⟩
  refine okN F S (fun vs H Q E ⟨_, _, e, _⟩ => by rw [e]; rfl) fun cdv A0 outer s H vs Q E hr ⟨a, ns, e, hS, hl, h⟩ => ?_
  subst e
  refine ⟨_, (pss_cons (ps_set (i := 1) S.nd rfl (Or.inl rfl) (pe_c (c__law_source T) hr (by decide) (by rfl) (pa_cons (pv 0) (pa_cons pe_int pa_nil))))
      (pss_cons (ps_set (i := 2) S.nd rfl (Or.inl rfl) (pe_c (c__law_model T) hr (by decide) (by rfl) (pa_cons (pe_c (c__law_source T) hr (by decide) (by rfl) (pa_cons (pv 0) (pa_cons pe_int pa_nil))) (pa_cons (pe_ifExp (pt_cmpR op_eq (pe_c (c__law_draw T) hr (by decide) (by rfl) (pa_cons (pv 1) (pa_cons pe_int pa_nil))) pe_int (nomark _)) pe_int pe_int) (pa_cons pe_int pa_nil)))))
      (pss_cons (ps_set (i := 3) S.nd rfl (Or.inl rfl) (pe_c (c__law_book T) hr (by decide) (by rfl) (pa_cons (pv 2) pa_nil)))
      (pss_cons (ps_set (i := 4) S.nd rfl (Or.inl rfl) (pe_op op_add pe_int (pe_c (c__law_draw T) hr (by decide) (by rfl) (pa_cons (pv 1) (pa_cons pe_int pa_nil)))))
      (pss_cons (ps_set (i := 5) S.nd rfl (Or.inl rfl) (pe_c (c__law_version T) hr (by decide) (by rfl) (pa_cons (pv 1) (pa_cons (pv 2) pa_nil))))
      (pss_cons (ps_set (i := 6) S.nd rfl (Or.inr rfl) (pe_c (c__law_source T) hr (by decide) (by rfl) (pa_cons (pv 0) (pa_cons pe_int pa_nil))))
      (pss_cons (ps_set (i := 7) S.nd rfl (Or.inr rfl) (pe_ix (ix_ltK (K := K) rfl) (pe_lst (pa_cons pe_int (pa_cons pe_int (pa_cons pe_int (pa_cons pe_int (pa_cons pe_int (pa_cons pe_int (pa_cons pe_int (pa_cons (pe_op op_pow pe_int pe_int) pa_nil))))))))) (pe_c (c__law_draw T) hr (by decide) (by rfl) (pa_cons (pv 6) (pa_cons pe_int pa_nil))) (fun _ _ => rfl)))
      (pss_cons (ps_set (i := 8) S.nd rfl (Or.inl rfl) (pe_op op_cat (pe_lst (pa_cons pe_int pa_nil)) (pe_lc (own := [("_law_turn", 20)]) (by rfl) S.nd (pi_range1 (by rfl) T.b_range (pa_cons (pe_op op_sub (pe_callB (k_lenK (K := K) rfl) (by rfl) T.b_len (by decide +kernel) (pa_cons (pe_ix (ix_ltK (K := K) rfl) (pv 2) pe_int (fun _ _ => rfl)) pa_nil)) pe_int) pa_nil)) (blkOk_by (own := [("_law_turn", 20)]) (by kernel_rfl)) (fun _ _ _ _ _ => (pg_name (i := 20) S.nd rfl (Or.inl rfl))) (fun _ _ _ _ _ => pts_nil) (fun _ _ _ _ _ => (pe_op op_add pe_int (pe_c (c__law_draw T) hr (by decide) (by rfl) (pa_cons (pv 6) (pa_cons (pv 7) pa_nil))))))))
      (pss_cons (ps_set (i := 9) S.nd rfl (Or.inl rfl) (pe_c (c__law_row T) hr (by decide) (by rfl) (pa_cons (pv 0) (pa_cons pe_int (pa_cons (pv 2) (pa_cons pe_int pa_nil))))))
      (pss_cons (ps_if (pt_not (pt_val (pe_c (c__law_judged T) hr (by decide) (by rfl) (pa_cons (pv 2) (pa_cons (pv 3) (pa_cons (pv 5) (pa_cons (pv 9) (pa_cons (pv 4) (pa_cons (pv 8) (pa_cons (pe_slice (sl_listK (K := K) rfl) (pv 8) (po_some pe_int) po_none) pa_nil)))))))))) (pss_one (ps_ret pe_bl)) pss_nil)
      (pss_cons (ps_set (i := 10) S.nd rfl (Or.inl rfl) (pe_op op_add pe_int (pe_c (c__law_draw T) hr (by decide) (by rfl) (pa_cons (pv 6) (pa_cons (pv 7) pa_nil)))))
      (pss_cons (ps_if (pt_not (pt_val (pe_c (c__law_judged T) hr (by decide) (by rfl) (pa_cons (pv 2) (pa_cons (pv 3) (pa_cons (pv 5) (pa_cons (pv 9) (pa_cons (pv 4) (pa_cons (pe_op op_rep (pe_lst (pa_cons (pv 10) pa_nil)) (pe_callB (k_lenK (K := K) rfl) (by rfl) T.b_len (by decide +kernel) (pa_cons (pv 8) pa_nil))) (pa_cons (pv 10) pa_nil)))))))))) (pss_one (ps_ret pe_bl)) pss_nil)
      (pss_cons (ps_if (pt_not (pt_val (pe_c (c__law_alike T) hr (by decide) (by rfl) (pa_cons (pe_cD (c_middle_plan_none T) hr (by decide) (by rfl) (pa_cons (pv 3) (pa_cons (pv 5) (pa_cons (pe_callTy (k_listK (K := K) rfl) (by rfl) T.b_list (by decide +kernel) (pa_cons (pv 9) pa_nil)) pa_nil)))) (pa_cons (pe_c (c__law_plan T) hr (by decide) (by rfl) (pa_cons (pv 2) (pa_cons (pv 5) (pa_cons (pv 9) (pa_cons pe_int (pa_cons pe_int pa_nil)))))) pa_nil))))) (pss_one (ps_ret pe_bl)) pss_nil)
      (pss_cons (ps_set (i := 11) S.nd rfl (Or.inl rfl) (pe_c (c__law_source T) hr (by decide) (by rfl) (pa_cons (pv 0) (pa_cons pe_int pa_nil))))
      (pss_cons (ps_set (i := 12) S.nd rfl (Or.inl rfl) (pe_ifExp (pt_cmpR op_eq (pe_c (c__law_draw T) hr (by decide) (by rfl) (pa_cons (pv 11) (pa_cons pe_int pa_nil))) pe_int (nomark _)) (pe_c (c__law_strange T) hr (by decide) (by rfl) (pa_cons (pv 11) (pa_cons (pv 2) pa_nil))) (pv 5)))
      (pss_cons (ps_set (i := 13) S.nd rfl (Or.inl rfl) (pe_c (c__law_spoil_row T) hr (by decide) (by rfl) (pa_cons (pv 11) (pa_cons (pv 2) (pa_cons (pv 9) pa_nil)))))
      (pss_cons (ps_set (i := 14) S.nd rfl (Or.inl rfl) (pe_ifExp (pt_cmpR op_gt (pe_c (c__law_draw T) hr (by decide) (by rfl) (pa_cons (pv 11) (pa_cons pe_int pa_nil))) pe_int (nomark _)) (pv 4) (pe_op op_sub pe_int (pe_c (c__law_draw T) hr (by decide) (by rfl) (pa_cons (pv 11) (pa_cons pe_int pa_nil))))))
      (pss_cons (ps_set (i := 15) S.nd rfl (Or.inl rfl) (pe_c (c__law_wrong T) hr (by decide) (by rfl) (pa_cons (pv 11) (pa_cons (pe_ifExp (pt_cmpR op_gt (pe_c (c__law_draw T) hr (by decide) (by rfl) (pa_cons (pv 11) (pa_cons pe_int pa_nil))) pe_int (nomark _)) (pe_slice (sl_listK (K := K) rfl) (pv 8) (po_some pe_int) po_none) (pv 10)) pa_nil))))
      (pss_cons (ps_set (i := 16) S.nd rfl (Or.inl rfl) (pe_c (c__law_due T) hr (by decide) (by rfl) (pa_cons (pv 2) (pa_cons (pv 12) (pa_cons (pv 13) (pa_cons (pv 14) (pa_cons (pv 15) pa_nil)))))))
      (pss_cons (ps_set (i := 17) S.nd rfl (Or.inl rfl) (pe_ifExp (pt_val (pe_callB (k_isiK (K := K) rfl) (by rfl) T.b_isinstance (by decide +kernel) (pa_cons (pv 15) (pa_cons (pe_bltn (v := .ty "int") (by rfl) T.b_int (by decide +kernel) rfl) pa_nil)))) (pv 15) (pe_callTy (k_listK (K := K) rfl) (by rfl) T.b_list (by decide +kernel) (pa_cons (pv 15) pa_nil))))
      (pss_cons (ps_if (PW.pt (pw_or (pt_not (pt_val (pe_c (c__law_alike T) hr (by decide) (by rfl) (pa_cons (pe_c (c__law_refused T) hr (by decide) (by rfl) (pa_cons (pv 3) (pa_cons (pv 12) (pa_cons (pv 13) (pa_cons (pv 14) (pa_cons (pv 15) pa_nil)))))) (pa_cons (pv 16) pa_nil))))) (pw_or1 (pt_not (pt_val (pe_c (c__law_alike T) hr (by decide) (by rfl) (pa_cons (pv 15) (pa_cons (pv 17) pa_nil)))))))) (pss_one (ps_ret pe_bl)) pss_nil)
      (pss_cons (ps_set (i := 18) S.nd rfl (Or.inl rfl) (pe_lst (pa_cons (pe_cK (c_middle_plan_look T) hr (by decide) (by rfl) passL (pa_cons (pv 3) (pa_cons (pv 5) (pa_cons (pe_callTy (k_listK (K := K) rfl) (by rfl) T.b_list (by decide +kernel) (pa_cons (pv 9) pa_nil)) pa_nil))) (pk_cons (pv 4) pk_nil)) (pa_cons (pe_cK (c_middle_plan_toggle T) hr (by decide) (by rfl) passL (pa_cons (pv 3) (pa_cons (pv 5) (pa_cons (pe_callTy (k_listK (K := K) rfl) (by rfl) T.b_list (by decide +kernel) (pa_cons (pv 9) pa_nil)) pa_nil))) (pk_cons (pv 10) pk_nil)) pa_nil))))
      (pss_cons (ps_if (pt_not (pt_val (pe_c (c__law_alike T) hr (by decide) (by rfl) (pa_cons (pv 18) (pa_cons (pe_lst (pa_cons (pe_c (c__law_plan T) hr (by decide) (by rfl) (pa_cons (pv 2) (pa_cons (pv 5) (pa_cons (pv 9) (pa_cons pe_int (pa_cons (pe_op op_add (pe_op op_mulW pe_int (pe_op op_fdivW pe_int (pv 4))) pe_int) pa_nil)))))) (pa_cons (pe_c (c__law_plan T) hr (by decide) (by rfl) (pa_cons (pv 2) (pa_cons (pv 5) (pa_cons (pv 9) (pa_cons pe_int (pa_cons (pe_op op_add (pe_op op_mulW pe_int (pv 10)) pe_int) pa_nil)))))) pa_nil))) pa_nil))))) (pss_one (ps_ret pe_bl)) pss_nil)
      (pss_cons (ps_expr (pe_c (c__law_grow T) hr (by decide) (by rfl) (pa_cons (pv 6) (pa_cons (pv 2) (pa_cons pe_int pa_nil)))))
      (pss_cons (ps_set (i := 19) S.nd rfl (Or.inl rfl) (pe_op op_sub (pe_callB (k_lenK (K := K) rfl) (by rfl) T.b_len (by decide +kernel) (pa_cons (pe_ix (ix_ltK (K := K) rfl) (pv 2) pe_int (fun _ _ => rfl)) pa_nil)) pe_int))
      (pss_cons (ps_expr (pe_mK (pv 3) T.cl (c_Book_make_patch_kw T) hr (by decide) (pa_cons (pe_callTy (k_listK (K := K) rfl) (by rfl) T.b_list (by decide +kernel) (pa_cons (pe_ix (ix_ltK (K := K) rfl) (pe_ix (ix_ltK (K := K) rfl) (pv 2) pe_int (fun _ _ => rfl)) (pv 19) (fun _ _ => rfl)) pa_nil)) pa_nil) (pk_cons (pe_callTy (k_tupK (K := K) rfl) (by rfl) T.b_tuple (by decide +kernel) (pa_cons (pe_ix (ix_ltK (K := K) rfl) (pe_ix (ix_ltK (K := K) rfl) (pv 2) pe_int (fun _ _ => rfl)) (pv 19) (fun _ _ => rfl)) pa_nil)) (pk_cons (pe_callTy (k_tupK (K := K) rfl) (by rfl) T.b_tuple (by decide +kernel) (pa_cons (pe_ix (ix_ltK (K := K) rfl) (pe_ix (ix_ltK (K := K) rfl) (pv 2) pe_int (fun _ _ => rfl)) (pv 19) (fun _ _ => rfl)) pa_nil)) (pk_cons (pe_ix (ix_ltK (K := K) rfl) (pe_ix (ix_ltK (K := K) rfl) (pv 2) pe_int (fun _ _ => rfl)) (pv 19) (fun _ _ => rfl)) pk_nil)))))
      (pss_cons (ps_set (i := 9) S.nd rfl (Or.inl rfl) (pe_op op_cat (pv 9) (pe_lst (pa_cons (pe_tup (pa_cons (pe_callTy (k_tupK (K := K) rfl) (by rfl) T.b_tuple (by decide +kernel) (pa_cons (pe_op op_cat (pe_ix (ix_ltK (K := K) rfl) (pe_ix (ix_ltK (K := K) rfl) (pv 2) pe_int (fun _ _ => rfl)) (pv 19) (fun _ _ => rfl)) (pe_lst (pa_cons (pv 19) pa_nil))) pa_nil)) (pa_cons pe_int pa_nil))) pa_nil))))
      (pss_one (ps_ret (pe_c (c__law_judged T) hr (by decide) (by rfl) (pa_cons (pv 2) (pa_cons (pv 3) (pa_cons (pv 5) (pa_cons (pv 9) (pa_cons (pv 4) (pa_cons (pe_op op_rep (pe_lst (pa_cons (pv 10) pa_nil)) (pe_op op_add (pv 19) pe_int)) (pa_cons (pv 10) pa_nil))))))))))))))))))))))))))))))))))))), ?_⟩
  walk_at "rd"
  refine ⟨a, ns, 1, rfl, hS, by omega, by omega, fun S1 H1 s1 hS1 hs1 => ?_⟩
  walk_at "rd"
  refine ⟨a, ns, 0, rfl, s1.seq hS, by omega, by omega, fun S0 H2 s2 hS0 hs0 => ?_⟩
  have hS0S1 : S0 ≠ S1 := hs1.ne hS0
  walk_at "rd"
  refine ⟨S1, 16, 0, rfl, hs1.mono s2, by omega, by omega, by omega, fun r H3 r0 r1 s3 hs3 => ?_⟩
  have s03 : Same H H3 := draw_of (s1.trans s2) hS1 s3
  walk_at "rd"
  refine rd_ifxV (x := .int 14) (y := .int 7) (fun Q q => q) (fun Q q => q) ?_
  obtain ⟨most, em, em0, em1⟩ : ∃ m : Int, (if decide (r = 15) = true then V.int 14 else V.int 7) = .int m ∧ 0 ≤ m ∧ m ≤ 14 := by
    by_cases c : r = 15
    · exact ⟨14, by rw [decide_eq_true c]; rfl, by omega, by omega⟩
    · exact ⟨7, by rw [decide_eq_false c]; rfl, by omega, by omega⟩
  rw [em]
  walk_at "rd"
  have hs03 : Src S0 H3 0 := src_draw hs0 hS0S1 s3
  refine ⟨S0, 0, most, rfl, hs03, by omega, em0, em1, fun H4 A bA M N s4 hs04 nd gd n14 b3 => ?_⟩
  have s04 : Same H H4 := draw_of s03 (s1.free hS0) s4
  have hs4 : Src S1 H4 1 := src_draw hs3 (Ne.symm hS0S1) s4
  have mr4 : MR H4 (.ref A.m) M := ⟨A, rfl, (nd.at_ fun _ _ s m => m.mono s).mra⟩
  walk_at "rd"
  refine ⟨.ref A.m, M, N, rfl, mr4, gd, b3, fun H5 B s5 nb => ?_⟩
  obtain ⟨GM, gm1, gm2, mm⟩ := nd
  obtain ⟨GB, gb1, gb2, br⟩ := nb
  have t5 : St [S1] (mts A bA) (bmt B) GM GB [H] H5 := St.start s03 hS1 hs3 gm1 gm2 mm (fun b hb => in_draw s4 (src_ne hs04) hb) s04 s5 gb1 gb2 br
  have hs5 := hs4.mono s5
  have sh := gd.sh
  have hN := gd.nN
  clear s1 hS1 hs1 s2 hS0 hs0 hS0S1 s3 hs3 s03 em hs03 s4 hs04 s04 hs4 mr4 s5 gm1 gm2 gb1 gb2
  walk_at "rd"
  refine ⟨S1, 9, 1, rfl, hs5, by omega, by omega, by omega, fun g0 H6 g00 g01 s6 hs6 => ?_⟩
  have t6 := t5.draw (by simp) s6 hs6
  obtain ⟨g, eg⟩ : ∃ g : Int, g = 1 + g0 := ⟨_, rfl⟩
  walk_at "rd"
  rw [← eg]
  have g1 : 1 ≤ g := by omega
  have g2 : g ≤ 100 := by omega
  clear eg
  walk_at "rd"
  refine ⟨S1, 1 + 1, .ref A.m, M, N, rfl, hs6, by omega, t6.mrS mm (by simp), sh, fun hm home H7 s7 hs7 hm0 hm1 hv hlN => ?_⟩
  have t7 := t6.draw (by simp) s7 hs7
  have t7 := t7.add1 hm1 t6 hm0
  refine rd_sig (τ := [some (.ref a), some (.ref S1), some (.ref A.m), some (.ref B.b), some (.int g), some (.ref hm), none, none, none, none, none, none, none, none, none, none, none, none, none, none, none]) (by rfl) ?_
  walk_at "rd"
  refine ⟨a, ns, 2, rfl, (t7.r H (by simp)).seq hS, by omega, by omega, fun S2 H8 s8 hS2 hs8 => ?_⟩
  have t8 := t7.src s8 hS2 hs8
  clear t5 t6 t7 hs5 s6 hs6 s7 hs7 hm0 hm1 s8 hS2
  walk_at "rd"
  have br' : BR K GB B M N := br
  clear br
  refine rd_pow (by omega) (by omega) ?_
  have e12 : (10 : Int) ^ (12 : Int).toNat = 1000000000000 := by decide
  rw [e12]
  walk_at "rd"
  refine ⟨ll (by simp), fun l hlf => ?_⟩
  have hlS := hs8.ne hlf
  have hla : (upd H8 l (.lst [V.int 12, V.int 40, V.int 200, V.int 12, V.int 40, V.int 200, V.int 3, V.int 1000000000000])) l = some (.lst [V.int 12, V.int 40, V.int 200, V.int 12, V.int 40, V.int 200, V.int 3, V.int 1000000000000]) := upd_same ..
  have t9 := t8.mono (Same.new (o := .lst [V.int 12, V.int 40, V.int 200, V.int 12, V.int 40, V.int 200, V.int 3, V.int 1000000000000]) hlf)
  have hs9 := src_upd (o := .lst [V.int 12, V.int 40, V.int 200, V.int 12, V.int 40, V.int 200, V.int 3, V.int 1000000000000]) hs8 hlS
  generalize upd H8 l (.lst [V.int 12, V.int 40, V.int 200, V.int 12, V.int 40, V.int 200, V.int 3, V.int 1000000000000]) = H9 at *
  walk_at "rd"
  refine ⟨S2, 8, 0, rfl, hs9, by omega, by omega, by omega, fun q H10 q0 q1 s10 hs10 => ?_⟩
  have t10 := t9.draw (by simp) s10 hs10
  have hlb := at_draw s10 hlS hla
  obtain ⟨mo, emo, mo1, mo2⟩ : ∃ mo : Int, atI [V.int 12, V.int 40, V.int 200, V.int 12, V.int 40, V.int 200, V.int 3, V.int 1000000000000] q = some (.int mo) ∧ 3 ≤ mo ∧ mo ≤ 1000000000000 := by
    have : q = 0 ∨ q = 1 ∨ q = 2 ∨ q = 3 ∨ q = 4 ∨ q = 5 ∨ q = 6 ∨ q = 7 := by omega
    rcases this with z | z | z | z | z | z | z | z <;> subst z <;> exact ⟨_, rfl, by omega, by omega⟩
  refine rd_iL (sl hlb) emo ?_
  clear t8 t9 hs8 hs9 hla hlb s10 hlf hlS emo q0 q1
  obtain ⟨x1, h1, f1⟩ := mm.h1
  have l1 : (x1.length : Int) - 1 = N := by rw [f1.length, gd.lwr]; omega
  walk_at "rd"
  refine ⟨ll (by simp), fun l0 hl0 => ?_⟩
  have hl0S := hs10.ne hl0
  have t11 := t10.mono (Same.new (o := .lst [V.int 0]) hl0)
  have hs11 := src_upd (o := .lst [V.int 0]) hs10 hl0S
  have hl0a : (upd H10 l0 (.lst [V.int 0])) l0 = some (.lst [V.int 0]) := upd_same ..
  generalize upd H10 l0 (.lst [V.int 0]) = H11 at *
  walk_at "rd"
  refine rd_iL (v := .ref A.a1) (sl (t11.m _ _ (rm_same _ _ _ _ mm.m))) (by rfl) ?_
  walk_at "rd"
  refine rd_lenL (sl (t11.m _ _ h1)) ?_
  walk_at "rd"
  rw [l1]
  refine rg1N N (by omega) (by omega) fun D hD => ?_
  have hDS := hs11.ne hD
  have hDl : l0 ≠ D := ne_of_none hl0a hD
  refine lc_range (fun i H' => St [S2, S1] (mts A bA) (bmt B) GM GB [sgl hm (HO.tup (iv home)), H] H' ∧ Src S2 H' (1 + i) ∧ H' l0 = some (.lst [V.int 0]) ∧ ∃ qs : List Int, H' D = some (.lst (iv qs)) ∧ qs.length = i ∧ ∀ p ∈ qs, 1 ≤ p ∧ p ≤ 1000000000000) ⟨t11.mono (Same.new hD), src_upd hs11 hDS, upd_other hDl hl0a, [], upd_same .., rfl, by simp⟩ (fun i Hc hi ⟨tc, hsc, hlc, qs, k1, k2, k3⟩ => ?_) fun H12 ⟨t12, hs12, hl12, qs, k1, k2, k3⟩ => ?_
  · walk_at "rd"
    refine ⟨rfl, ?_⟩
    walk_at "rd"
    refine ⟨_, _, _, rfl, hsc, by omega, by omega, by omega, fun z Hd z0 z1 sd hsd => ?_⟩
    have td := tc.draw (by simp) sd hsd
    have e4 := at_draw sd hDS k1
    have e5 := at_draw sd hl0S hlc
    walk_at "rd"
    refine ⟨_, e4, by rw [line]; simp; omega, td.put t11 hD, src_upd (hsd.le (by omega)) hDS, upd_other hDl e5, qs ++ [1 + z], by rw [upd_same]; simp, by simp; omega, fun p hp => ?_⟩
    rcases List.mem_append.mp hp with y | y
    · exact k3 p y
    · have := List.mem_singleton.mp y; omega
  refine rd_catL hl12 k1 (by simp; omega) fun pr hpr => ?_
  have t13 := t12.mono (Same.new (o := .lst ([V.int 0] ++ iv qs)) hpr)
  have hs13 := hs12.mono (Same.new (o := .lst ([V.int 0] ++ iv qs)) hpr)
  have hpa : (upd H12 pr (.lst ([V.int 0] ++ iv qs))) pr = some (.lst (iv (0 :: qs))) := upd_same ..
  have t13 := t13.add1 hpa t12 hpr
  generalize upd H12 pr (.lst ([V.int 0] ++ iv qs)) = H13 at *
  clear t10 hs10 hl0 hl0S t11 hs11 hl0a hD hDS hDl t12 hs12 hl12 k1 hpr hpa
  walk_at "rd"
  refine ⟨a, ns, .ref A.m, M, N, rfl, (t13.r H (by simp)).seq hS, by omega, t13.mr mm, sh, hN, fun ro H14 rs s14 hro nr rl rok => ?_⟩
  have t14 := t13.mono s14
  obtain ⟨GR, gr1, gr2, row⟩ := nr
  have t14 := t14.add gr1 gr2 t13
  have hs14 := hs13.mono s14
  clear t13 hs13 s14 hro gr1 gr2
  refine rd_sig (τ := [some (.ref a), some (.ref S1), some (.ref A.m), some (.ref B.b), some (.int g), some (.ref hm), some (.ref S2), some (.int mo), some (.ref pr), some (.ref ro), none, none, none, none, none, none, none, none, none, none, none]) (by rfl) ?_
  walk_at "rd"
  refine rd_sl ?_
  walk_at "rd"
  refine ⟨1, rfl, ?_⟩
  refine rd_np ?_
  have hpa := t14.at1 (a := pr) (o := .lst (iv (0 :: qs))) (by simp)
  refine rd_slL (sl hpa) fun c1 hc1 => ?_
  have e9 : cutV (iv (0 :: qs)) (some 1) none = iv qs := by rw [cut1]; simp
  rw [e9]
  have t15 := t14.mono (Same.new (o := .lst (iv qs)) hc1)
  have hs15 := hs14.mono (Same.new (o := .lst (iv qs)) hc1)
  have hc1a : (upd H14 c1 (.lst (iv qs))) c1 = some (.lst (iv qs)) := upd_same ..
  generalize upd H14 c1 (.lst (iv qs)) = H15 at *
  walk_at "rd"
  have hg : HdGood N (.inr qs) (0 :: qs) := ⟨rfl, by simp [k2], fun p hp => by have := k3 p hp; omega, fun k z => by cases z⟩
  have rok' : ∀ r ∈ rs, isV M N r.1 = true ∧ 1 ≤ r.2 ∧ r.2 ≤ 2 ^ 41 ∧ r.1.length < 1000 := fun r hr' => by
    obtain ⟨z1, z2, z3, z4⟩ := rok r hr'
    exact ⟨z1, z3, z4, by omega⟩
  have hu : ∀ {Hx Gs}, St [S2, S1] (mts A bA) (bmt B) GM GB Gs Hx → sgl hm (HO.tup (iv home)) ∈ Gs → IT Hx (.ref hm) home := fun t i => ⟨hm, rfl, t.at1 i⟩
  have hrow : ∀ {Hx}, Same GR Hx → Row Hx (.ref ro) rs := fun s => m_Row _ _ _ _ s row
  refine ⟨B, M, N, .ref A.m, .ref hm, .ref ro, .ref c1, home, rs, g, pr, 0 :: qs, .inr qs, rfl, t15.mr mm, br'.mono t15.b, gd, hu t15 (by simp), hv, by omega, hrow (t15.r GR (by simp)), by omega, rok', g1, g2, t15.at1 (by simp), hg, by simp, by simp, ⟨c1, rfl, hc1a⟩, fun H16 s16 => ?_⟩
  have t16 := t15.mono s16
  have hs16 := hs15.mono s16
  clear t14 hs14 hpa hc1 hc1a t15 hs15 s16
  walk_at "rd"
  refine ⟨S2, mo, 1 + N, rfl, hs16, by omega, by omega, by omega, fun z17 H17 z0 z1 s17 hs17 => ?_⟩
  have t17 := t16.draw (by simp) s17 hs17
  obtain ⟨sg, esg⟩ : ∃ sg : Int, sg = 1 + z17 := ⟨_, rfl⟩
  refine rd_I0 ?_
  refine rd_sig (τ := [some (.ref a), some (.ref S1), some (.ref A.m), some (.ref B.b), some (.int g), some (.ref hm), some (.ref S2), some (.int mo), some (.ref pr), some (.ref ro), some (.int (1 + z17)), none, none, none, none, none, none, none, none, none, none]) (by rfl) ?_
  rw [← esg]
  have sg1 : 1 ≤ sg := by omega
  have sg2 : sg ≤ 2 ^ 40 := by omega
  clear esg z0 z1 t16 hs16 s17
  walk_at "rd"
  refine ⟨ll (by simp), fun l2 hl2 => ?_⟩
  have t18 := t17.mono (Same.new (o := .lst [V.int sg]) hl2)
  have hs18 := hs17.mono (Same.new (o := .lst [V.int sg]) hl2)
  have hl2a : (upd H17 l2 (.lst [V.int sg])) l2 = some (.lst [V.int sg]) := upd_same ..
  generalize upd H17 l2 (.lst [V.int sg]) = H18 at *
  clear hl2
  walk_at "rd"
  refine rd_lenL (sl (t18.at1 (a := pr) (o := .lst (iv (0 :: qs))) (by simp))) ?_
  walk_at "rd"
  have eln : ((iv (0 :: qs)).length : Int) = N + 1 := by simp [k2]
  rw [eln]
  refine rd_repL hl2a (by omega) (by simp; omega) (by omega) fun p2 hp2 => ?_
  have erp : (List.replicate ((N : Int) + 1).toNat [V.int sg]).flatten = iv (List.replicate (N + 1) sg) := by
    have : ((N : Int) + 1).toNat = N + 1 := by omega
    rw [this]
    simp
  rw [erp]
  have t19 := t18.mono (Same.new (o := .lst (iv (List.replicate (N + 1) sg))) hp2)
  have hs19 := hs18.mono (Same.new (o := .lst (iv (List.replicate (N + 1) sg))) hp2)
  have hp2a : (upd H18 p2 (.lst (iv (List.replicate (N + 1) sg)))) p2 = some (.lst (iv (List.replicate (N + 1) sg))) := upd_same ..
  generalize upd H18 p2 (.lst (iv (List.replicate (N + 1) sg))) = H19 at *
  clear t17 hs17 t18 hs18 hl2a hp2
  have g0e : (List.replicate (N + 1) sg).getD 0 0 = sg := rfl
  walk_at "rd"
  refine ⟨B, M, N, .ref A.m, .ref hm, .ref ro, .int sg, home, rs, g, p2, List.replicate (N + 1) sg, .inl sg, rfl, t19.mr mm, br'.mono t19.b, gd, hu t19 (by simp), hv, by omega, hrow (t19.r GR (by simp)), by omega, rok', g1, g2, hp2a, hdOne sg1 sg2, by omega, by omega, rfl, fun H20 s20 => ?_⟩
  have t20 := t19.mono s20
  have hs20 := hs19.mono s20
  clear t19 hs19 hp2a s20
  have rc50 : ∀ r ∈ rs, 0 ≤ r.2 ∧ r.2 ≤ 2 ^ 50 := fun r hr' => by have := rok' r hr'; omega
  obtain ⟨ar, xr, ear, hra, fr⟩ := row
  cases ear
  have row : Row GR (.ref ro) rs := ⟨ro, xr, rfl, hra, fr⟩
  walk_at "rd"
  refine rd_listL (sl (t20.r GR (by simp) _ _ hra)) fun w1 hw1 => ?_
  have t21 := t20.mono (Same.new (o := .lst xr) hw1)
  have hs21 := hs20.mono (Same.new (o := .lst xr) hw1)
  have hw1a : (upd H20 w1 (.lst xr)) w1 = some (.lst xr) := upd_same ..
  generalize upd H20 w1 (.lst xr) = H21 at *
  clear t20 hs20 hw1
  have rowL : ∀ {Hx : Hp} {q : Addr}, Same GR Hx → Hx q = some (.lst xr) → Row Hx (.ref q) rs := fun s e => ⟨_, xr, rfl, e, fr.imp fun _ _ _ q => m_Rq _ _ _ _ s q⟩
  walk_at "rd"
  refine mid1 (g := 1) (k := 1) (br'.mono t21.b) gd (hu t21 (by simp)) (by omega) (rowL (t21.r GR (by simp)) hw1a) (by omega) rok' hv (by omega) (by omega) (by omega) (by omega) fun q1 H22 s22 p22 hq1 => ?_
  have t22 := t21.mono s22
  have hs22 := hs21.mono s22
  clear hw1a hs21 t21 s22 hq1
  walk_at "rd"
  refine ⟨.ref A.m, .ref hm, .ref ro, M, N, home, rs, 5, rfl, t22.mr mm, sh, hu t22 (by simp), hrow (t22.r GR (by simp)), by omega, rc50, by omega, fun q2 H23 s23 p23 hq2 => ?_⟩
  have t23 := t22.mono s23
  have hs23 := hs22.mono s23
  have p22' := m_Plan _ _ _ _ s23 p22
  clear t22 hs22 s23 hq2 p22
  walk_at "rd"
  refine ⟨.ref q1, .ref q2, rfl, alike_plan (t := 5) (k := 6) hN (by omega) p22' p23, ?_⟩
  clear p22' p23
  walk_at "rd"
  obtain ⟨Gs, iR, iP, iH, i0, t23⟩ : ∃ Gs, GR ∈ Gs ∧ sgl pr (.lst (iv (0 :: qs))) ∈ Gs ∧ sgl hm (HO.tup (iv home)) ∈ Gs ∧ H ∈ Gs ∧ St [S2, S1] (mts A bA) (bmt B) GM GB Gs H23 := ⟨_, by simp, by simp, by simp, by simp, t23⟩
  refine ⟨a, ns, 3, rfl, (t23.r H i0).seq hS, by omega, by omega, fun S3 H24 s24 hS3 hs24 => ?_⟩
  have n32 : S2 ≠ S3 := Ne.symm (hs23.ne hS3)
  have t24 := t23.src s24 hS3 hs24
  have hs2 := hs23.mono s24
  clear t23 hs23 s24 hS3
  walk_at "rd"
  refine ⟨S3, 4, 0, rfl, hs24, by omega, by omega, by omega, fun d1 H25 d10 d11 s25 hs25 => ?_⟩
  have t25 := t24.draw (by simp) s25 hs25
  have hs2 := src_draw hs2 n32 s25
  clear t24 hs24 s25
  have hl20 : home.length ≤ 20 := by omega
  walk_at "rd"
  refine rd_ifH (Pm := fun x H' => ∃ (b : Addr) (xs : List Int), x = .ref b ∧ St [S3, S2, S1] (mts A bA) (bmt B) GM GB (sgl b (.tup (iv xs)) :: Gs) H' ∧ Src S3 H' 50 ∧ Src S2 H' (1 + N + 1) ∧ xs.length ≤ 20) (fun c Q q => ?_) (fun c Q q => ?_) fun x H26 ⟨b0, xs0, ex, t26, hs26, hs2, xl⟩ => ?_
  · walk_at "rd"
    refine ⟨S3, 1, .ref A.m, M, N, rfl, hs25, by omega, t25.mrS mm (by simp), sh, by omega, fun b0 xs H' s' hs' hb0 hb1 xl => ?_⟩
    exact q _ _ ⟨b0, xs, rfl, (t25.draw (by simp) s' hs').add1 hb1 t25 hb0, hs'.le (by omega), src_draw hs2 n32 s', xl⟩
  · walk_at "rd"
    exact q _ _ ⟨hm, home, rfl, t25.dup iH, hs25.le (by omega), hs2, hl20⟩
  subst ex
  clear t25 hs25 d10 d11
  have ok0 : RsOk rs := fun r hr' => by
    obtain ⟨z1, z2, z3, z4⟩ := rok r hr'
    exact ⟨by omega, by omega, by omega⟩
  refine rd_sig (τ := [some (.ref a), some (.ref S1), some (.ref A.m), some (.ref B.b), some (.int g), some (.ref hm), some (.ref S2), some (.int mo), some (.ref pr), some (.ref ro), some (.int sg), some (.ref S3), some (.ref b0), none, none, none, none, none, none, none, none]) (by rfl) ?_
  walk_at "rd"
  refine ⟨S3, 50, .ref A.m, .ref ro, M, N, rs, rfl, hs26, by omega, t26.mrS mm (by simp), sh, by omega, m_Row _ _ _ _ (t26.rSx (List.mem_cons_of_mem _ iR) (by simp)) row, by omega, ok0, fun D H27 rs' s27 hs27 hrow' rl' ok' => ?_⟩
  have t27 := t26.draw (by simp) s27 hs27
  have hs2 := src_draw hs2 n32 s27
  clear t26 hs26 s27
  walk_at "rd"
  refine ⟨S3, 4, 250, rfl, hs27, by omega, by omega, by omega, fun d2 H28 d20 d21 s28 hs28 => ?_⟩
  have t28 := t27.draw (by simp) s28 hs28
  have hs2 := src_draw hs2 n32 s28
  have hrow' := m_Row _ _ _ _ (rm_self s28) hrow'
  clear t27 hs27 s28
  walk_at "rd"
  refine rd_ifH (Pm := fun x H' => ∃ e : Int, x = .int e ∧ (-10 ≤ e ∧ e ≤ 100) ∧ Same (rm [S3] H28) H' ∧ Src S3 H' 260) (fun c Q q => ?_) (fun c Q q => ?_) fun x H29 ⟨eye, ex, eb, s29, hs29⟩ => ?_
  · walk_at "rd"
    exact q _ _ ⟨g, rfl, by omega, rm_same _ _, hs28.le (by omega)⟩
  · walk_at "rd"
    refine ⟨S3, 3, 251, rfl, hs28, by omega, by omega, by omega, fun z Hz z0 z1 sz hsz => ?_⟩
    walk_at "rd"
    exact q _ _ ⟨0 - z, rfl, by omega, sz, hsz.le (by omega)⟩
  subst ex
  have t29 := t28.draw (by simp) s29 hs29
  have hs2 := src_draw hs2 n32 s29
  have hrow' := m_Row _ _ _ _ (rm_self s29) hrow'
  clear t28 hs28 s29 d20 d21
  refine rd_sig (τ := [some (.ref a), some (.ref S1), some (.ref A.m), some (.ref B.b), some (.int g), some (.ref hm), some (.ref S2), some (.int mo), some (.ref pr), some (.ref ro), some (.int sg), some (.ref S3), some (.ref b0), some (.ref D), some (.int eye), none, none, none, none, none, none]) (by rfl) ?_
  walk_at "rd"
  refine ⟨S3, 3, 260, rfl, hs29, by omega, by omega, by omega, fun d3 H30 d30 d31 s30 hs30 => ?_⟩
  have t30 := t29.draw (by simp) s30 hs30
  have hs2 := src_draw hs2 n32 s30
  have hrow' := m_Row _ _ _ _ (rm_self s30) hrow'
  clear t29 hs29 s30
  walk_at "rd"
  refine rd_ifH (Pm := fun x H' => ∃ hd : Sum Int (List Int), Hd (rm [S3] H') x hd ∧ HdOk hd ∧ (∀ ps, hd = .inr ps → ps.length ≤ 20) ∧ Same (rm [S3] H30) H' ∧ Src S3 H' 261) (fun c Q q => ?_) (fun c Q q => ?_) fun x H31 ⟨hd1, hh1, ok1, hl1, s31, hs31⟩ => ?_
  · walk_at "rd"
    refine rd_sl ?_
    walk_at "rd"
    refine ⟨1, rfl, ?_⟩
    refine rd_np ?_
    refine rd_slL (sl (t30.at1 (List.mem_cons_of_mem _ iP))) fun l hl' => ?_
    have e9 : cutV (iv (0 :: qs)) (some 1) none = iv qs := by rw [cut1]; simp
    rw [e9]
    have hlS := hs30.ne hl'
    exact q _ _ ⟨.inr qs, ⟨l, rfl, by rw [rm_at (by simpa using hlS)]; exact upd_same ..⟩, ⟨by omega, fun p hp => by have := k3 p hp; omega⟩, fun ps e => by cases e; omega, (rm_same _ _).trans (Same.new hl'), (hs30.mono (Same.new hl')).le (by omega)⟩
  · walk_at "rd"
    exact q _ _ ⟨.inl sg, rfl, ⟨by omega, by omega⟩, fun ps e => (by cases e), rm_same _ _, hs30.le (by omega)⟩
  have t31 := t30.draw (by simp) s31 hs31
  have hs2 := src_draw hs2 n32 s31
  have hrow' := m_Row _ _ _ _ (rm_self s31) hrow'
  clear t30 hs30 s31 d30 d31
  walk_at "rd"
  refine ⟨S3, 261, x, hd1, rfl, hs31, by omega, hh1, ok1, hl1, fun vw hdw H32 s32 hs32 hw okw => ?_⟩
  have t32 := t31.draw (by simp) s32 hs32
  have hs2 := src_draw hs2 n32 s32
  have hrow' := m_Row _ _ _ _ (rm_same _ _) (m_Row _ _ _ _ (rm_self s32) hrow')
  have hw := m_Hd _ _ _ _ (rm_same _ _) hw
  clear t31 hs31 s32 hs32 hh1 ok1 hl1
  walk_at "rd"
  refine ⟨.ref A.m, .ref b0, .ref D, vw, M, N, xs0, rs', eye, hdw, rfl, t32.mr mm, sh, ⟨b0, rfl, t32.at1 List.mem_cons_self⟩, by omega, hrow', by omega, fun r hr' => by have := (ok' r hr').1; omega, hw, fun vd H33 s33 hd33 => ?_⟩
  walk_at "rd"
  refine cut_given (m_Hd _ _ _ _ s33 hw) (fun k ek Q q => by walk_at "rd"; exact q) (fun a' ps ea hq Q q => by subst ea; walk_at "rd"; refine rd_listL (sl hq) fun l hl' => ?_; exact q l hl') fun vk H34 s34 hk34 => ?_
  have t34 := (t32.mono s33).mono s34
  have hs2 := (hs2.mono s33).mono s34
  have hw := m_Hd _ _ _ _ (s33.trans s34) hw
  have hrow' := m_Row _ _ _ _ (s33.trans s34) hrow'
  have hd34 := m_Du _ _ _ _ s34 hd33
  clear t32 s33 s34 hd33
  refine rd_sig (τ := [some (.ref a), some (.ref S1), some (.ref A.m), some (.ref B.b), some (.int g), some (.ref hm), some (.ref S2), some (.int mo), some (.ref pr), some (.ref ro), some (.int sg), some (.ref S3), some (.ref b0), some (.ref D), some (.int eye), some vw, some vd, some vk, none, none, none]) (by rfl) ?_
  walk_at "rd"
  refine ⟨B, M, N, .ref b0, .ref D, vw, xs0, rs', eye, hdw, rfl, br'.mono t34.b, gd, ⟨b0, rfl, t34.at1 List.mem_cons_self⟩, by omega, hrow', by omega, fun r hr' => by have := (ok' r hr').1; omega, hw, fun r hr' => by have := (ok' r hr').2.2; omega, prs_le okw, by omega, fun z => ends z, fun k n z => dueF_i z, fun vq H35 s35 hq35 => ?_⟩
  have t35 := t34.mono s35
  have hs2 := hs2.mono s35
  walk_at "rd"
  refine ⟨vq, vd, rfl, Eqv.du (k := 6) (fun xs e => by rw [due_h e]; omega) hq35 (m_Du _ _ _ _ s35 hd34), ?_⟩
  walk_at "rd"
  refine ⟨vw, vk, rfl, Eqv.hd (k := 7) okw (m_Hd _ _ _ _ s35 hw) (m_Hd _ _ _ _ s35 hk34), ?_⟩
  clear t34 hw hk34 hd34 s35 hq35 hrow'
  have iR := List.mem_cons_of_mem (sgl b0 (.tup (iv xs0))) iR
  have iH := List.mem_cons_of_mem (sgl b0 (.tup (iv xs0))) iH
  generalize sgl b0 (.tup (iv xs0)) :: Gs = Gs at *
  walk_at "rd"
  -- two plans asked with one price each
  refine rd_listL (sl (t35.r GR iR _ _ hra)) fun w2 hw2 => ?_
  have t36 := t35.mono (Same.new (o := .lst xr) hw2)
  have hs36 := hs2.mono (Same.new (o := .lst xr) hw2)
  have hw2a : (upd H35 w2 (.lst xr)) w2 = some (.lst xr) := upd_same ..
  generalize upd H35 w2 (.lst xr) = H36 at *
  clear t35 hs2 hw2
  walk_at "rd"
  refine ⟨rfl, rfl, mid1 (g := g) (k := 1) (br'.mono t36.b) gd ⟨hm, rfl, t36.at1 iH⟩ (by omega) (rowL (t36.r GR iR) hw2a) (by omega) rok' hv g1 g2 (by omega) (by omega) fun q3 H37 s37 p37 hq3 => ?_⟩
  have t37 := t36.mono s37
  have hs37 := hs36.mono s37
  clear t36 hs36 hw2a s37 hq3
  walk_at "rd"
  refine rd_listL (sl (t37.r GR iR _ _ hra)) fun w3 hw3 => ?_
  have s38 : Same H37 (upd H37 w3 (.lst xr)) := Same.new hw3
  have hw3a : (upd H37 w3 (.lst xr)) w3 = some (.lst xr) := upd_same ..
  generalize upd H37 w3 (.lst xr) = H38 at *
  have t38 := t37.mono s38
  have hs38 := hs37.mono s38
  have p38 := m_Plan _ _ _ _ s38 p37
  clear t37 hs37 p37 s38 hw3
  walk_at "rd"
  refine ⟨rfl, rfl, mid1 (g := 1) (k := sg) (br'.mono t38.b) gd ⟨hm, rfl, t38.at1 iH⟩ (by omega) (rowL (t38.r GR iR) hw3a) (by omega) rok' hv (by omega) (by omega) (by omega) (by omega) fun q4 H39 s39 p39 hq4 => ?_⟩
  have t39 := t38.mono s39
  have hs39 := hs38.mono s39
  have p39' := m_Plan _ _ _ _ s39 p38
  clear t38 hs38 p38 s39 hq4 hw3a
  walk_at "rd"
  refine ⟨ll (by simp), fun tl htl => ?_⟩
  have s40 : Same H39 (upd H39 tl (.lst [.ref q3, .ref q4])) := Same.new htl
  have htla : (upd H39 tl (.lst [.ref q3, .ref q4])) tl = some (.lst [.ref q3, .ref q4]) := upd_same ..
  generalize upd H39 tl (.lst [.ref q3, .ref q4]) = H40 at *
  have t40 := t39.mono s40
  have hs40 := hs39.mono s40
  have p3 := m_Plan _ _ _ _ s40 p39'
  have p4 := m_Plan _ _ _ _ s40 p39
  clear t39 hs39 p39 p39' s40 htl
  refine rd_sig (τ := [some (.ref a), some (.ref S1), some (.ref A.m), some (.ref B.b), some (.int g), some (.ref hm), some (.ref S2), some (.int mo), some (.ref pr), some (.ref ro), some (.int sg), some (.ref S3), some (.ref b0), some (.ref D), some (.int eye), some vw, some vd, some vk, some (.ref tl), none, none]) (by rfl) ?_
  walk_at "rd"
  refine rd_div (by omega) (by omega) ?_
  walk_at "rd"
  have dg0 : 0 ≤ 2 / g := Int.ediv_nonneg (by omega) (by omega)
  have dg1 : 2 / g ≤ 2 := Int.ediv_le_self _ (by omega)
  refine rd_mul (by omega) (by omega) ?_
  walk_at "rd"
  refine ⟨.ref A.m, .ref hm, .ref ro, M, N, home, rs, 2 * (2 / g) + 1, rfl, t40.mr mm, sh, ⟨hm, rfl, t40.at1 iH⟩, hrow (t40.r GR iR), by omega, rc50, by omega, fun q5 H41 s41 p41 hq5 => ?_⟩
  have t41 := t40.mono s41
  have hs41 := hs40.mono s41
  have htla := s41 _ _ htla
  have p3 := m_Plan _ _ _ _ s41 p3
  have p4 := m_Plan _ _ _ _ s41 p4
  clear t40 hs40 s41 hq5
  walk_at "rd"
  refine rd_mul (by omega) (by omega) ?_
  walk_at "rd"
  refine ⟨.ref A.m, .ref hm, .ref ro, M, N, home, rs, 4 * sg + 1, rfl, t41.mr mm, sh, ⟨hm, rfl, t41.at1 iH⟩, hrow (t41.r GR iR), by omega, rc50, by omega, fun q6 H42 s42 p42 hq6 => ?_⟩
  have t42 := t41.mono s42
  have hs42 := hs41.mono s42
  have htla := s42 _ _ htla
  have p3 := m_Plan _ _ _ _ s42 p3
  have p4 := m_Plan _ _ _ _ s42 p4
  have p5 := m_Plan _ _ _ _ s42 p41
  clear t41 hs41 s42 hq6 p41
  walk_at "rd"
  refine ⟨ll (by simp), fun tm htm => ?_⟩
  have s43 : Same H42 (upd H42 tm (.lst [.ref q5, .ref q6])) := Same.new htm
  have htma : (upd H42 tm (.lst [.ref q5, .ref q6])) tm = some (.lst [.ref q5, .ref q6]) := upd_same ..
  generalize upd H42 tm (.lst [.ref q5, .ref q6]) = H43 at *
  have t43 := t42.mono s43
  have hs43 := hs42.mono s43
  have htla := s43 _ _ htla
  have p3 := m_Plan _ _ _ _ s43 p3
  have p4 := m_Plan _ _ _ _ s43 p4
  have p5 := m_Plan _ _ _ _ s43 p5
  have p6 := m_Plan _ _ _ _ s43 p42
  clear t42 hs42 s43 htm p42
  rw [show 2 * (2 * 1 / g) + 1 = 2 * (2 / g) + 1 from rfl] at p3
  rw [show 2 * (2 * sg / 1) + 1 = 4 * sg + 1 by omega] at p4
  walk_at "rd"
  refine ⟨.ref tl, .ref tm, rfl, Eqv.lst (k := 7) htla htma rfl (by simp) (fun i x y hx hy => ?_), ?_⟩
  · match i with
    | 0 =>
      simp at hx hy; subst hx hy
      exact alike_plan (k := 5) hN (by omega) p3 p5
    | 1 =>
      simp at hx hy; subst hx hy
      exact alike_plan (k := 5) hN (by omega) p4 p6
    | i + 2 => simp at hx
  clear p3 p4 p5 p6 htla htma dg0 dg1
  walk_at "rd"
  -- one more patch
  refine ⟨S2, 1 + N + 1, A, bA, M, N, rfl, hs43, by omega, t43.mmS mm (by simp), gd, by omega, fun H44 bN M' s44 hs44 hbN kk gp => ?_⟩
  obtain ⟨gB, gR, GM', gm, gmB, mm'⟩ := t43.grow (S := S2) (by simp) mm s44 kk
  have gd' := gp.good gd (by omega)
  have od := gp.old gd
  have br44 : BR K H44 B M' N := (br'.grown od gd).mono gB
  have rR := gR _ iR
  have rH := gR _ iH
  have ma := (mm'.mono gm).mra
  obtain ⟨x1', h1', f1'⟩ := ma.h1.at_
  obtain ⟨x3', h3', f3'⟩ := ma.h3.at_
  obtain ⟨x5', h5', f5'⟩ := ma.h5.at_
  obtain ⟨x6', h6', f6'⟩ := ma.h6.at_
  have l1' : (x1'.length : Int) - 1 = N + 1 := by rw [f1'.length, gd'.lwr]; omega
  clear t43 hs43 s44 hs44 hbN kk gB
  walk_at "rd"
  refine rd_iL (v := .ref A.a1) (sl ma.m) (by rfl) ?_
  walk_at "rd"
  refine rd_lenL (sl h1') ?_
  walk_at "rd"
  rw [l1']
  have hN14 : N + 1 ≤ 15 := by omega
  obtain ⟨vw', ew, hw1⟩ := f1'.getR (getD_at (d := []) (i := ((N : Int) + 1).toNat) (by rw [gd'.lwr]; omega))
  obtain ⟨vn', en, hn1⟩ := f3'.getR (getD_at (d := []) (i := ((N : Int) + 1).toNat) (by rw [gd'.lnd]; omega))
  obtain ⟨vd', ed, hd1'⟩ := f5'.getR (getD_at (d := []) (i := ((N : Int) + 1).toNat) (by rw [gd'.ldm]; omega))
  obtain ⟨vq', eq', hq1⟩ := f6'.getR (getD_at (d := []) (i := ((N : Int) + 1).toNat) (by rw [gd'.lqu]; omega))
  obtain ⟨aw, xw, rfl, hw1, fw1⟩ := hw1
  obtain ⟨an, rfl, hn1⟩ := hn1
  obtain ⟨ad, rfl, hd1'⟩ := hd1'
  obtain ⟨aq, rfl, hq1⟩ := hq1
  have ez : M'.sz[((N : Int) + 1).toNat]? = some (szA M' ((N : Int) + 1)) := getD_at (by rw [gd'.lsz]; omega)
  have zz := gd'.sz _ (List.mem_of_getElem? ez)
  walk_at "rd"
  refine rd_methK ?_
  walk_at "rd"
  refine ⟨_, _, _, rfl, br44.b, rfl, ?_⟩
  walk_at "rd"
  refine rd_iL (v := .ref A.a1) (sl ma.m) (by rfl) ?_
  walk_at "rd"
  refine rd_iL (sl h1') (atI_nn (by omega) ew) ?_
  walk_at "rd"
  refine rd_listL (sl hw1) fun l4 hl4 => ?_
  have s45 : Same H44 (upd H44 l4 (.lst xw)) := Same.new hl4
  have h4a : (upd H44 l4 (.lst xw)) l4 = some (.lst xw) := upd_same ..
  generalize upd H44 l4 (.lst xw) = H45 at *
  walk_at "rd"
  refine rd_iL (v := .ref A.a5) (sl (s45 _ _ ma.m)) (by rfl) ?_
  walk_at "rd"
  refine rd_iL (sl (s45 _ _ h5')) (atI_nn (by omega) ed) ?_
  walk_at "rd"
  refine rd_tupL (sl (s45 _ _ hd1')) fun l5 hl5 => ?_
  have s46 : Same H45 (upd H45 l5 (.tup (iv (dmA M' ((N : Int) + 1))))) := Same.new hl5
  have h5a : (upd H45 l5 (.tup (iv (dmA M' ((N : Int) + 1))))) l5 = some (.tup (iv (dmA M' ((N : Int) + 1)))) := upd_same ..
  show tCons _ _ _ (upd H45 l5 (.tup (iv (dmA M' ((N : Int) + 1))))) _
  generalize upd H45 l5 (.tup (iv (dmA M' ((N : Int) + 1)))) = H46 at *
  have c46 := s45.trans s46
  walk_at "rd"
  refine rd_iL (v := .ref A.a6) (sl (c46 _ _ ma.m)) (by rfl) ?_
  walk_at "rd"
  refine rd_iL (sl (c46 _ _ h6')) (atI_nn (by omega) eq') ?_
  walk_at "rd"
  refine rd_tupL (sl (c46 _ _ hq1)) fun l6 hl6 => ?_
  have s47 : Same H46 (upd H46 l6 (.tup (iv (quA M' ((N : Int) + 1))))) := Same.new hl6
  have h6a : (upd H46 l6 (.tup (iv (quA M' ((N : Int) + 1))))) l6 = some (.tup (iv (quA M' ((N : Int) + 1)))) := upd_same ..
  show tCons _ _ _ (upd H46 l6 (.tup (iv (quA M' ((N : Int) + 1))))) _
  generalize upd H46 l6 (.tup (iv (quA M' ((N : Int) + 1)))) = H47 at *
  have c47 := c46.trans s47
  walk_at "rd"
  refine rd_iL (v := .ref A.a2) (sl (c47 _ _ ma.m)) (by rfl) ?_
  walk_at "rd"
  refine rd_iL (sl (c47 _ _ ma.h2.at_)) (atI_nn (by omega) (by rw [List.getElem?_map, ez]; rfl)) ?_
  walk_at "rd"
  have c57 := s46.trans s47
  refine ⟨rfl, rfl, B, M', N + 1, N, l4, .ref l5, .ref l6, szA M' ((N : Int) + 1), rfl, br44.mono c47, gd', by omega, ⟨l4, xw, rfl, c57 _ _ h4a, fw1.imp fun _ _ _ q => m_Pr _ _ _ _ c47 q⟩, ⟨l5, rfl, s47 _ _ h5a⟩, ⟨l6, rfl, h6a⟩, zz.1, fun H48 s48 br48 => ?_⟩
  have keep : ∀ {G : Hp}, Same G H44 → (∀ x ∈ bmt B, G x = none) → Same G H48 := fun {G} g g0 => (rm_of (g.trans c47) g0).trans s48
  have gm48 := keep gm gmB
  have rR48 := keep rR.1 rR.2
  have rH48 : H48 hm = some (.tup (iv home)) := keep rH.1 rH.2 _ _ sgl_at
  clear br44 gm rR rH ma h1' f1' h3' f3' h5' f5' h6' f6' ew en ed eq' hw1 fw1 hn1 hd1' hq1 s45 h4a s46 h5a c46 s47 h6a c47 c57 s48 keep hl4 hl5 hl6
  have ma := (mm'.mono gm48).mra
  obtain ⟨x3', h3', f3'⟩ := ma.h3.at_
  obtain ⟨vn', en, hn1⟩ := f3'.getR (getD_at (d := []) (i := ((N : Int) + 1).toNat) (by rw [gd'.lnd]; omega))
  obtain ⟨an, rfl, hn1⟩ := hn1
  have hn1 : H48 an = some (.lst (iv (ndA M' ((N : Int) + 1)))) := hn1
  have nln : (ndA M' ((N : Int) + 1)).length ≤ 20 := gd'.nl _ (List.mem_of_getElem? (getD_at (d := []) (i := ((N : Int) + 1).toNat) (by rw [gd'.lnd]; omega)))
  walk_at "rd"
  refine rd_iL (v := .ref A.a3) (sl ma.m) (by rfl) ?_
  walk_at "rd"
  refine rd_iL (sl h3') (atI_nn (by omega) en) ?_
  walk_at "rd"
  refine ⟨ll (by simp), fun k1' hk1 => ?_⟩
  have s49 : Same H48 (upd H48 k1' (.lst [.int ((N : Int) + 1)])) := Same.new hk1
  have k1a : (upd H48 k1' (.lst [.int ((N : Int) + 1)])) k1' = some (.lst (iv [(N : Int) + 1])) := upd_same ..
  generalize upd H48 k1' (.lst [.int ((N : Int) + 1)]) = H49 at *
  walk_at "rd"
  refine rd_catL (s49 _ _ hn1) k1a (by simp; omega) fun k2' hk2 => ?_
  have enw : iv (ndA M' ((N : Int) + 1)) ++ iv [(N : Int) + 1] = iv (ndA M' ((N : Int) + 1) ++ [(N : Int) + 1]) := by simp
  rw [enw]
  have s50 : Same H49 (upd H49 k2' (.lst (iv (ndA M' ((N : Int) + 1) ++ [(N : Int) + 1])))) := Same.new hk2
  have k2a : (upd H49 k2' (.lst (iv (ndA M' ((N : Int) + 1) ++ [(N : Int) + 1])))) k2' = some (.lst (iv (ndA M' ((N : Int) + 1) ++ [(N : Int) + 1]))) := upd_same ..
  generalize upd H49 k2' (.lst (iv (ndA M' ((N : Int) + 1) ++ [(N : Int) + 1]))) = H50 at *
  walk_at "rd"
  refine rd_tupL (sl k2a) fun k3' hk3 => ?_
  have s51 : Same H50 (upd H50 k3' (.tup (iv (ndA M' ((N : Int) + 1) ++ [(N : Int) + 1])))) := Same.new hk3
  have k3a : (upd H50 k3' (.tup (iv (ndA M' ((N : Int) + 1) ++ [(N : Int) + 1])))) k3' = some (.tup (iv (ndA M' ((N : Int) + 1) ++ [(N : Int) + 1]))) := upd_same ..
  show tCons _ _ _ (upd H50 k3' (.tup (iv (ndA M' ((N : Int) + 1) ++ [(N : Int) + 1])))) _
  generalize upd H50 k3' (.tup (iv (ndA M' ((N : Int) + 1) ++ [(N : Int) + 1]))) = H51 at *
  walk_at "rd"
  refine ⟨ll (by simp), fun k4' hk4 => ?_⟩
  have s52 : Same H51 (upd H51 k4' (.tup [.ref k3', .int 2])) := Same.new hk4
  have k4a : (upd H51 k4' (.tup [.ref k3', .int 2])) k4' = some (.tup [.ref k3', .int 2]) := upd_same ..
  generalize upd H51 k4' (.tup [.ref k3', .int 2]) = H52 at *
  walk_at "rd"
  refine ⟨ll (by simp), fun k5' hk5 => ?_⟩
  have s53 : Same H52 (upd H52 k5' (.lst [.ref k4'])) := Same.new hk5
  have k5a : (upd H52 k5' (.lst [.ref k4'])) k5' = some (.lst [.ref k4']) := upd_same ..
  generalize upd H52 k5' (.lst [.ref k4']) = H53 at *
  have c53 := (((s49.trans s50).trans s51).trans s52).trans s53
  have xrl : xr.length = rs.length := fr.length
  walk_at "rd"
  refine rd_catL (c53 _ _ (rR48 _ _ hra)) k5a (by simp; omega) fun ro' hro' => ?_
  have s54 : Same H53 (upd H53 ro' (.lst (xr ++ [.ref k4']))) := Same.new hro'
  have roa : (upd H53 ro' (.lst (xr ++ [.ref k4']))) ro' = some (.lst (xr ++ [.ref k4'])) := upd_same ..
  generalize upd H53 ro' (.lst (xr ++ [.ref k4'])) = H54 at *
  walk_at "rd"
  refine ⟨ll (by simp), fun l7 hl7 => ?_⟩
  have s55 : Same H54 (upd H54 l7 (.lst [V.int sg])) := Same.new hl7
  have l7a : (upd H54 l7 (.lst [V.int sg])) l7 = some (.lst [V.int sg]) := upd_same ..
  generalize upd H54 l7 (.lst [V.int sg]) = H55 at *
  walk_at "rd"
  refine rd_repL l7a (by omega) (by simp; omega) (by omega) fun p5 hp5 => ?_
  have erp' : (List.replicate ((N : Int) + 1 + 1).toNat [V.int sg]).flatten = iv (List.replicate (N + 1 + 1) sg) := by
    have : ((N : Int) + 1 + 1).toNat = N + 1 + 1 := by omega
    rw [this]
    simp
  rw [erp']
  have s56 : Same H55 (upd H55 p5 (.lst (iv (List.replicate (N + 1 + 1) sg)))) := Same.new hp5
  have p5a : (upd H55 p5 (.lst (iv (List.replicate (N + 1 + 1) sg)))) p5 = some (.lst (iv (List.replicate (N + 1 + 1) sg))) := upd_same ..
  generalize upd H55 p5 (.lst (iv (List.replicate (N + 1 + 1) sg))) = H56 at *
  have c56 := ((c53.trans s54).trans s55).trans s56
  have d56 := ((s52.trans s53).trans s54).trans (s55.trans s56)
  have e56 := (s53.trans s54).trans (s55.trans s56)
  have f56 := s55.trans s56
  walk_at "rd"
  have rowN : Row H56 (.ref ro') (rs ++ [(ndA M' ((N : Int) + 1) ++ [(N : Int) + 1], 2)]) :=
    ⟨ro', _, rfl, f56 _ _ roa, F2.snoc (fr.imp fun _ _ _ q => m_Rq _ _ _ _ (rR48.trans c56) q) ⟨k4', k3', rfl, e56 _ _ k4a, d56 _ _ k3a⟩⟩
  refine ⟨B, M', N + 1, .ref A.m, .ref hm, .ref ro', .int sg, home, rs ++ [(ndA M' ((N : Int) + 1) ++ [(N : Int) + 1], 2)], g, p5, List.replicate (N + 1 + 1) sg, .inl sg, rfl, ⟨A, rfl, ma.mono c56⟩, br48.mono c56, gd', ⟨hm, rfl, c56 _ _ rH48⟩, isV_grown hv od gd gd', by omega, rowN, by simp; omega, fun r hr' => ?_, g1, g2, p5a, hdOne sg1 sg2, ?_, ?_, rfl, fun H57 _ => h H57⟩
  · rcases List.mem_append.mp hr' with z | z
    · obtain ⟨z1, z2, z3, z4⟩ := rok' r z
      exact ⟨isV_grown z1 od gd gd', z2, z3, z4⟩
    · rw [List.mem_singleton.mp z]
      exact ⟨isV_new gd' (by omega) (by omega), by show (1 : Int) ≤ 2; omega, by show (2 : Int) ≤ 2 ^ 41; omega, by simp; omega⟩
  · show sg ≤ 2 ^ 40; exact sg2
  · show 0 ≤ sg; omega
end
end LK
set_option maxHeartbeats 0
/-! The end: the law over the head's facts. -/
namespace LK
open PySem PySem.Spec PyProof.Rows L2
/-- an end by facts where the exceptions' context is the world's own -/
theorem endW {l : PySem.W.OpenLaw} {n k : Nat} {q : Program} {loose : List Str} {XP : (Str → Option Value) → Heap → Prop} {YP : World → Heap → Prop} {d : DefRec} {C : World → CXT} {x : Str} (h1 : l.most = some n) (h2 : n ≤ sizeLine) (h3 : d.params.defaults = []) (h4 : Room k callerA)
    (h5 : ∀ (w : World) (mg : Str → Option Value) (g : Addr) (h : Heap), YP w h → h.Ns mainGlobals mg → mg d.name = some (.ref g) → ∃ (K : PySem.W.Frag) (fd : FuncData) (sp : Sp), K.In h ∧ (∀ (s : Shared) (u : Value), BindsTo s fd ⟨[u], []⟩ [(x, u)]) ∧
        (∀ (H : Hp) (a : Addr) (ns : List Int), ns.length ≤ n → SqL K H a (iv ns) → sp [.ref a] H (fun v _ => v = .bl true) fun _ _ _ => False) ∧ ∀ base : Heap, K.In base → base.Ns mainGlobals mg → FnOk l.prog w K mg base (C w) k g fd [x] sp)
    (h6 : ∀ (w : World) (H : Hp) (s : Shared) (e : Value) (s' : Shared), C w [] H s (fun _ _ _ => False) e s' → False) : PySem.W.WalkO q loose XP YP l.row.toRowW d [] (fun f vs => PySem.call f vs) :=
  Att.attach_call h1 h3 fun w _ s₁ mg _ g _ _ _ _ a _ ns G Y _ _ _ hm ho hi hl hg => (h5 w mg g _ Y G.T.g hm).elim fun _ z => z.elim fun _ z => z.elim fun _ z =>
    law_call z.1 G.T.g G.T.b G.T.builtins G.T.nolimit hg ho hi (Nat.le_trans hl h2) h4 z.2.2.2 z.2.1 (fun H _ hS => z.2.2.1 H a ns hl hS) fun H e s' => h6 w H s₁ e s'
theorem facts {w : World} {mg : Str → Option Value} {g : Addr} {h : Heap} (Y : hkL.says w h) (G : h.Ns mainGlobals mg) (hm : mg ("law" : Str) = some (.ref g)) :
    ∃ (K : PySem.W.Frag) (fd : FuncData) (sp : Sp), K.In h ∧ (∀ (s : Shared) (u : Value), BindsTo s fd ⟨[u], []⟩ [("_law_script", u)]) ∧
        (∀ (H : Hp) (a : Addr) (ns : List Int), ns.length ≤ 63 → SqL K H a (iv ns) → sp [.ref a] H (fun v _ => v = .bl true) fun _ _ _ => False) ∧ ∀ base : Heap, K.In base → base.Ns mainGlobals mg → FnOk PySem.Challenge.pw_livecopy_k40_whole_middle w K mg base (L2.CX PySem.Challenge.pw_livecopy_k40_whole_middle w) 11 g fd ["_law_script"] sp := by
  obtain ⟨K, KX, c⟩ := Y
  have T := txt_of KX G c
  obtain ⟨f, fd, F, hf⟩ := T.d_law.ex
  rw [hf] at hm
  cases hm
  have b := FunD.bindsA (ps := ["_law_script"]) F fun _ _ _ _ _ _ us hl => match us, hl with | [_], _ => rfl
  exact ⟨K, fd, spLaw K, KX, fun s u => b s [u] rfl, fun H a ns hl hS => ⟨a, ns, rfl, hS, hl, fun _ => rfl⟩, fun base _ _ => ok_law T F⟩
end LK
open PySem PySem.W PySem.Calls PyProof.Rows
theorem PySem.Challenge.cw_livecopy_k40_whole_middle_holds : PySem.Challenge.rw_livecopy_k40_whole_middle.Holds := by
  w_on; o_law
  refine HandSHeadRun.head_imp (r := LK.RL) (q := view LK.RL.prog [0, 67]) (H := LK.hkL) (ob := LK.obL) (M := 20000) (loose := LK.names) (d := HandSHeadRun.topDef LK.RL.prog 67) (kwd := []) LK.obL_eq LK.runL
    (by kernel_rfl) (by kernel_rfl) (by kernel_rfl) (by rfl) (by first | assumption | decide +kernel) (by decide +kernel) ⟨rfl, rfl, rfl, rfl, rfl, by decide +kernel⟩ ?hw ?hc
  case hw => w_witness2
  case hc =>
    refine LK.endW (l := PySem.Challenge.rw_livecopy_k40_whole_middle) (n := 63) (k := 11) (x := "_law_script") (C := fun w => L2.CX PySem.Challenge.pw_livecopy_k40_whole_middle w) rfl (by rw [LK.line]; omega) (by kernel_rfl) ⟨rfl, by decide, by decide⟩ (fun w mg g h Y G hm => ?_) (fun w H s e s' z => ?_)
    · have e : (HandSHeadRun.topDef LK.RL.prog 67).name = ("law" : PySem.Str) := by kernel_rfl
      rw [e] at hm
      exact LK.facts Y G hm
    · obtain ⟨_, _, _, _, _, _, _, _, _, _, _, _, z⟩ := z
      exact z.elim
