import PyProof.Rows.All
import Wide.All
import OpenK.AllK
import Wide.FinOn
import HandS.ForMost
import HandS.ForExc
import HandS.TupAny
import HandS.Deep
import HandS.IsInst
import HandS.ExcIs
import HandS.SortInts
import HandS.SetFor
import HandS.Lambda
import HandS.EndTab
import HandS.HeadHook4
import HandS.HeadWalk
import HandS.Head2
import HandS.Wide
import HandS.TryMany
import HandS.SuiteRaise
import HandS.TryOnly
import HandS.TupLe
import HandS.Zip
import HandS.Walk
import HandS.TupSets
import PySem.Challenge.RW_asklock_k15_whole_long_days
set_option Elab.async false
set_option linter.all false
set_option maxRecDepth 100000
set_option maxHeartbeats 4000000
namespace AL
open PySem PySem.Spec PyProof.Rows L2

theorem small2000 {n : Nat} (h : n ≤ 2000) : n < sizeLine := Nat.lt_of_le_of_lt h (by decide)
/-- a def of the text keeps its promise -/
structure OkF (P : Program) (w : World) (K : PySem.W.Frag) (mg : Str → Option Value) (base : Heap) (k : Nat) (f : Addr) (ps : List Str) (sp : Sp) : Prop where
  ex : ∃ fd, FnOk P w K mg base (L2.CX P w) k f fd ps sp ∧ Binds K fd ps []
  kp : PySem.W.keepIn K (.ref f) = true

/-- what the text says of a def that stands at f -/
def DefAt (K : PySem.W.Frag) (x qual : Str) (st : Stmt) (f : Addr) : Prop := ∃ fd, FunD K x qual (defArgs st) (defBody st) (defScope st) [] [] f fd

/-- an exception that leaves a callee leaves this def -/
theorem pE {P : Program} {w : World} {K : PySem.W.Frag} {mg : Str → Option Value} {base : Heap} {N : List Str} {qual : Str} {scope : Scope} {f : Addr} {cdv : Value} {A : Around} {outer : List Env} {s : Shared} {H : Hp} {E : XK} :
    Passes (L2.CX P w) (cxOf (L2.CX P w) P w K mg base N qual scope f cdv A outer s H E) E :=
  passes_call (takes_of rfl rfl rfl rfl) fun _ _ _ _ h => h
theorem pOwn {P : Program} {w : World} {K : PySem.W.Frag} {mg : Str → Option Value} {base : Heap} {N : List Str} {qual : Str} {scope : Scope} {f : Addr} {cdv : Value} {A : Around} {outer : List Env} {s : Shared} {H : Hp} {E : XK} :
    PassesOwn (model P w) (cxOf (L2.CX P w) P w K mg base N qual scope f cdv A outer s H E).A (cxOf (L2.CX P w) P w K mg base N qual scope f cdv A outer s H E).env (cxOf (L2.CX P w) P w K mg base N qual scope f cdv A outer s H E).xe :=
  passes_of rfl

/-- from the text: a def's promise -/
theorem okF {P : Program} {w : World} {K : PySem.W.Frag} {mg : Str → Option Value} {base : Heap} {x qual : Str} {st : Stmt} {f : Addr} {N ps : List Str} {k : Nat} {sp : Sp} (F : DefAt K x qual st f) (S : FnScope N ps (defScope st))
    (hbi : ∀ (kV doc pm : Value) (an : Option Addr) (cdv ct : Value) (us : List Value), us.length = ps.length → bindArgs (PySem.W.fnOf x qual (defArgs st) (defBody st) (defScope st) .none kV doc pm an cdv ct) ⟨us, []⟩ = pure (ps.zip us))
    (len : ∀ vs H Q E, sp vs H Q E → vs.length = ps.length)
    (hbody : ∀ (cdv : Value) (A : Around) (outer : List Env) (s : Shared) (H : Hp) (vs : List V) (Q : VK) (E : XK), Room k (A.deeper (envOfC qual (defScope st) s.heap.objs.size f cdv)) → sp vs H Q E →
      ∃ t, PSs (cxOf (L2.CX P w) P w K mg base N qual (defScope st) f cdv A outer s H E) (defBody st) t ∧ t { nx := fun _ H' => Q .non H', rt := Q } (start N vs) H) : OkF P w K mg base (k + 1) f ps sp := by
  obtain ⟨fd, F⟩ := F
  exact ⟨⟨fd, F.ok S len hbody, F.bindsN hbi⟩, F.kp⟩

/-- an own exception class over ValueError, without a method of its own -/
structure ExT (K : PySem.W.Frag) (mg : Str → Option Value) (x : Str) : Prop where
  g : mg x = some (.ref (He.ga K x))
  ex : PySem.W.excIn K (He.ga K x) He.veBase "ValueError.__new__" = true
  k : PySem.W.keepIn K (.ref (He.ga K x)) = true
  b : PySem.W.subIn K (.ref (He.ga K x)) (.type "BaseException") = some true
  t : PySem.W.typeIn K (.ref (He.ga K x)) = some (.type "type")

/-! ### the layer's rules, the written part named -/
section
variable {X : Cx} {K : PySem.W.Frag}
theorem k_fld {e : Expr} {f : Str} {pos : Pos} {ta : TE} (hK : X.K = K) (he : PE X e ta) (hb : attributeBase e f X.env (eval e X.env) = eval e X.env) : PE X (.Attribute e f pos) (tFld K ta f) := hK ▸ pe_fld he hb
theorem kp_fld {o value : Expr} {f : Str} {pos pos' : Pos} {ta tv : TE} (hK : X.K = K) (ha : PE X o ta) (hv : PE X value tv) (hs : swapsWith value (some (.Attribute o f pos')) pos.line X.env = pure false) : PS X (.Assign [.Attribute o f pos'] value pos) (sFld K ta tv f) := hK ▸ ps_fld ha hv hs
theorem k_ixl (hK : X.K = K) : IxR X (rIxL K) := hK ▸ ix_list
theorem k_ixt (hK : X.K = K) : IxR X (rIxT K) := hK ▸ ix_tup
def rLenQ (K : PySem.W.Frag) : List V → Hp → VK → Prop := fun xs H Q => ∃ p ys, xs = [.ref p] ∧ (SqL K H p ys ∨ SqT K H p ys) ∧ Q (.int ys.length) H
theorem k_len (hK : X.K = K) : CallR X (.builtin "len") (rLenQ K) := hK ▸ call_len_seq
theorem k_eqD (hK : X.K = K) (hu : X.A.units + 64 < cLine) : OpR X (compareOp .Eq) (rEqD K) := hK ▸ op_eqD hu
theorem k_neD (hK : X.K = K) (hu : X.A.units + 64 < cLine) : OpR X (compareOp .NotEq) (rNeD K) := hK ▸ op_neD hu
theorem k_inS (hK : X.K = K) : OpR X (compareOp .In) (rIn K false) := hK ▸ op_in_seq
theorem k_notInS (hK : X.K = K) : OpR X (compareOp .NotIn) (rIn K true) := hK ▸ op_notIn_seq
theorem k_inD (hK : X.K = K) (hu : X.A.units + 65 < cLine) : OpR X (compareOp .In) (rInD K) := hK ▸ op_inD hu
theorem k_notInD (hK : X.K = K) (hu : X.A.units + 65 < cLine) : OpR X (compareOp .NotIn) (rNotInD K) := hK ▸ op_notInD hu
theorem k_catA (hK : X.K = K) : OpR X (binaryOp .Add) (rCatA K) := hK ▸ op_catA
theorem k_slL (hK : X.K = K) : SlR X (rSlL K) := hK ▸ sl_list
theorem k_slT (hK : X.K = K) : SlR X (rSlA K) := hK ▸ sl_tupA
def rListQ (K : PySem.W.Frag) : List V → Hp → VK → Prop := fun xs H Q => ∃ p ys, xs = [.ref p] ∧ (SqL K H p ys ∨ SqT K H p ys) ∧ ∀ l, H l = none → Q (.ref l) (upd H l (.lst ys))
theorem k_listOf (hK : X.K = K) : CallR X (.type "list") (rListQ K) := hK ▸ call_list_of
def rTupQ (K : PySem.W.Frag) : List V → Hp → VK → Prop := fun xs H Q => ∃ p ys, xs = [.ref p] ∧ ((SqL K H p ys ∧ ∀ l, H l = none → Q (.ref l) (upd H l (.tup ys))) ∨ (SqT K H p ys ∧ Q (.ref p) H))
theorem k_tupOf (hK : X.K = K) : CallR X (.type "tuple") (rTupQ K) := hK ▸ call_tuple_of
theorem k_isi (hK : X.K = K) : CallR X (.builtin "isinstance") (rIsi K) := hK ▸ call_isi
theorem k_isiT (hK : X.K = K) : CallR X (.builtin "isinstance") (rIsiT K) := hK ▸ call_isiT
theorem k_sortedI (hK : X.K = K) : CallR X (.builtin "sorted") (rSortedI K) := hK ▸ cr_sortedI
theorem k_max (hK : X.K = K) (hc : X.calm = true) : CallR X (.builtin "max") (rMax K) := hK ▸ cr_max hc
theorem k_sum (hK : X.K = K) (hc : X.calm = true) : CallR X (.builtin "sum") (rSum K) := hK ▸ cr_sum hc
theorem k_listI {tg l : Expr} {tl : TE} (hK : X.K = K) (hl : PE X l tl) : PI X tg l (iList K tl) := hK ▸ pi_list hl
theorem k_tupI {tg l : Expr} {tl : TE} (hK : X.K = K) (hl : PE X l tl) : PI X tg l (iTup K tl) := hK ▸ pi_tup hl
theorem k_bm {o e : Expr} {es : List Expr} {to : TE} {t : TA} {name : Str} {apos cpos : Pos} {T id : String} {r : V → List V → Hp → VK → Prop} (hK : X.K = K) (pa : PlainAttrs T) (slot : Slot T name id) (hty : typeOf (.builtin id) = pure (.type "method_descriptor")) (hm : MtR X id r) (ho : PE X o to) (ha : PA X (e :: es) t)
    (h : PE X (.Call (.Attribute o name apos) (e :: es) [] cpos) (tBM X.K T r to t)) : PE X (.Call (.Attribute o name apos) (e :: es) [] cpos) (tBM K T r to t) := hK ▸ h
end
theorem r_lenX {K : PySem.W.Frag} {H : Hp} {Q : VK} {xs : List V} (h : ∃ p ys, xs = [.ref p] ∧ (SqL K H p ys ∨ SqT K H p ys) ∧ Q (.int ys.length) H) : rLenQ K xs H Q := h
theorem r_lenS {K : PySem.W.Frag} {H : Hp} {Q : VK} {a : Addr} {xs : List V} (h : H a = some (.lst xs)) (q : Q (.int (xs.length : Int)) H) : rLenQ K [.ref a] H Q := ⟨a, xs, rfl, .inl (SqL.of h), q⟩
theorem r_lenT {K : PySem.W.Frag} {H : Hp} {Q : VK} {a : Addr} {xs : List V} (h : H a = some (.tup xs)) (q : Q (.int (xs.length : Int)) H) : rLenQ K [.ref a] H Q := ⟨a, xs, rfl, .inr (SqT.of h), q⟩
/-! ### readings -/
/-- a reading's next step -/
class Stp (P : Prop) (Q : outParam Prop) : Prop where
  go : Q → P
theorem stp {P Q : Prop} [i : Stp P Q] (h : Q) : P := i.go h
section
variable {K : PySem.W.Frag} {σ : L2.St} {H : Hp} {Q : VK} {D : Ends} {v x y : V} {ta tb te : TE} {t u : TS} {QB : Bool → Hp → Prop} {tc td : TT} {QA : List V → Hp → Prop}
theorem r_st {σ' : L2.St} (e : σ = σ') (h : t D σ' H) : t D σ H := e ▸ h
theorem r_seq (h : t { D with nx := u D } σ H) : tSeq t u D σ H := h
instance i_seq  : Stp (tSeq t u D σ H) (t { D with nx := u D } σ H) := ⟨r_seq⟩
theorem r_set {i : Nat} (h : te σ H fun v H1 => D.nx (σ.set i (some v)) H1) : tAsg te (gName i) D σ H := h
instance (priority := high) i_set {i : Nat} : Stp (tAsg te (gName i) D σ H) (te σ H fun v H1 => D.nx (σ.set i (some v)) H1) := ⟨r_set⟩
theorem r_ret (h : te σ H D.rt) : tRet te D σ H := h
instance i_ret  : Stp (tRet te D σ H) (te σ H D.rt) := ⟨r_ret⟩
theorem r_retN (h : D.rt .non H) : tRetN D σ H := h
instance i_retN  : Stp (tRetN D σ H) (D.rt .non H) := ⟨r_retN⟩
theorem r_drop (h : te σ H fun _ H1 => D.nx σ H1) : tDrop te D σ H := h
instance i_drop  : Stp (tDrop te D σ H) (te σ H fun _ H1 => D.nx σ H1) := ⟨r_drop⟩
theorem r_next (h : D.nx σ H) : tNext D σ H := h
instance i_next  : Stp (tNext D σ H) (D.nx σ H) := ⟨r_next⟩
theorem r_if (h : tc σ H fun b H1 => if b = true then t D σ H1 else u D σ H1) : tIfS tc t u D σ H := h
instance i_if  : Stp (tIfS tc t u D σ H) (tc σ H fun b H1 => if b = true then t D σ H1 else u D σ H1) := ⟨r_if⟩
theorem r_var {i : Nat} (h : σ[i]? = some (some v)) (q : Q v H) : tVar i σ H Q := ⟨v, h, q⟩
theorem r_c (q : Q v H) : tC v σ H Q := q
instance i_c  : Stp (tC v σ H Q) (Q v H) := ⟨r_c⟩
theorem r_op {r : R2} (h : ta σ H fun x H1 => tb σ H1 fun y H2 => r x y H2 Q) : tOp r ta tb σ H Q := h
instance i_op {r : R2} : Stp (tOp r ta tb σ H Q) (ta σ H fun x H1 => tb σ H1 fun y H2 => r x y H2 Q) := ⟨r_op⟩
theorem r_test (h : te σ H fun x H1 => ∃ k, x = .bl k ∧ QB k H1) : tTest te σ H QB := h
instance i_test  : Stp (tTest te σ H QB) (te σ H fun x H1 => ∃ k, x = .bl k ∧ QB k H1) := ⟨r_test⟩
theorem r_B (h : te σ H fun x H1 => ∃ k, x = .bl k ∧ QB k H1) : tB te σ H QB := h
instance i_B  : Stp (tB te σ H QB) (te σ H fun x H1 => ∃ k, x = .bl k ∧ QB k H1) := ⟨r_B⟩
theorem r_bl {b : Bool} (q : QB b H) : ∃ k, V.bl b = .bl k ∧ QB k H := ⟨b, rfl, q⟩
instance i_bl {b : Bool} : Stp (∃ k, V.bl b = .bl k ∧ QB k H) (QB b H) := ⟨r_bl⟩
theorem r_blk {b : Bool} {P : Bool → Prop} (q : P b) : ∃ k, V.bl b = .bl k ∧ P k := ⟨b, rfl, q⟩
instance i_blk {b : Bool} {P : Bool → Prop} : Stp (∃ k, V.bl b = .bl k ∧ P k) (P b) := ⟨r_blk⟩
theorem r_range {lo a n : Int} (hb : ∀ Q : VK, Q (.int a) H → tb σ H Q) (hk : ∀ Q : VK, Q (.int n) H → te σ H Q) (q : Q (.bl (decide (lo ≤ a ∧ a < n))) H) : tChain (rI0 fun i j => .bl (decide (i ≤ j))) (rI0 fun i j => .bl (decide (i < j))) (tC (.int lo)) tb te σ H Q := by
  refine hb _ ⟨lo, a, rfl, rfl, _, rfl, ?_⟩
  by_cases h : lo ≤ a
  · rw [decide_eq_true h, if_pos rfl]
    refine hk _ ⟨a, n, rfl, rfl, ?_⟩
    have e : decide (lo ≤ a ∧ a < n) = decide (a < n) := by simp [h]
    rw [e] at q
    exact q
  · rw [decide_eq_false h, if_neg Bool.false_ne_true]
    have e : decide (lo ≤ a ∧ a < n) = false := by simp [h]
    rw [e] at q
    exact q
theorem r_not (h : tc σ H fun c H1 => QB (!c) H1) : tNot tc σ H QB := h
instance i_not  : Stp (tNot tc σ H QB) (tc σ H fun c H1 => QB (!c) H1) := ⟨r_not⟩
theorem r_and (h : tc σ H fun c H1 => if c = true then td σ H1 QB else QB false H1) : tAnd tc td σ H QB := h
instance i_and  : Stp (tAnd tc td σ H QB) (tc σ H fun c H1 => if c = true then td σ H1 QB else QB false H1) := ⟨r_and⟩
theorem r_or (h : tc σ H fun c H1 => if c = true then QB true H1 else td σ H1 QB) : tOr tc td σ H QB := h
instance i_or  : Stp (tOr tc td σ H QB) (tc σ H fun c H1 => if c = true then QB true H1 else td σ H1 QB) := ⟨r_or⟩
theorem r_ifE (h : tc σ H fun c H1 => if c = true then ta σ H1 Q else tb σ H1 Q) : tIf tc ta tb σ H Q := h
instance i_ifE  : Stp (tIf tc ta tb σ H Q) (tc σ H fun c H1 => if c = true then ta σ H1 Q else tb σ H1 Q) := ⟨r_ifE⟩
theorem r_I0 {g : Int → Int → V} {i j : Int} (q : Q (g i j) H) : rI0 g (.int i) (.int j) H Q := ⟨i, j, rfl, rfl, q⟩
instance i_I0 {g : Int → Int → V} {i j : Int} : Stp (rI0 g (.int i) (.int j) H Q) (Q (g i j) H) := ⟨r_I0⟩
theorem r_I {C : Int → Int → Prop} {g : Int → Int → V} {i j : Int} (c : C i j) (q : Q (g i j) H) : rI C g (.int i) (.int j) H Q := ⟨i, j, rfl, rfl, c, q⟩
theorem r_eq (h : scal x y = true) (q : Q (.bl (decide (x = y))) H) : rEq x y H Q := ⟨h, q⟩
theorem r_ne (h : scal x y = true) (q : Q (.bl (!decide (x = y))) H) : rNe x y H Q := ⟨h, q⟩
theorem r_dec {P A B : Prop} [Decidable P] (h1 : P → A) (h2 : ¬ P → B) : if decide P = true then A else B := by
  by_cases h : P
  · rw [decide_eq_true h, if_pos rfl]
    exact h1 h
  · rw [decide_eq_false h, if_neg Bool.false_ne_true]
    exact h2 h
theorem r_decN {P A B : Prop} [Decidable P] (h1 : ¬ P → A) (h2 : P → B) : if (!decide P) = true then A else B := by
  by_cases h : P
  · rw [decide_eq_true h]
    exact h2 h
  · rw [decide_eq_false h]
    exact h1 h
theorem r_T {A B : Prop} (h : A) : if true = true then A else B := by rw [if_pos rfl]; exact h
instance i_T {A B : Prop} : Stp (if true = true then A else B) (A) := ⟨r_T⟩
theorem r_F {A B : Prop} (h : B) : if false = true then A else B := by rw [if_neg Bool.false_ne_true]; exact h
instance i_F {A B : Prop} : Stp (if false = true then A else B) (B) := ⟨r_F⟩
theorem r_nil (q : QA [] H) : tNil σ H QA := q
instance i_nil  : Stp (tNil σ H QA) (QA [] H) := ⟨r_nil⟩
theorem r_cons {tr : TA} (h : ta σ H fun x H1 => tr σ H1 fun xs H2 => QA (x :: xs) H2) : tCons ta tr σ H QA := h
instance i_cons {tr : TA} : Stp (tCons ta tr σ H QA) (ta σ H fun x H1 => tr σ H1 fun xs H2 => QA (x :: xs) H2) := ⟨r_cons⟩
theorem r_call {sp : Sp} {E : XK} {tr : TA} (h : tr σ H fun vs H1 => sp vs H1 Q E) : tCall sp [] E tr σ H Q := by
  have e : (fun vs H1 => sp (vs ++ []) H1 Q E) = fun vs H1 => sp vs H1 Q E := by
    funext vs H1
    rw [List.append_nil]
  show tr σ H fun vs H1 => sp (vs ++ []) H1 Q E
  rw [e]
  exact h
instance i_call {sp : Sp} {E : XK} {tr : TA} : Stp (tCall sp [] E tr σ H Q) (tr σ H fun vs H1 => sp vs H1 Q E) := ⟨r_call⟩
/-- the method m of the instance x of the class at C -/
def MethOn (C : Addr) (m : Str) (x : V) (H : Hp) (G : Prop) : Prop := ∃ a dx fs, x = .ref a ∧ H a = some (.ins C dx fs) ∧ fs.lookup m = none ∧ G
theorem r_meth {C : Addr} {m : Str} {sp : Sp} {E : XK} {tr : TA} (h : ta σ H fun x H1 => MethOn C m x H1 (tr σ H1 fun vs H2 => sp (x :: vs) H2 Q E)) : tMeth C m sp [] E ta tr σ H Q := by
  have e : (fun x H1 => ∃ a dx fs, x = V.ref a ∧ H1 a = some (.ins C dx fs) ∧ fs.lookup m = none ∧ tr σ H1 fun vs H2 => sp (x :: (vs ++ [])) H2 Q E) = fun x H1 => MethOn C m x H1 (tr σ H1 fun vs H2 => sp (x :: vs) H2 Q E) := by
    funext x H1
    unfold MethOn
    simp only [List.append_nil]
  show ta σ H _
  rw [e]
  exact h
instance i_meth {C : Addr} {m : Str} {sp : Sp} {E : XK} {tr : TA} : Stp (tMeth C m sp [] E ta tr σ H Q) (ta σ H fun x H1 => MethOn C m x H1 (tr σ H1 fun vs H2 => sp (x :: vs) H2 Q E)) := ⟨r_meth⟩
theorem r_methOn {C : Addr} {m : Str} {G : Prop} {p dx : Addr} {fs : List (Str × V)} (h : H p = some (.ins C dx fs)) (hl : fs.lookup m = none) (g : G) : MethOn C m (.ref p) H G := ⟨p, dx, fs, rfl, h, hl, g⟩
/-- the field f of x -/
def FldOn (K : PySem.W.Frag) (f : Str) (x : V) (H : Hp) (Q : VK) : Prop := ∃ a C dx fs v, x = .ref a ∧ H a = some (.ins C dx fs) ∧ Cls K C ∧ NoAttr K C f ∧ fs.lookup f = some v ∧ Q v H
theorem r_fld {f : Str} (h : ta σ H fun x H1 => FldOn K f x H1 Q) : tFld K ta f σ H Q := h
instance i_fld {f : Str} : Stp (tFld K ta f σ H Q) (ta σ H fun x H1 => FldOn K f x H1 Q) := ⟨r_fld⟩
theorem r_fldOn {f : Str} {p C dx : Addr} {fs : List (Str × V)} (h : H p = some (.ins C dx fs)) (c : Cls K C) (n : NoAttr K C f) (hl : fs.lookup f = some v) (q : Q v H) : FldOn K f (.ref p) H Q := ⟨p, C, dx, fs, v, rfl, h, c, n, hl, q⟩
theorem r_cb {r : List V → Hp → VK → Prop} {tr : TA} (h : tr σ H fun vs H1 => r vs H1 Q) : tCB r tr σ H Q := h
instance i_cb {r : List V → Hp → VK → Prop} {tr : TA} : Stp (tCB r tr σ H Q) (tr σ H fun vs H1 => r vs H1 Q) := ⟨r_cb⟩
theorem r_chain {r r' : R2} {tk : TE} (h : ta σ H fun x H1 => tb σ H1 fun y H2 => r x y H2 fun z H3 => ∃ k, z = .bl k ∧ (if k = true then tk σ H3 fun w' H4 => r' y w' H4 Q else Q (.bl false) H3)) : tChain r r' ta tb tk σ H Q := h
end

/-! ### promises by the number of the arguments -/
def sp1 (f : V → Hp → VK → XK → Prop) : Sp := fun vs H Q E => ∃ x, vs = [x] ∧ f x H Q E
def sp2 (f : V → V → Hp → VK → XK → Prop) : Sp := fun vs H Q E => ∃ x y, vs = [x, y] ∧ f x y H Q E
def sp3 (f : V → V → V → Hp → VK → XK → Prop) : Sp := fun vs H Q E => ∃ x y z, vs = [x, y, z] ∧ f x y z H Q E
def sp4 (f : V → V → V → V → Hp → VK → XK → Prop) : Sp := fun vs H Q E => ∃ x y z u, vs = [x, y, z, u] ∧ f x y z u H Q E
def sp5 (f : V → V → V → V → V → Hp → VK → XK → Prop) : Sp := fun vs H Q E => ∃ x y z u v, vs = [x, y, z, u, v] ∧ f x y z u v H Q E
section
variable {H : Hp} {Q : VK} {E : XK} {x y z u v : V}
theorem r_sp1 {f : V → Hp → VK → XK → Prop} (h : f x H Q E) : sp1 f [x] H Q E := ⟨x, rfl, h⟩
instance i_sp1 {f : V → Hp → VK → XK → Prop} : Stp (sp1 f [x] H Q E) (f x H Q E) := ⟨r_sp1⟩
theorem r_sp2 {f : V → V → Hp → VK → XK → Prop} (h : f x y H Q E) : sp2 f [x, y] H Q E := ⟨x, y, rfl, h⟩
instance i_sp2 {f : V → V → Hp → VK → XK → Prop} : Stp (sp2 f [x, y] H Q E) (f x y H Q E) := ⟨r_sp2⟩
theorem r_sp3 {f : V → V → V → Hp → VK → XK → Prop} (h : f x y z H Q E) : sp3 f [x, y, z] H Q E := ⟨x, y, z, rfl, h⟩
instance i_sp3 {f : V → V → V → Hp → VK → XK → Prop} : Stp (sp3 f [x, y, z] H Q E) (f x y z H Q E) := ⟨r_sp3⟩
theorem r_sp4 {f : V → V → V → V → Hp → VK → XK → Prop} (h : f x y z u H Q E) : sp4 f [x, y, z, u] H Q E := ⟨x, y, z, u, rfl, h⟩
instance i_sp4 {f : V → V → V → V → Hp → VK → XK → Prop} : Stp (sp4 f [x, y, z, u] H Q E) (f x y z u H Q E) := ⟨r_sp4⟩
theorem r_sp5 {f : V → V → V → V → V → Hp → VK → XK → Prop} (h : f x y z u v H Q E) : sp5 f [x, y, z, u, v] H Q E := ⟨x, y, z, u, v, rfl, h⟩
instance i_sp5 {f : V → V → V → V → V → Hp → VK → XK → Prop} : Stp (sp5 f [x, y, z, u, v] H Q E) (f x y z u v H Q E) := ⟨r_sp5⟩
end

/-! ### what a step leaves as it was: all but the objects in S; tuples; what was tracked stays tracked -/
structure Fr (S : Addr → Prop) (H H' : Hp) : Prop where
  old : ∀ b o, H b = some o → ¬ S b → H' b = some o
  tup : ∀ b xs, H b = some (.tup xs) → H' b = some (.tup xs)
  thr : ∀ b, H' b = none → H b = none
abbrev No : Addr → Prop := fun _ => False
section
variable {S S' : Addr → Prop} {H H' H1 H2 : Hp} {p : Addr} {o u : HO} {xs : List V}
theorem Fr.refl : Fr S H H := ⟨fun _ _ h _ => h, fun _ _ h => h, fun _ h => h⟩
theorem Fr.trans (a : Fr S H H1) (b : Fr S H1 H2) : Fr S H H2 := ⟨fun c o h n => b.old c o (a.old c o h n) n, fun c xs h => b.tup c xs (a.tup c xs h), fun c h => a.thr c (b.thr c h)⟩
theorem Fr.mono (a : Fr S H H1) (h : ∀ b, S b → S' b) : Fr S' H H1 := ⟨fun c o e n => a.old c o e fun z => n (h c z), a.tup, a.thr⟩
theorem Fr.up (a : Fr No H H1) : Fr S H H1 := a.mono fun _ z => z.elim
theorem Fr.new (h : H p = none) : Fr No H (upd H p o) := ⟨fun b u e _ => by rw [upd_ne (ne_of_none e h)]; exact e, fun b xs e => by rw [upd_ne (ne_of_none e h)]; exact e, fun b e => by
  by_cases z : b = p
  · rw [z, upd_same] at e
    cases e
  · rw [upd_ne z] at e
    exact e⟩
theorem Fr.put (h : H p = some o) (nt : ∀ xs, o ≠ .tup xs) : Fr (fun b => b = p) H (upd H p u) := ⟨fun b v e n => by rw [upd_ne n]; exact e, fun b xs e => by
    have n : b ≠ p := fun z => by
      rw [z, h] at e
      exact nt xs (Option.some.inj e)
    rw [upd_ne n]
    exact e, fun b e => by
  by_cases z : b = p
  · rw [z, upd_same] at e
    cases e
  · rw [upd_ne z] at e
    exact e⟩
theorem Fr.lst (a : Fr No H H1) (h : H p = some o) : H1 p = some o := a.old p o h fun z => z
theorem Fr.fresh (a : Fr S H H1) (h : H1 p = none) : H p = none := a.thr p h
theorem ne_fresh (h : H p = some o) {q : Addr} (h' : H q = none) : q ≠ p := fun z => by
  rw [z, h] at h'
  cases h'
end

/-! ### new lists, new tuples -/
section
variable {K : PySem.W.Frag} {σ : L2.St} {H : Hp} {Q : VK} {xs : List V} {tr : TA}
theorem r_new {o : HO} (h : ∀ p H', H p = none → H' p = some o → Fr No H H' → Q (.ref p) H') : ∀ p, H p = none → Q (.ref p) (upd H p o) := fun p hp => h p _ hp upd_same (Fr.new hp)
def NewL (xs : List V) (H : Hp) (Q : VK) : Prop := xs.length ≤ sizeLine ∧ ∀ p, H p = none → Q (.ref p) (upd H p (.lst xs))
def NewT (xs : List V) (H : Hp) (Q : VK) : Prop := xs.length ≤ sizeLine ∧ ∀ p, H p = none → Q (.ref p) (upd H p (.tup xs))
theorem r_lst (h : tr σ H fun xs H1 => NewL xs H1 Q) : tLst tr σ H Q := h
instance i_lst  : Stp (tLst tr σ H Q) (tr σ H fun xs H1 => NewL xs H1 Q) := ⟨r_lst⟩
theorem r_tup (h : tr σ H fun xs H1 => NewT xs H1 Q) : tTup tr σ H Q := h
instance i_tup  : Stp (tTup tr σ H Q) (tr σ H fun xs H1 => NewT xs H1 Q) := ⟨r_tup⟩
theorem r_newL (hl : xs.length ≤ 2000) (h : ∀ p H', H p = none → H' p = some (.lst xs) → Fr No H H' → Q (.ref p) H') : NewL xs H Q := ⟨Nat.le_of_lt (small2000 hl), r_new h⟩
theorem r_newT (hl : xs.length ≤ 2000) (h : ∀ p H', H p = none → H' p = some (.tup xs) → Fr No H H' → Q (.ref p) H') : NewT xs H Q := ⟨Nat.le_of_lt (small2000 hl), r_new h⟩
end


/-! ### data of tuples, ints, texts: it stays -/
mutual
inductive Td (H : Hp) : V → PyData → Prop
  | non : Td H .non .none
  | bl (b : Bool) : Td H (.bl b) (.bool b)
  | int (i : Int) : Td H (.int i) (.int i)
  | str (x : Str) : Td H (.str x) (.str x)
  | tup {a : Addr} {xs : List V} {ds : List PyData} : H a = some (.tup xs) → TdAll H xs ds → Td H (.ref a) (.tuple ds)
inductive TdAll (H : Hp) : List V → List PyData → Prop
  | nil : TdAll H [] []
  | cons {v : V} {vs : List V} {d : PyData} {ds : List PyData} : Td H v d → TdAll H vs ds → TdAll H (v :: vs) (d :: ds)
end
mutual
theorem Td.fr {S : Addr → Prop} {H H' : Hp} (f : Fr S H H') : ∀ {v : V} {d : PyData}, Td H v d → Td H' v d
  | _, _, .non => .non
  | _, _, .bl b => .bl b
  | _, _, .int i => .int i
  | _, _, .str x => .str x
  | _, _, .tup h r => .tup (f.tup _ _ h) (TdAll.fr f r)
theorem TdAll.fr {S : Addr → Prop} {H H' : Hp} (f : Fr S H H') : ∀ {vs : List V} {ds : List PyData}, TdAll H vs ds → TdAll H' vs ds
  | _, _, .nil => .nil
  | _, _, .cons h r => .cons (Td.fr f h) (TdAll.fr f r)
end
mutual
theorem Td.dp {K : PySem.W.Frag} {H : Hp} : ∀ {v : V} {d : PyData}, Td H v d → Dp K H v d
  | _, _, .non => .non
  | _, _, .bl b => .bl b
  | _, _, .int i => .int i
  | _, _, .str x => .str x
  | _, _, .tup h r => .tup (SqT.of h) (TdAll.dp r)
theorem TdAll.dp {K : PySem.W.Frag} {H : Hp} : ∀ {vs : List V} {ds : List PyData}, TdAll H vs ds → DpAll K H vs ds
  | _, _, .nil => .nil
  | _, _, .cons h r => .cons (Td.dp h) (TdAll.dp r)
end
theorem TdAll.len {H : Hp} : ∀ {vs : List V} {ds : List PyData}, TdAll H vs ds → vs.length = ds.length
  | _, _, .nil => rfl
  | _, _, .cons _ r => by simp [TdAll.len r]
theorem TdAll.app {H : Hp} : ∀ {vs ws : List V} {ds es : List PyData}, TdAll H vs ds → TdAll H ws es → TdAll H (vs ++ ws) (ds ++ es)
  | _, _, _, _, .nil, s => s
  | _, _, _, _, .cons h r, s => .cons h (TdAll.app r s)
theorem TdAll.one {H : Hp} {v : V} {d : PyData} (h : Td H v d) : TdAll H [v] [d] := .cons h .nil
theorem TdAll.at {H : Hp} : ∀ {vs : List V} {ds : List PyData} {i : Nat} {d : PyData}, TdAll H vs ds → ds[i]? = some d → ∃ v, vs[i]? = some v ∧ Td H v d
  | _, _, _, _, .nil, e => by simp at e
  | _, _, 0, _, .cons h _, e => by
    have e' := Option.some.inj (show some _ = some _ from e)
    subst e'
    exact ⟨_, rfl, h⟩
  | _, _, i + 1, _, .cons _ r, e => TdAll.at (i := i) r (by simpa using e)
/-- a list of such data at p -/
def LsAt (H : Hp) (p : Addr) (ds : List PyData) : Prop := ∃ vs, H p = some (.lst vs) ∧ TdAll H vs ds
theorem LsAt.dp {K : PySem.W.Frag} {H : Hp} {p : Addr} {ds : List PyData} (h : LsAt H p ds) : Dp K H (.ref p) (.list ds) := by
  obtain ⟨vs, h1, h2⟩ := h
  exact .lst (SqL.of h1) h2.dp
theorem LsAt.fr {S : Addr → Prop} {H H' : Hp} {p : Addr} {ds : List PyData} (h : LsAt H p ds) (f : Fr S H H') (n : ¬ S p) : LsAt H' p ds := by
  obtain ⟨vs, h1, h2⟩ := h
  exact ⟨vs, f.old _ _ h1 n, h2.fr f⟩
/-! ### data that may be compared -/
def Cmp (d : PyData) : Prop := d.canLay0 = true ∧ d.depth ≤ 60
def CmpAll (ds : List PyData) : Prop := PyData.canLayAll0 ds = true ∧ PyData.depthAll ds ≤ 59
theorem Cmp.shaped {d : PyData} (h : Cmp d) : SeqAt.shaped d = true := by
  unfold SeqAt.shaped
  rw [h.1, Bool.true_and]
  exact decide_eq_true (Nat.le_trans h.2 (by decide))
theorem CmpAll.shaped {ds : List PyData} (h : CmpAll ds) : SeqAt.shaped (.list ds) = true := by
  unfold SeqAt.shaped
  have e : PyData.canLay0 (.list ds) = true := by simp only [PyData.canLay0]; exact h.1
  rw [e, Bool.true_and]
  refine decide_eq_true ?_
  simp only [PyData.depth]
  have := h.2
  omega
theorem CmpAll.nil : CmpAll [] := ⟨by simp [PyData.canLayAll0], by simp [PyData.depthAll]⟩
theorem CmpAll.cons {d : PyData} {ds : List PyData} (h : d.canLay0 = true ∧ d.depth ≤ 59) (r : CmpAll ds) : CmpAll (d :: ds) := ⟨by simp only [PyData.canLayAll0, h.1, r.1, Bool.and_self], by
  simp only [PyData.depthAll]
  have h1 := h.2
  have h2 := r.2
  omega⟩
theorem CmpAll.of {ds : List PyData} (h : ∀ d ∈ ds, d.canLay0 = true ∧ d.depth ≤ 59) : CmpAll ds := by
  induction ds with
  | nil => exact .nil
  | cons d r ih => exact .cons (h d List.mem_cons_self) (ih fun e he => h e (List.mem_cons_of_mem _ he))
theorem eqv_nil (ds : List PyData) : PyData.eqv (.list ds) (.list []) = decide (ds = []) := by
  cases ds with
  | nil => simp [PyData.eqv, PyData.eqvAll]
  | cons d r => simp [PyData.eqv, PyData.eqvAll]
section
variable {K : PySem.W.Frag} {σ : L2.St} {H : Hp} {Q : VK} {D : Ends} {v : V} {te ta tb to : TE} {tr : TA} {QH : Hp → Prop}
theorem r_asg {g : TG} (h : te σ H fun v H1 => g v σ H1 D.nx) : tAsg te g D σ H := h
instance i_asg {g : TG} : Stp (tAsg te g D σ H) (te σ H fun v H1 => g v σ H1 D.nx) := ⟨r_asg⟩
theorem r_gsub {s : TSet} {QS : L2.St → Hp → Prop} (h : ta σ H fun o H1 => tb σ H1 fun i H2 => s o i v H2 fun H3 => QS σ H3) : gSub ta tb s v σ H QS := h
instance i_gsub {s : TSet} {QS : L2.St → Hp → Prop} : Stp (gSub ta tb s v σ H QS) (ta σ H fun o H1 => tb σ H1 fun i H2 => s o i v H2 fun H3 => QS σ H3) := ⟨r_gsub⟩
theorem r_gname {i : Nat} {QS : L2.St → Hp → Prop} (h : QS (σ.set i (some v)) H) : gName i v σ H QS := h
instance i_gname {i : Nat} {QS : L2.St → Hp → Prop} : Stp (gName i v σ H QS) (QS (σ.set i (some v)) H) := ⟨r_gname⟩
theorem r_bm {T : String} {r : V → List V → Hp → VK → Prop} (h : to σ H fun x H1 => tyV K T x H1 ∧ tr σ H1 fun xs H2 => r x xs H2 Q) : tBM K T r to tr σ H Q := h
instance i_bm {T : String} {r : V → List V → Hp → VK → Prop} : Stp (tBM K T r to tr σ H Q) (to σ H fun x H1 => tyV K T x H1 ∧ tr σ H1 fun xs H2 => r x xs H2 Q) := ⟨r_bm⟩
theorem r_bm0 {T : String} {r : V → List V → Hp → VK → Prop} (h : to σ H fun x H1 => tyV K T x H1 ∧ r x [] H1 Q) : tBM0 K T r to σ H Q := h
instance i_bm0 {T : String} {r : V → List V → Hp → VK → Prop} : Stp (tBM0 K T r to σ H Q) (to σ H fun x H1 => tyV K T x H1 ∧ r x [] H1 Q) := ⟨r_bm0⟩
theorem r_tyL {a : Addr} {xs : List V} {G : Prop} (h : H a = some (.lst xs)) (g : G) : tyV K "list" (.ref a) H ∧ G := ⟨.inl ⟨rfl, _, SqL.of h⟩, g⟩
theorem r_eqNil {a p : Addr} {ds : List PyData} (h : Dp K H (.ref a) (.list ds)) (hc : CmpAll ds) (hp : H p = some (.lst [])) (q : Q (.bl (decide (ds = []))) H) : rEqD K (.ref a) (.ref p) H Q :=
  ⟨_, _, h, .lst (SqL.of hp) .nil, hc.shaped, CmpAll.nil.shaped, by rw [eqv_nil]; exact q⟩
theorem r_neNil {a p : Addr} {ds : List PyData} (h : Dp K H (.ref a) (.list ds)) (hc : CmpAll ds) (hp : H p = some (.lst [])) (q : Q (.bl (!decide (ds = []))) H) : rNeD K (.ref a) (.ref p) H Q :=
  ⟨_, _, h, .lst (SqL.of hp) .nil, hc.shaped, CmpAll.nil.shaped, by rw [eqv_nil]; exact q⟩
theorem seqIx0 {n : Nat} (h : 0 < n) : seqIndex? 0 n = some 0 := by
  unfold seqIndex?
  simp [h]
theorem seqIxN {n i : Nat} (h : i < n) : seqIndex? (i : Int) n = some i := by
  unfold seqIndex?
  have h1 : ¬ ((i : Int) < 0) := by omega
  simp only [h1, if_false]
  rw [if_pos (by simp; omega)]
  simp
theorem r_popAt {a : Addr} {xs : List V} {i : Nat} {y : V} (h : H a = some (.lst xs)) (hi : xs[i]? = some y) (hs : i < 100000) (q : Q y (upd H a (.lst (xs.eraseIdx i)))) : rPopAt (.ref a) [.int (i : Int)] H Q :=
  ⟨a, xs, _, i, y, rfl, rfl, h, by omega, by omega, seqIxN (List.getElem?_eq_some_iff.mp hi).1, hi, q⟩
theorem r_append {a : Addr} {xs : List V} {y : V} (h : H a = some (.lst xs)) (hs : xs.length ≤ 2000) (q : Q .non (upd H a (.lst (xs ++ [y])))) : rAppend (.ref a) [y] H Q := ⟨a, xs, y, rfl, rfl, h, small2000 hs, q⟩
end
theorem int_td (H : Hp) : ∀ ns : List Int, TdAll H (ns.map V.int) (ns.map PyData.int)
  | [] => .nil
  | n :: r => .cons (.int n) (int_td H r)

theorem r_listOf {K : PySem.W.Frag} {H : Hp} {Q : VK} {a : Addr} {xs : List V} (h : H a = some (.lst xs)) (q : ∀ p H', H p = none → H' p = some (.lst xs) → Fr No H H' → Q (.ref p) H') : rListQ K [.ref a] H Q := ⟨a, xs, rfl, .inl (SqL.of h), fun p hp => q p _ hp upd_same (Fr.new hp)⟩

/-! ### comprehensions -/
theorem Fr.mut {H H' : Hp} {D : Addr} {u : HO} (f : Fr No H H') (h : H D = none) : Fr No H (upd H' D u) := ⟨fun b o e n => by rw [upd_ne (ne_of_none e h)]; exact f.old b o e n, fun b xs e => by rw [upd_ne (ne_of_none e h)]; exact f.tup b xs e, fun b e => by
  by_cases z : b = D
  · rw [z]
    exact h
  · rw [upd_ne z] at e
    exact f.thr b e⟩
theorem Fr.mut_at {S : Addr → Prop} {H H' : Hp} {D : Addr} {u : HO} (f : Fr S H H') (h : H D = none) : Fr S H (upd H' D u) := ⟨fun b o e n => by rw [upd_ne (ne_of_none e h)]; exact f.old b o e n, fun b xs e => by rw [upd_ne (ne_of_none e h)]; exact f.tup b xs e, fun b e => by
  by_cases z : b = D
  · rw [z]
    exact h
  · rw [upd_ne z] at e
    exact f.thr b e⟩
theorem Td.int_of {H : Hp} {v : V} {i : Int} (h : Td H v (.int i)) : v = .int i := by cases h; rfl
theorem Td.non_of {H : Hp} {v : V} (h : Td H v .none) : v = .non := by cases h; rfl
theorem TdAll.ints_of {H : Hp} : ∀ {vs : List V} {ns : List Int}, TdAll H vs (ns.map PyData.int) → vs = ns.map V.int
  | _, [], h => by cases h; rfl
  | _, n :: r, h => by
    cases h with
    | cons h1 h2 => rw [Td.int_of h1, TdAll.ints_of h2]; rfl
theorem LsAt.ints {H : Hp} {p : Addr} {ns : List Int} (h : LsAt H p (ns.map PyData.int)) : H p = some (.lst (ns.map V.int)) := by
  obtain ⟨vs, h1, h2⟩ := h
  rw [h1, h2.ints_of]
section
variable {K : PySem.W.Frag} {σ : L2.St} {H : Hp} {Q : VK} {ta : TA} {tt : TT} {te tl : TE} {vs : List Nat} {j : Nat} {n : Nat}
/-- what is made so far -/
structure LcW (H : Hp) (D : Addr) (ds : List PyData) (H' : Hp) : Prop where
  new : H D = none
  fr : Fr No H H'
  ls : LsAt H' D ds
/-- an element that may lay new things, and its datum -/
def Gives (te : TE) (σ : L2.St) (H' : Hp) (d : PyData) : Prop := ∀ Q : VK, (∀ v H2, Fr No H' H2 → Td H2 v d → Q v H2) → te σ H' Q
def Tells (tt : TT) (σ : L2.St) (H' : Hp) (b : Bool) : Prop := ∀ Q : Bool → Hp → Prop, (∀ H2, Fr No H' H2 → Q b H2) → tt σ H' Q
theorem tells_yes {H' : Hp} {σ : L2.St} : Tells tYes σ H' true := fun Q q => q H' Fr.refl
theorem lc_turn {H1 H' : Hp} {D : Addr} {σ2 : L2.St} {ds : List PyData} {b : Bool} {d : PyData} (N : Hp → Prop) (w : LcW H1 D ds H') (hl : ds.length < 2000) (ht : Tells tt σ2 H' b) (he : b = true → ∀ H2, Fr No H1 H2 → Gives te σ2 H2 d)
    (h1 : b = true → ∀ H2, LcW H1 D (ds ++ [d]) H2 → N H2) (h0 : b = false → ∀ H2, LcW H1 D ds H2 → N H2) :
    tt σ2 H' fun b H3 => if b = true then te σ2 H3 fun y H4 => ∃ acc, H4 D = some (.lst acc) ∧ acc.length < sizeLine ∧ N (upd H4 D (.lst (acc ++ [y]))) else N H3 := by
  obtain ⟨w1, w2, vs, w3, w4⟩ := w
  refine ht _ fun H3 f3 => ?_
  cases b with
  | true =>
    refine r_T (he rfl H3 (w2.trans f3) _ fun v H4 f4 hv => ⟨vs, (f3.trans f4).lst w3, ?_, h1 rfl _ ⟨w1, Fr.mut ((w2.trans f3).trans f4) w1, vs ++ [v], upd_same, ?_⟩⟩)
    · rw [w4.len]
      exact small2000 (Nat.le_of_lt hl)
    · have f5 : Fr (fun b => b = D) H4 (upd H4 D (.lst (vs ++ [v]))) := Fr.put ((f3.trans f4).lst w3) (fun xs z => by cases z)
      exact ((w4.fr (f3.trans f4)).app (TdAll.one hv)).fr f5
  | false => exact r_F (h0 rfl _ ⟨w1, w2.trans f3, vs, f3.lst w3, w4.fr f3⟩)
/-- the data of the turns below n -/
def turns (f : Nat → Bool) (d : Nat → PyData) (n : Nat) : List PyData := ((List.range n).filter f).map d
theorem turns_succ (f : Nat → Bool) (d : Nat → PyData) (n : Nat) : turns f d (n + 1) = turns f d n ++ (if f n = true then [d n] else []) := by
  unfold turns
  rw [List.range_succ, List.filter_append, List.map_append]
  by_cases h : f n = true
  · simp [h]
  · simp [h]
theorem turns_len (f : Nat → Bool) (d : Nat → PyData) (n : Nat) : (turns f d n).length ≤ n := by
  unfold turns
  rw [List.length_map]
  have h := List.length_filter_le f (List.range n)
  rw [List.length_range] at h
  exact h
theorem r_lcR (f : Nat → Bool) (d : Nat → PyData) (hn : n ≤ 2000) (ha : ∀ Q : List V → Hp → Prop, Q [.int (n : Int)] H → ta σ H Q) (hw : ∀ x, wipe ((wipe σ vs).set j (some x)) vs = wipe σ vs)
    (ht : ∀ (i : Nat) H', i < n → Fr No H H' → Tells tt ((wipe σ vs).set j (some (.int (i : Int)))) H' (f i)) (he : ∀ (i : Nat) H', i < n → f i = true → Fr No H H' → Gives te ((wipe σ vs).set j (some (.int (i : Int)))) H' (d i))
    (q : ∀ p H', H p = none → LsAt H' p (turns f d n) → Fr No H H' → Q (.ref p) H') : tLc (iRng1 ta) (gName j) tt te vs σ H Q := by
  refine ha _ ⟨(n : Int), rfl, by omega, by omega, fun D hD => ?_⟩
  have en : ((n : Int)).toNat = n := by omega
  rw [en]
  refine lc_range (lo := 0) (n := n) (fun i H' => LcW H D (turns f d i) H') ⟨hD, Fr.new hD, [], upd_same, .nil⟩ (fun i H' hi w => ?_) (fun H' w => q D H' hD w.ls w.fr)
  have e0 : (0 : Int) + (i : Int) = (i : Int) := Int.zero_add _
  rw [e0]
  refine ⟨hw _, ?_⟩
  exact lc_turn (d := d i) _ w (by have := turns_len f d i; omega) (ht i H' hi w.fr) (fun hf H2 f2 => he i H2 hi hf f2) (fun hf H2 w2 => by rw [turns_succ, if_pos hf]; exact w2) (fun hf H2 w2 => by
    have nf : ¬ f i = true := by rw [hf]; exact Bool.false_ne_true
    rw [turns_succ, if_neg nf, List.append_nil]
    exact w2)
theorem r_lcL0 {wi : TI} {g : TG} (h : wi σ H fun J H1 => ∀ D, H1 D = none → ∃ W : Nat → Nat → Hp → Prop, (∃ m, W 0 m (upd H1 D (.lst []))) ∧ ∀ i m H, W i m H →
  (J.stop i H ∧ Q (.ref D) H) ∨ (J.go i H ∧ ∃ Nx : Hp → Prop, (∀ H', Nx H' → ∃ m', m' < m ∧ W (i + 1) m' H') ∧ ∀ x H', J.yld i H x H' → g x (wipe σ vs) H' fun σ2 H2 => wipe σ2 vs = wipe σ vs ∧ tt σ2 H2 fun b H3 =>
    if b = true then te σ2 H3 fun y H4 => ∃ acc, H4 D = some (.lst acc) ∧ acc.length < sizeLine ∧ Nx (upd H4 D (.lst (acc ++ [y]))) else Nx H3)) : tLc wi g tt te vs σ H Q := h
theorem r_yes {QB : Bool → Hp → Prop} (h : QB true H) : tYes σ H QB := h
instance i_yes {QB : Bool → Hp → Prop} : Stp (tYes σ H QB) (QB true H) := ⟨r_yes⟩
theorem r_listI {R : It → Hp → Prop} (h : tl σ H fun x H1 => ∃ a, x = .ref a ∧ (∃ xs, SqL K H1 a xs) ∧ R (Itl K a) H1) : iList K tl σ H R := h
instance i_listI {R : It → Hp → Prop} : Stp (iList K tl σ H R) (tl σ H fun x H1 => ∃ a, x = .ref a ∧ (∃ xs, SqL K H1 a xs) ∧ R (Itl K a) H1) := ⟨r_listI⟩
/-- over a list -/
theorem r_lcL {a : Addr} {xs : List V} (f : Nat → Bool) (d : Nat → PyData) (hn : xs.length ≤ 2000) (ha : ∀ Q : VK, Q (.ref a) H → tl σ H Q) (hx : H a = some (.lst xs)) (hw : ∀ x, wipe ((wipe σ vs).set j (some x)) vs = wipe σ vs)
    (ht : ∀ (i : Nat) x H', xs[i]? = some x → Fr No H H' → Tells tt ((wipe σ vs).set j (some x)) H' (f i)) (he : ∀ (i : Nat) x H', xs[i]? = some x → f i = true → Fr No H H' → Gives te ((wipe σ vs).set j (some x)) H' (d i))
    (q : ∀ p H', H p = none → LsAt H' p (turns f d xs.length) → Fr No H H' → Q (.ref p) H') : tLc (iList K tl) (gName j) tt te vs σ H Q := by
  refine ha _ ⟨a, rfl, ⟨xs, SqL.of hx⟩, fun D hD => ?_⟩
  refine lc_list (K := K) (a := a) (xs := xs) (fun i H' => LcW H D (turns f d i) H') ⟨hD, Fr.new hD, [], upd_same, .nil⟩ (fun i H' hi w => SqL.of (w.fr.lst hx)) (fun i x H' hi w => ?_) (fun H' w => q D H' hD w.ls w.fr)
  have hl : i < xs.length := (List.getElem?_eq_some_iff.mp hi).1
  refine ⟨hw _, ?_⟩
  exact lc_turn (d := d i) _ w (by have := turns_len f d i; omega) (ht i x H' hi w.fr) (fun hf H2 f2 => he i x H2 hi hf f2) (fun hf H2 w2 => by rw [turns_succ, if_pos hf]; exact w2) (fun hf H2 w2 => by
    have nf : ¬ f i = true := by rw [hf]; exact Bool.false_ne_true
    rw [turns_succ, if_neg nf, List.append_nil]
    exact w2)
/-- over a tuple -/
theorem r_lcT {a : Addr} {xs : List V} (f : Nat → Bool) (d : Nat → PyData) (hn : xs.length ≤ 2000) (ha : ∀ Q : VK, Q (.ref a) H → tl σ H Q) (hx : H a = some (.tup xs)) (hw : ∀ x, wipe ((wipe σ vs).set j (some x)) vs = wipe σ vs)
    (ht : ∀ (i : Nat) x H', xs[i]? = some x → Fr No H H' → Tells tt ((wipe σ vs).set j (some x)) H' (f i)) (he : ∀ (i : Nat) x H', xs[i]? = some x → f i = true → Fr No H H' → Gives te ((wipe σ vs).set j (some x)) H' (d i))
    (q : ∀ p H', H p = none → LsAt H' p (turns f d xs.length) → Fr No H H' → Q (.ref p) H') : tLc (iTup K tl) (gName j) tt te vs σ H Q := by
  refine ha _ ⟨a, rfl, ⟨xs, SqT.of hx⟩, fun D hD => ?_⟩
  refine lc_tup (K := K) (a := a) (xs := xs) (fun i H' => LcW H D (turns f d i) H') ⟨hD, Fr.new hD, [], upd_same, .nil⟩ (fun i H' hi w => SqT.of (w.fr.tup _ _ hx)) (fun i x H' hi w => ?_) (fun H' w => q D H' hD w.ls w.fr)
  have hl : i < xs.length := (List.getElem?_eq_some_iff.mp hi).1
  refine ⟨hw _, ?_⟩
  exact lc_turn (d := d i) _ w (by have := turns_len f d i; omega) (ht i x H' hi w.fr) (fun hf H2 f2 => he i x H2 hi hf f2) (fun hf H2 w2 => by rw [turns_succ, if_pos hf]; exact w2) (fun hf H2 w2 => by
    have nf : ¬ f i = true := by rw [hf]; exact Bool.false_ne_true
    rw [turns_succ, if_neg nf, List.append_nil]
    exact w2)
/-- an element that is a new list -/
def Makes (te : TE) (σ : L2.St) (H' : Hp) (c : List V) : Prop := ∀ Q : VK, (∀ a H2, H' a = none → H2 a = some (.lst c) → Fr No H' H2 → Q (.ref a) H2) → te σ H' Q
structure LmW (H : Hp) (D : Addr) (c : Nat → List V) (ls : List Addr) (H' : Hp) : Prop where
  new : H D = none
  fr : Fr No H H'
  at_ : H' D = some (.lst (ls.map V.ref))
  nd : (D :: ls).Nodup
  each : ∀ k a, ls[k]? = some a → H' a = some (.lst (c k)) ∧ H a = none
theorem lm_turn {H1 H' : Hp} {D : Addr} {σ2 : L2.St} {ls : List Addr} {c : Nat → List V} (N : Hp → Prop) (w : LmW H1 D c ls H') (hl : ls.length < 2000) (he : ∀ H2, Fr No H1 H2 → Makes te σ2 H2 (c ls.length))
    (h1 : ∀ ls' H2, ls'.length = ls.length + 1 → LmW H1 D c ls' H2 → N H2) :
    tYes σ2 H' fun b H3 => if b = true then te σ2 H3 fun y H4 => ∃ acc, H4 D = some (.lst acc) ∧ acc.length < sizeLine ∧ N (upd H4 D (.lst (acc ++ [y]))) else N H3 := by
  obtain ⟨w1, w2, w3, w4, w5⟩ := w
  unfold tYes
  dsimp only
  rw [if_pos rfl]
  refine he H' w2 _ fun a H4 ha e f => ⟨ls.map V.ref, f.lst w3, by rw [List.length_map]; exact small2000 (Nat.le_of_lt hl), h1 (ls ++ [a]) _ (by simp) ?_⟩
  have nD : a ≠ D := ne_fresh w3 ha
  refine ⟨w1, Fr.mut (w2.trans f) w1, ?_, ?_, fun k b eb => ?_⟩
  · rw [upd_same, List.map_append]
    rfl
  · have e2 : D :: (ls ++ [a]) = (D :: ls) ++ [a] := rfl
    rw [e2, List.nodup_append]
    refine ⟨w4, by simp, fun x hx y hy => ?_⟩
    have ey : y = a := by simpa using hy
    rw [ey]
    intro z
    rcases List.mem_cons.mp hx with q | q
    · exact nD (z.symm.trans q)
    · obtain ⟨k, hk, ek⟩ := List.mem_iff_getElem.mp q
      have := (w5 k x (by rw [List.getElem?_eq_getElem hk, ek])).1
      rw [z, ha] at this
      cases this
  · by_cases hk : k < ls.length
    · rw [List.getElem?_append_left hk] at eb
      obtain ⟨q1, q2⟩ := w5 k b eb
      have nb : b ≠ D := fun z => by
        rw [List.nodup_cons] at w4
        exact w4.1 (z ▸ List.mem_of_getElem? eb)
      exact ⟨(upd_ne nb).trans (f.lst q1), q2⟩
    · have hk2 : k = ls.length := by
        have := (List.getElem?_eq_some_iff.mp eb).1
        rw [List.length_append, List.length_singleton] at this
        omega
      subst hk2
      rw [List.getElem?_append_right (Nat.le_refl _), Nat.sub_self] at eb
      have ea : a = b := Option.some.inj eb
      rw [← ea]
      exact ⟨(upd_ne nD).trans e, w2.fresh ha⟩
theorem r_lcMR (c : Nat → List V) (hn : n ≤ 2000) (ha : ∀ Q : List V → Hp → Prop, Q [.int (n : Int)] H → ta σ H Q) (hw : ∀ x, wipe ((wipe σ vs).set j (some x)) vs = wipe σ vs)
    (he : ∀ (i : Nat) H', i < n → Fr No H H' → Makes te ((wipe σ vs).set j (some (.int (i : Int)))) H' (c i))
    (q : ∀ p ls H', H p = none → ls.length = n → LmW H p c ls H' → Q (.ref p) H') : tLc (iRng1 ta) (gName j) tYes te vs σ H Q := by
  refine ha _ ⟨(n : Int), rfl, by omega, by omega, fun D hD => ?_⟩
  have en : ((n : Int)).toNat = n := by omega
  rw [en]
  refine lc_range (lo := 0) (n := n) (fun i H' => ∃ ls, ls.length = i ∧ LmW H D c ls H') ⟨[], rfl, hD, Fr.new hD, upd_same, by simp, fun k a e => by simp at e⟩ (fun i H' hi ⟨ls, el, w⟩ => ?_) (fun H' ⟨ls, el, w⟩ => q D ls H' hD el w)
  have e0 : (0 : Int) + (i : Int) = (i : Int) := Int.zero_add _
  rw [e0]
  refine ⟨hw _, ?_⟩
  exact lm_turn _ w (by omega) (fun H2 f2 => by rw [el]; exact he i H2 hi f2) (fun ls' H2 el' w' => ⟨ls', by omega, w'⟩)
theorem r_lcML {a : Addr} {xs : List V} (c : Nat → List V) (hn : xs.length ≤ 2000) (ha : ∀ Q : VK, Q (.ref a) H → tl σ H Q) (hx : H a = some (.lst xs)) (hw : ∀ x, wipe ((wipe σ vs).set j (some x)) vs = wipe σ vs)
    (he : ∀ (i : Nat) x H', xs[i]? = some x → Fr No H H' → Makes te ((wipe σ vs).set j (some x)) H' (c i))
    (q : ∀ p ls H', H p = none → ls.length = xs.length → LmW H p c ls H' → Q (.ref p) H') : tLc (iList K tl) (gName j) tYes te vs σ H Q := by
  refine ha _ ⟨a, rfl, ⟨xs, SqL.of hx⟩, fun D hD => ?_⟩
  refine lc_list (K := K) (a := a) (xs := xs) (fun i H' => ∃ ls, ls.length = i ∧ LmW H D c ls H') ⟨[], rfl, hD, Fr.new hD, upd_same, by simp, fun k a e => by simp at e⟩ (fun i H' hi ⟨ls, el, w⟩ => SqL.of (w.fr.lst hx)) (fun i x H' hi ⟨ls, el, w⟩ => ?_) (fun H' ⟨ls, el, w⟩ => q D ls H' hD el w)
  have hl : i < xs.length := (List.getElem?_eq_some_iff.mp hi).1
  refine ⟨hw _, ?_⟩
  exact lm_turn _ w (by omega) (fun H2 f2 => by rw [el]; exact he i x H2 hi f2) (fun ls' H2 el' w' => ⟨ls', by omega, w'⟩)
/-! more steps -/
theorem r_between {σ : L2.St} {lo a n : Int} {tb tk : TE} {Q : VK} (hb : ∀ Q : VK, Q (.int a) H → tb σ H Q) (hk : ∀ Q : VK, Q (.int n) H → tk σ H Q) (q : Q (.bl (decide (lo ≤ a ∧ a ≤ n))) H) : tChain (rI0 fun i j => .bl (decide (i ≤ j))) (rI0 fun i j => .bl (decide (i ≤ j))) (tC (.int lo)) tb tk σ H Q := by
  refine hb _ ⟨lo, a, rfl, rfl, _, rfl, ?_⟩
  by_cases h : lo ≤ a
  · rw [decide_eq_true h, if_pos rfl]
    refine hk _ ⟨a, n, rfl, rfl, ?_⟩
    have e : decide (lo ≤ a ∧ a ≤ n) = decide (a ≤ n) := by simp [h]
    rw [e] at q
    exact q
  · rw [decide_eq_false h, if_neg Bool.false_ne_true]
    have e : decide (lo ≤ a ∧ a ≤ n) = false := by simp [h]
    rw [e] at q
    exact q
def PutOn (K : PySem.W.Frag) (f : Str) (x y : V) (H : Hp) (Q : Hp → Prop) : Prop := ∃ a C dx fs, x = .ref a ∧ H a = some (.ins C dx fs) ∧ Cls K C ∧ NoAttr K C f ∧ fs.length < 1000 ∧ Q (upd H a (.ins C dx (putF f y fs)))
theorem r_sfld {σ : L2.St} {D : Ends} {to tv : TE} {f : Str} (h : tv σ H fun y H1 => to σ H1 fun x H2 => PutOn K f x y H2 (D.nx σ)) : sFld K to tv f D σ H := h
instance i_sfld {σ : L2.St} {D : Ends} {to tv : TE} {f : Str} : Stp (sFld K to tv f D σ H) (tv σ H fun y H1 => to σ H1 fun x H2 => PutOn K f x y H2 (D.nx σ)) := ⟨r_sfld⟩
theorem r_putOn {f : Str} {p C dx : Addr} {y : V} {fs : List (Str × V)} {QH : Hp → Prop} (h : H p = some (.ins C dx fs)) (c : Cls K C) (n : NoAttr K C f) (hl : fs.length < 1000) (q : ∀ H', H' p = some (.ins C dx (putF f y fs)) → Fr (fun b => b = p) H H' → QH H') : PutOn K f (.ref p) y H QH :=
  ⟨p, C, dx, fs, rfl, h, c, n, hl, q _ upd_same (Fr.put h (fun xs z => by cases z))⟩
theorem r_rep {l : Addr} {x : V} {k : Nat} (h : H l = some (.lst [x])) (hk : k ≤ 2000) (q : ∀ p H', H p = none → H' p = some (.lst (List.replicate k x)) → Fr No H H' → Q (.ref p) H') : rRep (.ref l) (.int (k : Int)) H Q := by
  refine ⟨l, (k : Int), [x], rfl, rfl, h, by omega, by omega, ?_, ?_⟩
  · show 1 * _ ≤ sizeLine
    rw [Nat.one_mul]
    exact Nat.le_of_lt (small2000 (by omega))
  · have e : (List.replicate (k : Int).toNat [x]).flatten = List.replicate k x := by
      have ek : ((k : Int)).toNat = k := by omega
      rw [ek]
      clear hk q ek
      induction k with
      | zero => rfl
      | succ m ih => rw [List.replicate_succ, List.flatten_cons, ih, List.replicate_succ]; rfl
    refine r_new (fun p H' hp hp' f => q p H' hp ?_ f)
    rw [hp', e]
end

/-! ### a new instance -/
section
variable {σ : L2.St} {H : Hp} {Q : VK}
def MakeOn (C : Addr) (sp : Sp) (E : XK) (vs : List V) (H1 : Hp) (Q : VK) : Prop := ∀ x dx, H1 x = none → H1 dx = none → dx ≠ x → sp (.ref x :: vs) (upd (upd H1 dx (.own x)) x (.ins C dx [])) (fun v H2 => v = .non ∧ Q (.ref x) H2) E
theorem r_make {C : Addr} {sp : Sp} {E : XK} {tr : TA} (h : tr σ H fun vs H1 => MakeOn C sp E vs H1 Q) : tMake C sp [] E tr σ H Q := by
  have e : (fun vs H1 => ∀ x dx, H1 x = none → H1 dx = none → dx ≠ x → sp (.ref x :: (vs ++ [])) (upd (upd H1 dx (.own x)) x (.ins C dx [])) (fun v H2 => v = .non ∧ Q (.ref x) H2) E) = fun vs H1 => MakeOn C sp E vs H1 Q := by
    funext vs H1
    unfold MakeOn
    simp only [List.append_nil]
  show tr σ H _
  rw [e]
  exact h
instance i_make {C : Addr} {sp : Sp} {E : XK} {tr : TA} : Stp (tMake C sp [] E tr σ H Q) (tr σ H fun vs H1 => MakeOn C sp E vs H1 Q) := ⟨r_make⟩
theorem r_makeOn {C : Addr} {sp : Sp} {E : XK} {vs : List V} (h : ∀ x dx H', H x = none → H' x = some (.ins C dx []) → Fr No H H' → sp (.ref x :: vs) H' (fun v H2 => v = .non ∧ Q (.ref x) H2) E) : MakeOn C sp E vs H Q := fun x dx hx hd ne => by
  refine h x dx _ hx upd_same ?_
  have f1 : Fr No H (upd H dx (.own x)) := Fr.new hd
  exact f1.trans (Fr.new (by rw [upd_ne (fun z => ne z.symm)]; exact hx))
end
end AL

namespace AL
open PySem PySem.Spec PyProof.Rows L2
/-! # tables, as plain data; where a table stands -/
def nV (n : Nat) : V := .int (n : Int)
def oV : Option Nat → V
  | none => .non
  | some n => .int (n : Int)
theorem oV_some (n : Nat) : oV (some n) = .int (n : Int) := rfl
theorem oV_none : oV none = .non := rfl
theorem oV_non (o : Option Nat) : (oV o = .non) ↔ o = none := by
  cases o with
  | none => exact ⟨fun _ => rfl, fun _ => rfl⟩
  | some n => exact ⟨fun z => (nomatch z), fun z => (nomatch z)⟩
theorem oV_int (o : Option Nat) (n : Nat) : (oV o = .int (n : Int)) ↔ o = some n := by
  cases o with
  | none => exact ⟨fun z => (nomatch z), fun z => (nomatch z)⟩
  | some k => exact ⟨fun z => by have := V.int.inj z; rw [Int.ofNat.inj this], fun z => by rw [Option.some.inj z]; rfl⟩
theorem scal_oo (o : Option Nat) (i : Int) : scal (oV o) (.int i) = true := by cases o <;> rfl
theorem scal_on (o : Option Nat) : scal (oV o) .non = true := by cases o <;> rfl
theorem flat_o (o : Option Nat) : flatV (oV o) = true := by cases o <;> rfl

/-- the words of the refusals -/
inductive Wd where
  | noTable | noHall | noAgent | noLock | noHouse | noLetter | stopped | waits | holds | notHeld | up
  deriving DecidableEq
def Wd.str : Wd → Str
  | .noTable => "NoTable" | .noHall => "NoHall" | .noAgent => "NoAgent" | .noLock => "NoLock" | .noHouse => "NoHouse" | .noLetter => "NoLetter"
  | .stopped => "Stopped" | .waits => "Waits" | .holds => "Holds" | .notHeld => "NotHeld" | .up => "Up"
/-- the class of a refusal -/
def Wd.cls (K : PySem.W.Frag) (w : Wd) : Value := .ref (He.ga K w.str)

structure Tb where
  own : List (Option Nat)
  lin : List (List Nat)
  tim : List Nat
  wan : List (Option Nat)
  rou : List Nat
namespace Tb
def n (T : Tb) : Nat := T.wan.length
def m (T : Tb) : Nat := T.own.length
def ow (T : Tb) (l : Nat) : Option Nat := T.own.getD l none
def ln (T : Tb) (l : Nat) : List Nat := T.lin.getD l []
def ti (T : Tb) (l : Nat) : Nat := T.tim.getD l 0
def wa (T : Tb) (a : Nat) : Option Nat := T.wan.getD a none
def ro (T : Tb) (a : Nat) : Nat := T.rou.getD a 0
/-- sizes -/
structure Sz (T : Tb) : Prop where
  n1 : 1 ≤ T.n
  n8 : T.n ≤ 8
  m1 : 1 ≤ T.m
  m12 : T.m ≤ 12
  li : T.lin.length = T.m
  ti : T.tim.length = T.m
  ro : T.rou.length = T.n
def take (T : Tb) (a l : Nat) : Tb := { T with own := T.own.set l (some a), tim := T.tim.set l (T.ti l + 1) }
def free (T : Tb) (l : Nat) : Tb := { T with own := T.own.set l none }
def stop (T : Tb) (a : Nat) : Tb := { T with wan := T.wan.set a none }
def line (T : Tb) (l : Nat) (xs : List Nat) : Tb := { T with lin := T.lin.set l xs }
def wait (T : Tb) (a l : Nat) : Tb := { T with lin := T.lin.set l (T.ln l ++ [a]), wan := T.wan.set a (some l), rou := T.rou.set a (T.ro a + 1) }
/-- who holds a lock that is given -/
def pass (T : Tb) (l : Nat) : Tb := match T.ln l with
  | [] => T.free l
  | a :: r => (((T.free l).line l r).stop a).take a l
def heir (T : Tb) (l : Nat) : Option Nat := (T.ln l).head?
def held (T : Tb) (a : Nat) : List Nat := (List.range T.m).filter fun l => decide (T.ow l = some a)
def unwait (T : Tb) (a : Nat) : Tb := match T.wa a with
  | none => T
  | some l => (T.line l ((T.ln l).erase a)).stop a
def passAll : List Nat → Tb → List (Nat × Option Nat) × Tb
  | [], T => ([], T)
  | l :: r, T => let p := passAll r (T.pass l); ((l, T.heir l) :: p.1, p.2)
def leave (T : Tb) (a : Nat) : List (Nat × Option Nat) × Tb := passAll ((T.unwait a).held a) (T.unwait a)
def isA (T : Tb) (a : Int) : Prop := 0 ≤ a ∧ a < T.n
def isL (T : Tb) (l : Int) : Prop := 0 ≤ l ∧ l < T.m
instance (T : Tb) (a : Int) : Decidable (T.isA a) := by unfold isA; infer_instance
instance (T : Tb) (l : Int) : Decidable (T.isL l) := by unfold isL; infer_instance
/-- the refusal of an agent, a lock that there isn't -/
def fault (T : Tb) (a l : Int) : Option Wd := if T.isA a then (if T.isL l then none else some .noLock) else some .noAgent
def askR (T : Tb) (a l : Int) : Except Wd Bool × Tb := match T.fault a l with
  | some w => (.error w, T)
  | none => if T.wa a.toNat ≠ none then (.error .waits, T) else if T.ow l.toNat = some a.toNat then (.error .holds, T) else
    if T.ow l.toNat = none then (.ok true, T.take a.toNat l.toNat) else (.ok false, T.wait a.toNat l.toNat)
def giveR (T : Tb) (a l : Int) : Except Wd (Option Nat) × Tb := match T.fault a l with
  | some w => (.error w, T)
  | none => if T.wa a.toNat ≠ none then (.error .waits, T) else if T.ow l.toNat ≠ some a.toNat then (.error .notHeld, T) else (.ok (T.heir l.toNat), T.pass l.toNat)
def leaveR (T : Tb) (a : Int) : Except Wd (List (Nat × Option Nat)) × Tb := if T.isA a then (.ok (T.leave a.toNat).1, (T.leave a.toNat).2) else (.error .noAgent, T)
/-- a new table -/
def new (n m : Nat) : Tb := ⟨List.replicate m none, List.replicate m [], List.replicate m 0, List.replicate n none, List.replicate n 0⟩
end Tb

/-! ### sizes stay -/
namespace Tb
variable {T : Tb} {a l : Nat}
theorem Sz.congr {T' : Tb} (s : T.Sz) (h1 : T'.n = T.n) (h2 : T'.m = T.m) (h3 : T'.lin.length = T.lin.length) (h4 : T'.tim.length = T.tim.length) (h5 : T'.rou.length = T.rou.length) : T'.Sz :=
  ⟨h1 ▸ s.n1, h1 ▸ s.n8, h2 ▸ s.m1, h2 ▸ s.m12, by rw [h3, h2]; exact s.li, by rw [h4, h2]; exact s.ti, by rw [h5, h1]; exact s.ro⟩
theorem Sz.free (s : T.Sz) : (T.free l).Sz := s.congr rfl (by unfold Tb.m Tb.free; simp) rfl rfl rfl
theorem Sz.stop (s : T.Sz) : (T.stop a).Sz := s.congr (by unfold Tb.n Tb.stop; simp) rfl rfl rfl rfl
theorem Sz.line {xs : List Nat} (s : T.Sz) : (T.line l xs).Sz := s.congr rfl rfl (by unfold Tb.line; simp) rfl rfl
theorem Sz.take (s : T.Sz) : (T.take a l).Sz := s.congr rfl (by unfold Tb.m Tb.take; simp) rfl (by unfold Tb.take; simp) rfl
theorem Sz.wait (s : T.Sz) : (T.wait a l).Sz := s.congr (by unfold Tb.n Tb.wait; simp) rfl (by unfold Tb.wait; simp) rfl (by unfold Tb.wait; simp)
end Tb

/-! ### where a table stands -/
structure TA where
  p : Addr
  dx : Addr
  ow : Addr
  li : Addr
  ti : Addr
  wa : Addr
  ro : Addr
  ls : List Addr
/-- what may be written -/
def TA.foot (A : TA) : Addr → Prop := fun b => b ∈ A.ow :: A.ti :: A.wa :: A.ro :: A.ls
def TA.has (A : TA) : Addr → Prop := fun b => b ∈ A.p :: A.li :: A.ow :: A.ti :: A.wa :: A.ro :: A.ls
def TA.fs (A : TA) : List (Str × V) := [("owners", .ref A.ow), ("lines", .ref A.li), ("times", .ref A.ti), ("wants", .ref A.wa), ("rounds", .ref A.ro)]
structure TbAt (C : Addr) (H : Hp) (A : TA) (T : Tb) : Prop where
  ins : H A.p = some (.ins C A.dx A.fs)
  own : H A.ow = some (.lst (T.own.map oV))
  lin : H A.li = some (.lst (A.ls.map V.ref))
  tim : H A.ti = some (.lst (T.tim.map nV))
  wan : H A.wa = some (.lst (T.wan.map oV))
  rou : H A.ro = some (.lst (T.rou.map nV))
  each : ∀ i a, A.ls[i]? = some a → H a = some (.lst ((T.ln i).map nV))
  ll : A.ls.length = T.lin.length
  nd : (A.p :: A.li :: A.ow :: A.ti :: A.wa :: A.ro :: A.ls).Nodup
  sz : T.Sz
theorem TA.has_foot {A : TA} {b : Addr} (h : A.foot b) : A.has b := by
  unfold TA.foot at h
  unfold TA.has
  exact List.mem_cons_of_mem _ (List.mem_cons_of_mem _ h)
theorem lk_owners {A : TA} : A.fs.lookup ("owners" : Str) = some (V.ref A.ow) := by rfl
theorem lk_lines {A : TA} : A.fs.lookup ("lines" : Str) = some (V.ref A.li) := by rfl
theorem lk_times {A : TA} : A.fs.lookup ("times" : Str) = some (V.ref A.ti) := by rfl
theorem lk_wants {A : TA} : A.fs.lookup ("wants" : Str) = some (V.ref A.wa) := by rfl
theorem lk_rounds {A : TA} : A.fs.lookup ("rounds" : Str) = some (V.ref A.ro) := by rfl
/-- no method's name is a field's -/
theorem lk_not {A : TA} {m : Str} (h : ([("owners" : Str), "lines", "times", "wants", "rounds"].contains m) = false) : A.fs.lookup m = none := by
  unfold TA.fs
  simp only [List.contains_cons, List.contains_nil, Bool.or_eq_false_iff, Bool.or_false] at h
  obtain ⟨h1, h2, h3, h4, h5⟩ := h
  simp only [List.lookup, h1, h2, h3, h4, h5]

section
variable {C : Addr} {H H' : Hp} {A : TA} {T : Tb} {S : Addr → Prop} {K : PySem.W.Frag} {Q : VK} {QH : Hp → Prop}
theorem TbAt.fr (h : TbAt C H A T) (f : Fr S H H') (d : ∀ b, A.has b → ¬ S b) : TbAt C H' A T := by
  have m : ∀ b o, H b = some o → A.has b → H' b = some o := fun b o e hb => f.old b o e (d b hb)
  refine ⟨m _ _ h.ins ?_, m _ _ h.own ?_, m _ _ h.lin ?_, m _ _ h.tim ?_, m _ _ h.wan ?_, m _ _ h.rou ?_, fun i a e => m _ _ (h.each i a e) ?_, h.ll, h.nd, h.sz⟩
  all_goals unfold TA.has
  all_goals first | (simp; done) | skip
  exact List.mem_cons_of_mem _ (List.mem_cons_of_mem _ (List.mem_cons_of_mem _ (List.mem_cons_of_mem _ (List.mem_cons_of_mem _ (List.mem_cons_of_mem _ (List.mem_of_getElem? e))))))
theorem TbAt.fr0 (h : TbAt C H A T) (f : Fr No H H') : TbAt C H' A T := h.fr f fun _ _ z => z
theorem TbAt.old (h : TbAt C H A T) {b : Addr} (hb : A.has b) : ∃ o, H b = some o ∧ ∀ xs, o ≠ .tup xs := by
  unfold TA.has at hb
  simp only [List.mem_cons] at hb
  rcases hb with e | e | e | e | e | e | e
  · rw [e]; exact ⟨_, h.ins, fun xs z => by cases z⟩
  · rw [e]; exact ⟨_, h.lin, fun xs z => by cases z⟩
  · rw [e]; exact ⟨_, h.own, fun xs z => by cases z⟩
  · rw [e]; exact ⟨_, h.tim, fun xs z => by cases z⟩
  · rw [e]; exact ⟨_, h.wan, fun xs z => by cases z⟩
  · rw [e]; exact ⟨_, h.rou, fun xs z => by cases z⟩
  · obtain ⟨i, hi, e⟩ := List.mem_iff_getElem.mp e
    exact ⟨_, h.each i b (by rw [List.getElem?_eq_getElem hi, e]), fun xs z => by cases z⟩
theorem TbAt.put (h : TbAt C H A T) {b : Addr} {u : HO} (hb : A.foot b) : Fr A.foot H (upd H b u) := by
  obtain ⟨o, e, nt⟩ := h.old (TA.has_foot hb)
  exact (Fr.put e nt).mono fun c z => by rw [z]; exact hb
/-- the inequalities of the places -/
structure TA.Ne (A : TA) : Prop where
  pl : A.p ≠ A.li
  po : A.p ≠ A.ow
  pt : A.p ≠ A.ti
  pw : A.p ≠ A.wa
  pr : A.p ≠ A.ro
  ps : A.p ∉ A.ls
  lo : A.li ≠ A.ow
  lt : A.li ≠ A.ti
  lw : A.li ≠ A.wa
  lr : A.li ≠ A.ro
  ls : A.li ∉ A.ls
  ot : A.ow ≠ A.ti
  ow : A.ow ≠ A.wa
  or_ : A.ow ≠ A.ro
  os : A.ow ∉ A.ls
  tw : A.ti ≠ A.wa
  tr : A.ti ≠ A.ro
  ts : A.ti ∉ A.ls
  wr : A.wa ≠ A.ro
  ws : A.wa ∉ A.ls
  rs : A.ro ∉ A.ls
  nd : A.ls.Nodup
theorem TA.ne_of {A : TA} (nd : (A.p :: A.li :: A.ow :: A.ti :: A.wa :: A.ro :: A.ls).Nodup) : A.Ne := by
  simp only [List.nodup_cons, List.mem_cons, not_or] at nd
  obtain ⟨⟨p1, p2, p3, p4, p5, p6⟩, ⟨l1, l2, l3, l4, l5⟩, ⟨o1, o2, o3, o4⟩, ⟨t1, t2, t3⟩, ⟨w1, w2⟩, r1, n⟩ := nd
  exact ⟨p1, p2, p3, p4, p5, p6, l1, l2, l3, l4, l5, o1, o2, o3, o4, t1, t2, t3, w1, w2, r1, n⟩
theorem TbAt.ne (h : TbAt C H A T) : A.Ne := TA.ne_of h.nd
theorem ne_ls {x a : Addr} {ls : List Addr} {i : Nat} (h : x ∉ ls) (e : ls[i]? = some a) : a ≠ x := fun z => h (z ▸ List.mem_of_getElem? e)
theorem TbAt.uOwn (h : TbAt C H A T) {o : List (Option Nat)} (hl : o.length = T.own.length) : TbAt C (upd H A.ow (.lst (o.map oV))) A { T with own := o } := by
  have N := h.ne
  refine ⟨(upd_ne N.po).trans h.ins, upd_same, (upd_ne N.lo).trans h.lin, (upd_ne N.ot.symm).trans h.tim, (upd_ne N.ow.symm).trans h.wan, (upd_ne N.or_.symm).trans h.rou, fun i a e => (upd_ne (ne_ls N.os e)).trans (h.each i a e), h.ll, h.nd, h.sz.congr rfl hl rfl rfl rfl⟩
theorem TbAt.uTim (h : TbAt C H A T) {o : List Nat} (hl : o.length = T.tim.length) : TbAt C (upd H A.ti (.lst (o.map nV))) A { T with tim := o } := by
  have N := h.ne
  refine ⟨(upd_ne N.pt).trans h.ins, (upd_ne N.ot).trans h.own, (upd_ne N.lt).trans h.lin, upd_same, (upd_ne N.tw.symm).trans h.wan, (upd_ne N.tr.symm).trans h.rou, fun i a e => (upd_ne (ne_ls N.ts e)).trans (h.each i a e), h.ll, h.nd, h.sz.congr rfl rfl rfl hl rfl⟩
theorem TbAt.uWan (h : TbAt C H A T) {o : List (Option Nat)} (hl : o.length = T.wan.length) : TbAt C (upd H A.wa (.lst (o.map oV))) A { T with wan := o } := by
  have N := h.ne
  refine ⟨(upd_ne N.pw).trans h.ins, (upd_ne N.ow).trans h.own, (upd_ne N.lw).trans h.lin, (upd_ne N.tw).trans h.tim, upd_same, (upd_ne N.wr.symm).trans h.rou, fun i a e => (upd_ne (ne_ls N.ws e)).trans (h.each i a e), h.ll, h.nd, h.sz.congr hl rfl rfl rfl rfl⟩
theorem TbAt.uRou (h : TbAt C H A T) {o : List Nat} (hl : o.length = T.rou.length) : TbAt C (upd H A.ro (.lst (o.map nV))) A { T with rou := o } := by
  have N := h.ne
  refine ⟨(upd_ne N.pr).trans h.ins, (upd_ne N.or_).trans h.own, (upd_ne N.lr).trans h.lin, (upd_ne N.tr).trans h.tim, (upd_ne N.wr).trans h.wan, upd_same, fun i a e => (upd_ne (ne_ls N.rs e)).trans (h.each i a e), h.ll, h.nd, h.sz.congr rfl rfl rfl rfl hl⟩
theorem ln_line {l i : Nat} {xs : List Nat} (hl : l < T.lin.length) : (T.line l xs).ln i = if i = l then xs else T.ln i := by
  unfold Tb.line Tb.ln
  simp only [List.getD_eq_getElem?_getD, List.getElem?_set]
  by_cases e : l = i
  · rw [if_pos e, if_pos e.symm, if_pos hl]
    rfl
  · rw [if_neg e, if_neg (fun z => e z.symm)]
theorem TbAt.uLine (h : TbAt C H A T) {l : Nat} {a : Addr} {xs : List Nat} (e : A.ls[l]? = some a) : TbAt C (upd H a (.lst (xs.map nV))) A (T.line l xs) := by
  have N := h.ne
  have ma := List.mem_of_getElem? e
  have hl : l < T.lin.length := by rw [← h.ll]; exact (List.getElem?_eq_some_iff.mp e).1
  have nx : ∀ {x : Addr}, x ∉ A.ls → x ≠ a := fun hx z => hx (z ▸ ma)
  refine ⟨(upd_ne (nx N.ps)).trans h.ins, (upd_ne (nx N.os)).trans h.own, (upd_ne (nx N.ls)).trans h.lin, (upd_ne (nx N.ts)).trans h.tim, (upd_ne (nx N.ws)).trans h.wan, (upd_ne (nx N.rs)).trans h.rou, fun i b eb => ?_, by rw [h.ll]; unfold Tb.line; simp, h.nd, h.sz.line⟩
  rw [ln_line hl]
  by_cases z : i = l
  · rw [if_pos z]
    rw [z, e] at eb
    rw [← Option.some.inj eb, upd_same]
  · rw [if_neg z, upd_ne]
    · exact h.each i b eb
    · intro q
      rw [q] at eb
      exact z (nd_ix N.nd eb e)
/-! the attributes -/
structure TbTxt (K : PySem.W.Frag) (C : Addr) : Prop where
  c : Cls K C
  o : NoAttr K C "owners"
  l : NoAttr K C "lines"
  t : NoAttr K C "times"
  w : NoAttr K C "wants"
  r : NoAttr K C "rounds"
theorem r_owners (X : TbTxt K C) (h : TbAt C H A T) (q : Q (.ref A.ow) H) : FldOn K "owners" (.ref A.p) H Q := r_fldOn h.ins X.c X.o lk_owners q
theorem r_lines (X : TbTxt K C) (h : TbAt C H A T) (q : Q (.ref A.li) H) : FldOn K "lines" (.ref A.p) H Q := r_fldOn h.ins X.c X.l lk_lines q
theorem r_times (X : TbTxt K C) (h : TbAt C H A T) (q : Q (.ref A.ti) H) : FldOn K "times" (.ref A.p) H Q := r_fldOn h.ins X.c X.t lk_times q
theorem r_wants (X : TbTxt K C) (h : TbAt C H A T) (q : Q (.ref A.wa) H) : FldOn K "wants" (.ref A.p) H Q := r_fldOn h.ins X.c X.w lk_wants q
theorem r_rounds (X : TbTxt K C) (h : TbAt C H A T) (q : Q (.ref A.ro) H) : FldOn K "rounds" (.ref A.p) H Q := r_fldOn h.ins X.c X.r lk_rounds q
theorem r_tmeth {m : Str} {G : Prop} (h : TbAt C H A T) (hm : ([("owners" : Str), "lines", "times", "wants", "rounds"].contains m) = false) (g : G) : MethOn C m (.ref A.p) H G := r_methOn h.ins (lk_not hm) g
/-! the items -/
theorem getD_some {α : Type} {xs : List α} {i : Nat} {d : α} (h : i < xs.length) : xs[i]? = some (xs.getD i d) := by
  rw [List.getD_eq_getElem?_getD, List.getElem?_eq_getElem h]
  rfl
theorem map_at {α : Type} {f : α → V} {xs : List α} {i : Nat} {d : α} (h : i < xs.length) : (xs.map f)[i]? = some (f (xs.getD i d)) := by
  rw [List.getElem?_map, getD_some h]
  rfl
theorem r_ixl {a : Addr} {xs : List V} {i : Nat} {v : V} (h : H a = some (.lst xs)) (e : xs[i]? = some v) (q : Q v H) : rIxL K (.ref a) (.int (i : Int)) H Q := ⟨a, _, _, _, rfl, rfl, SqL.of h, atI_nat e, q⟩
theorem r_ixOwn (h : TbAt C H A T) {l : Nat} (hl : l < T.m) (q : Q (oV (T.ow l)) H) : rIxL K (.ref A.ow) (.int (l : Int)) H Q := r_ixl h.own (map_at hl) q
theorem r_ixTim (h : TbAt C H A T) {l : Nat} (hl : l < T.m) (q : Q (.int (T.ti l : Int)) H) : rIxL K (.ref A.ti) (.int (l : Int)) H Q := r_ixl h.tim (map_at (f := nV) (by rw [h.sz.ti]; exact hl)) q
theorem r_ixWan (h : TbAt C H A T) {l : Nat} (hl : l < T.n) (q : Q (oV (T.wa l)) H) : rIxL K (.ref A.wa) (.int (l : Int)) H Q := r_ixl h.wan (map_at hl) q
theorem r_ixRou (h : TbAt C H A T) {l : Nat} (hl : l < T.n) (q : Q (.int (T.ro l : Int)) H) : rIxL K (.ref A.ro) (.int (l : Int)) H Q := r_ixl h.rou (map_at (f := nV) (by rw [h.sz.ro]; exact hl)) q
theorem r_ixLin (h : TbAt C H A T) {l : Nat} (hl : l < T.m) (q : ∀ a, A.ls[l]? = some a → H a = some (.lst ((T.ln l).map nV)) → Q (.ref a) H) : rIxL K (.ref A.li) (.int (l : Int)) H Q := by
  have hl' : l < A.ls.length := by rw [h.ll, h.sz.li]; exact hl
  have e := List.getElem?_eq_getElem hl'
  exact r_ixl h.lin (by rw [List.getElem?_map, e]; rfl) (q _ e (h.each _ _ e))
theorem r_lenWan (h : TbAt C H A T) (q : Q (.int (T.n : Int)) H) : rLenQ K [V.ref A.wa] H Q := ⟨A.wa, _, rfl, .inl (SqL.of h.wan), by rw [List.length_map]; exact q⟩
theorem r_lenOwn (h : TbAt C H A T) (q : Q (.int (T.m : Int)) H) : rLenQ K [V.ref A.ow] H Q := ⟨A.ow, _, rfl, .inl (SqL.of h.own), by rw [List.length_map]; exact q⟩
/-! the stores -/
theorem map_set {α : Type} {f : α → V} {xs : List α} {i : Nat} {x : α} : (xs.map f).set i (f x) = (xs.set i x).map f := List.map_set.symm
theorem ixN_nat {n j : Nat} (hj : j < n) : ixN n (j : Int) = some j := by
  unfold ixN
  rw [if_pos (by omega), if_pos (by omega)]
  simp
theorem r_setl {a : Addr} {xs : List V} {i : Nat} {v : V} (h : H a = some (.lst xs)) (hi : i < xs.length) (q : QH (upd H a (.lst (xs.set i v)))) : rSetL (.ref a) (.int (i : Int)) v H QH := ⟨a, xs, _, i, rfl, rfl, h, ixN_nat hi, q⟩
theorem r_setOwn (h : TbAt C H A T) {l : Nat} (hl : l < T.m) (o : Option Nat) (q : ∀ H', TbAt C H' A { T with own := T.own.set l o } → Fr A.foot H H' → QH H') : rSetL (.ref A.ow) (.int (l : Int)) (oV o) H QH := by
  refine r_setl h.own (by rw [List.length_map]; exact hl) (q _ ?_ (h.put (by simp [TA.foot])))
  rw [map_set]
  exact h.uOwn (by simp)
theorem r_setTim (h : TbAt C H A T) {l : Nat} (hl : l < T.m) (o : Nat) (q : ∀ H', TbAt C H' A { T with tim := T.tim.set l o } → Fr A.foot H H' → QH H') : rSetL (.ref A.ti) (.int (l : Int)) (nV o) H QH := by
  refine r_setl h.tim (by rw [List.length_map, h.sz.ti]; exact hl) (q _ ?_ (h.put (by simp [TA.foot])))
  rw [map_set]
  exact h.uTim (by simp)
theorem r_setWan (h : TbAt C H A T) {l : Nat} (hl : l < T.n) (o : Option Nat) (q : ∀ H', TbAt C H' A { T with wan := T.wan.set l o } → Fr A.foot H H' → QH H') : rSetL (.ref A.wa) (.int (l : Int)) (oV o) H QH := by
  refine r_setl h.wan (by rw [List.length_map]; exact hl) (q _ ?_ (h.put (by simp [TA.foot])))
  rw [map_set]
  exact h.uWan (by simp)
theorem r_setRou (h : TbAt C H A T) {l : Nat} (hl : l < T.n) (o : Nat) (q : ∀ H', TbAt C H' A { T with rou := T.rou.set l o } → Fr A.foot H H' → QH H') : rSetL (.ref A.ro) (.int (l : Int)) (nV o) H QH := by
  refine r_setl h.rou (by rw [List.length_map, h.sz.ro]; exact hl) (q _ ?_ (h.put (by simp [TA.foot])))
  rw [map_set]
  exact h.uRou (by simp)
end

/-! ### what holds of a table between its deeds -/
namespace Tb
structure Wf (T : Tb) : Prop where
  sz : T.Sz
  wl : ∀ a l, T.wa a = some l → l < T.m ∧ a ∈ T.ln l
  lw : ∀ l a, a ∈ T.ln l → a < T.n ∧ T.wa a = some l
  nd : ∀ l, (T.ln l).Nodup
  oh : ∀ l a, T.ow l = some a → a < T.n
  lo : ∀ l, T.ln l ≠ [] → T.ow l ≠ none
  no : ∀ a l, T.wa a = some l → T.ow l ≠ some a
variable {T : Tb}
theorem nodup_le {xs : List Nat} {n : Nat} (h : xs.Nodup) (b : ∀ x ∈ xs, x < n) : xs.length ≤ n := by
  have := h.length_le_of_subset (l₂ := List.range n) fun x hx => List.mem_range.mpr (b x hx)
  rwa [List.length_range] at this
theorem Wf.len (W : T.Wf) (l : Nat) : (T.ln l).length ≤ 8 := Nat.le_trans (nodup_le (W.nd l) fun x hx => (W.lw l x hx).1) W.sz.n8
theorem fault_none {a l : Int} (h : T.fault a l = none) : ∃ x y : Nat, a = (x : Int) ∧ l = (y : Int) ∧ x < T.n ∧ y < T.m := by
  unfold fault at h
  by_cases h1 : T.isA a
  · rw [if_pos h1] at h
    by_cases h2 : T.isL l
    · obtain ⟨a1, a2⟩ := h1
      obtain ⟨l1, l2⟩ := h2
      exact ⟨a.toNat, l.toNat, by omega, by omega, by omega, by omega⟩
    · rw [if_neg h2] at h
      cases h
  · rw [if_neg h1] at h
    cases h
theorem isA_nat {a : Int} (h : T.isA a) : ∃ x : Nat, a = (x : Int) ∧ x < T.n := ⟨a.toNat, by have := h.1; omega, by have := h.1; have := h.2; omega⟩
theorem isL_nat {a : Int} (h : T.isL a) : ∃ x : Nat, a = (x : Int) ∧ x < T.m := ⟨a.toNat, by have := h.1; omega, by have := h.1; have := h.2; omega⟩
theorem isA_of {a : Nat} (h : a < T.n) : T.isA (a : Int) := ⟨by omega, by omega⟩
theorem isL_of {a : Nat} (h : a < T.m) : T.isL (a : Int) := ⟨by omega, by omega⟩
theorem fault_of {a l : Nat} (ha : a < T.n) (hl : l < T.m) : T.fault (a : Int) (l : Int) = none := by
  unfold fault
  rw [if_pos (isA_of ha), if_pos (isL_of hl)]
theorem askR_nat {a l : Nat} (ha : a < T.n) (hl : l < T.m) : T.askR (a : Int) (l : Int) = if T.wa a ≠ none then (.error .waits, T) else if T.ow l = some a then (.error .holds, T) else
    if T.ow l = none then (.ok true, T.take a l) else (.ok false, T.wait a l) := by
  unfold askR
  rw [fault_of ha hl]
  simp only [Int.toNat_natCast]
theorem giveR_nat {a l : Nat} (ha : a < T.n) (hl : l < T.m) : T.giveR (a : Int) (l : Int) = if T.wa a ≠ none then (.error .waits, T) else if T.ow l ≠ some a then (.error .notHeld, T) else (.ok (T.heir l), T.pass l) := by
  unfold giveR
  rw [fault_of ha hl]
  simp only [Int.toNat_natCast]
theorem askR_err {a l : Int} {w : Wd} (h : T.fault a l = some w) : T.askR a l = (.error w, T) := by
  unfold askR
  rw [h]
theorem giveR_err {a l : Int} {w : Wd} (h : T.fault a l = some w) : T.giveR a l = (.error w, T) := by
  unfold giveR
  rw [h]
theorem leaveR_nat {a : Nat} (ha : a < T.n) : T.leaveR (a : Int) = (.ok (T.leave a).1, (T.leave a).2) := by
  unfold leaveR
  rw [if_pos (isA_of ha)]
  simp only [Int.toNat_natCast]
end Tb
section
variable {C : Addr} {H H' : Hp} {A : TA} {T : Tb} {S : Addr → Prop} {K : PySem.W.Frag} {Q : VK} {QH : Hp → Prop} {σ : L2.St}
theorem ls_foot {l : Nat} {a : Addr} (e : A.ls[l]? = some a) : A.foot a := by
  unfold TA.foot
  simp only [List.mem_cons]
  exact .inr (.inr (.inr (.inr (List.mem_of_getElem? e))))
/-- the first of a line goes -/
theorem r_popLine (h : TbAt C H A T) {l : Nat} {a : Addr} {x : Nat} {r : List Nat} (e : A.ls[l]? = some a) (hx : T.ln l = x :: r) (q : ∀ H', TbAt C H' A (T.line l r) → Fr A.foot H H' → Q (.int (x : Int)) H') :
    rPopAt (.ref a) [.int 0] H Q := by
  have he := h.each _ _ e
  rw [hx] at he
  refine r_popAt (i := 0) he rfl (by decide) (q _ ?_ (h.put (ls_foot e)))
  exact h.uLine e
/-- one more in a line -/
theorem r_appLine (h : TbAt C H A T) (hw : (T.ln l).length ≤ 8) {a : Addr} {x : Nat} (e : A.ls[l]? = some a) (q : ∀ H', TbAt C H' A (T.line l (T.ln l ++ [x])) → Fr A.foot H H' → Q .non H') :
    rAppend (.ref a) [.int (x : Int)] H Q := by
  refine r_append (h.each _ _ e) (by rw [List.length_map]; omega) ?_
  have en : ((T.ln l).map nV ++ [V.int (x : Int)]) = (T.ln l ++ [x]).map nV := by
    rw [List.map_append]
    rfl
  rw [en]
  exact q _ (h.uLine e) (h.put (ls_foot e))
theorem map_eraseIdx {α β : Type} {f : α → β} : ∀ {xs : List α} {j : Nat}, (xs.map f).eraseIdx j = (xs.eraseIdx j).map f
  | [], _ => by simp
  | _ :: _, 0 => rfl
  | x :: r, j + 1 => by
    show f x :: (r.map f).eraseIdx j = f x :: (r.eraseIdx j).map f
    rw [map_eraseIdx]
theorem first_at : ∀ {xs : List Nat} {x : Nat}, x ∈ xs → ∃ j, xs[j]? = some x ∧ (∀ m, m < j → xs[m]? ≠ some x) ∧ xs.eraseIdx j = xs.erase x
  | [], x, h => by cases h
  | y :: r, x, h => by
    by_cases e : y = x
    · subst e
      exact ⟨0, rfl, fun m hm => absurd hm (Nat.not_lt_zero m), by simp⟩
    · have hr : x ∈ r := by
        rcases List.mem_cons.mp h with z | z
        · exact absurd z.symm e
        · exact z
      obtain ⟨j, h1, h2, h3⟩ := first_at hr
      refine ⟨j + 1, by simpa using h1, fun m hm => ?_, ?_⟩
      · cases m with
        | zero => simpa using e
        | succ m => simpa using h2 m (by omega)
      · rw [List.erase_cons_tail (by simpa using e), List.eraseIdx_cons_succ, h3]
/-- one goes out of a line -/
theorem r_remLine (h : TbAt C H A T) {l : Nat} {a : Addr} {x : Nat} (e : A.ls[l]? = some a) (hx : x ∈ T.ln l) (q : ∀ H', TbAt C H' A (T.line l ((T.ln l).erase x)) → Fr A.foot H H' → Q .non H') :
    rRemI (.ref a) [.int (x : Int)] H Q := by
  have he := h.each _ _ e
  obtain ⟨j, hat, hfirst, hera⟩ := first_at hx
  have e1 : ∀ xs : List Nat, (xs.map fun n : Nat => (n : Int)).map V.int = xs.map nV := fun xs => by
    rw [List.map_map]
    rfl
  refine ⟨a, (T.ln l).map fun n : Nat => (n : Int), (x : Int), j, rfl, rfl, by rw [e1]; exact he, by rw [List.getElem?_map, hat]; rfl, fun m hm z => ?_, ?_⟩
  · rw [List.getElem?_map] at z
    cases q : (T.ln l)[m]? with
    | none => rw [q] at z; cases z
    | some y =>
      rw [q] at z
      have z2 : (y : Int) = (x : Int) := Option.some.inj z
      exact hfirst m hm (by rw [q]; congr 1; omega)
  · have e2 : ((T.ln l).map fun n : Nat => (n : Int)).eraseIdx j = ((T.ln l).erase x).map fun n : Nat => (n : Int) := by
      rw [← hera, map_eraseIdx]
    rw [e2, e1]
    exact q _ (h.uLine e) (h.put (ls_foot e))
theorem nats_dp {xs : List Nat} {a : Addr} (h : H a = some (.lst (xs.map nV))) : Dp K H (.ref a) (.list (xs.map fun x : Nat => PyData.int (x : Int))) := by
  refine .lst (SqL.of h) ?_
  have := (int_td H (xs.map fun x : Nat => (x : Int))).dp (K := K)
  rw [List.map_map, List.map_map] at this
  exact this
theorem nats_cmp (xs : List Nat) : CmpAll (xs.map fun x : Nat => PyData.int (x : Int)) := CmpAll.of fun d hd => by
  obtain ⟨x, _, e⟩ := List.mem_map.mp hd
  rw [← e]
  exact ⟨by simp [PyData.canLay0], by simp [PyData.depth]⟩
theorem nats_nil {xs : List Nat} : (xs.map (fun x : Nat => PyData.int (x : Int)) = []) ↔ xs = [] := by simp
end
end AL

namespace AL
open PySem PySem.Spec PyProof.Rows L2
/-! # tables: what the deeds leave true (no program in sight) -/
theorem getD_set {α : Type} {xs : List α} {i j : Nat} {v d : α} : (xs.set i v).getD j d = if i = j ∧ i < xs.length then v else xs.getD j d := by
  simp only [List.getD_eq_getElem?_getD, List.getElem?_set]
  by_cases e : i = j
  · subst e
    by_cases h : i < xs.length
    · simp [h]
    · simp [h]
  · simp [e]
namespace Tb
variable {T : Tb} {a b l k : Nat}
theorem ow_lt {x : Nat} (h : T.ow l = some x) : l < T.m := by
  unfold ow at h
  by_cases q : l < T.own.length
  · exact q
  · rw [List.getD_eq_getElem?_getD, List.getElem?_eq_none (by omega)] at h
    cases h
theorem wa_lt {x : Nat} (h : T.wa a = some x) : a < T.n := by
  unfold wa at h
  by_cases q : a < T.wan.length
  · exact q
  · rw [List.getD_eq_getElem?_getD, List.getElem?_eq_none (by omega)] at h
    cases h
theorem ln_lt {x : Nat} (h : x ∈ T.ln l) : l < T.lin.length := by
  unfold ln at h
  by_cases q : l < T.lin.length
  · exact q
  · rw [List.getD_eq_getElem?_getD, List.getElem?_eq_none (by omega)] at h
    cases h
theorem take_n : (T.take a l).n = T.n := rfl
theorem take_m : (T.take a l).m = T.m := by unfold m take; simp
theorem take_ow : (T.take a l).ow k = if l = k ∧ l < T.m then some a else T.ow k := getD_set
theorem take_ln : (T.take a l).ln k = T.ln k := rfl
theorem take_wa : (T.take a l).wa b = T.wa b := rfl
theorem take_ro : (T.take a l).ro b = T.ro b := rfl
theorem take_ti : (T.take a l).ti k = if l = k ∧ l < T.tim.length then T.ti l + 1 else T.ti k := getD_set
theorem free_n : (T.free l).n = T.n := rfl
theorem free_m : (T.free l).m = T.m := by unfold m free; simp
theorem free_ow : (T.free l).ow k = if l = k ∧ l < T.m then none else T.ow k := getD_set
theorem free_ln : (T.free l).ln k = T.ln k := rfl
theorem free_wa : (T.free l).wa b = T.wa b := rfl
theorem stop_n : (T.stop a).n = T.n := by unfold n stop; simp
theorem stop_m : (T.stop a).m = T.m := rfl
theorem stop_ow : (T.stop a).ow k = T.ow k := rfl
theorem stop_ln : (T.stop a).ln k = T.ln k := rfl
theorem stop_wa : (T.stop a).wa b = if a = b ∧ a < T.n then none else T.wa b := getD_set
theorem line_n {xs : List Nat} : (T.line l xs).n = T.n := rfl
theorem line_m {xs : List Nat} : (T.line l xs).m = T.m := rfl
theorem line_ow {xs : List Nat} : (T.line l xs).ow k = T.ow k := rfl
theorem line_ln {xs : List Nat} : (T.line l xs).ln k = if l = k ∧ l < T.lin.length then xs else T.ln k := getD_set
theorem line_wa {xs : List Nat} : (T.line l xs).wa b = T.wa b := rfl
theorem wait_n : (T.wait a l).n = T.n := by unfold n wait; simp
theorem wait_m : (T.wait a l).m = T.m := rfl
theorem wait_ow : (T.wait a l).ow k = T.ow k := rfl
theorem wait_ln : (T.wait a l).ln k = if l = k ∧ l < T.lin.length then T.ln l ++ [a] else T.ln k := getD_set
theorem wait_wa : (T.wait a l).wa b = if a = b ∧ a < T.n then some l else T.wa b := getD_set
theorem wait_ro : (T.wait a l).ro b = if a = b ∧ a < T.rou.length then T.ro a + 1 else T.ro b := getD_set

theorem Wf.take (W : T.Wf) (ha : a < T.n) (hf : T.ow l = none) : (T.take a l).Wf where
  sz := W.sz.take
  wl := fun b k h => by rw [take_m]; exact W.wl b k h
  lw := fun k b h => W.lw k b h
  nd := fun k => W.nd k
  oh := fun k b h => by
    rw [take_ow] at h
    split at h
    · rw [← Option.some.inj h]; exact ha
    · exact W.oh k b h
  lo := fun k h => by
    rw [take_ow]
    split
    · simp
    · exact W.lo k h
  no := fun b k h => by
    rw [take_ow]
    split
    · rename_i q
      intro z
      have e := (W.wl b k h).2
      rw [← q.1] at e
      exact W.lo l (List.ne_nil_of_mem e) hf
    · exact W.no b k h
theorem Wf.wait (W : T.Wf) (ha : a < T.n) (hl : l < T.m) (hw : T.wa a = none) (h1 : T.ow l ≠ none) (h2 : T.ow l ≠ some a) : (T.wait a l).Wf where
  sz := W.sz.wait
  wl := fun b k h => by
    rw [wait_wa] at h
    rw [wait_m, wait_ln]
    split at h
    · rename_i q
      have e := Option.some.inj h
      subst e
      have hl' : l < T.lin.length := by rw [W.sz.li]; exact hl
      rw [if_pos ⟨rfl, hl'⟩]
      exact ⟨hl, by rw [← q.1]; simp⟩
    · obtain ⟨q1, q2⟩ := W.wl b k h
      refine ⟨q1, ?_⟩
      split
      · rename_i q
        rw [← q.1] at q2
        exact List.mem_append_left _ q2
      · exact q2
  lw := fun k b h => by
    rw [wait_ln] at h
    rw [wait_n, wait_wa]
    split at h
    · rename_i q
      rcases List.mem_append.mp h with z | z
      · obtain ⟨q1, q2⟩ := W.lw l b z
        refine ⟨q1, ?_⟩
        have ne : a ≠ b := fun e => by rw [← e, hw] at q2; cases q2
        rw [if_neg (fun z => ne z.1), q2, q.1]
      · have e : b = a := by simpa using z
        subst e
        rw [if_pos ⟨rfl, ha⟩, q.1]
        exact ⟨ha, rfl⟩
    · obtain ⟨q1, q2⟩ := W.lw k b h
      refine ⟨q1, ?_⟩
      have ne : a ≠ b := fun e => by rw [← e, hw] at q2; cases q2
      rw [if_neg (fun z => ne z.1), q2]
  nd := fun k => by
    rw [wait_ln]
    split
    · rw [List.nodup_append]
      refine ⟨W.nd l, by simp, fun x hx y hy => ?_⟩
      have e : y = a := by simpa using hy
      subst e
      intro z
      subst z
      have := (W.lw l x hx).2
      rw [hw] at this
      cases this
    · exact W.nd k
  oh := fun k b h => by rw [wait_n]; exact W.oh k b h
  lo := fun k h => by
    rw [wait_ln] at h
    rw [wait_ow]
    split at h
    · rename_i q
      rw [← q.1]
      exact h1
    · exact W.lo k h
  no := fun b k h => by
    rw [wait_wa] at h
    rw [wait_ow]
    split at h
    · rename_i q
      rw [← Option.some.inj h, ← q.1]
      exact h2
    · exact W.no b k h
theorem pass_nil (h : T.ln l = []) : T.pass l = T.free l := by unfold pass; rw [h]
theorem pass_cons {x : Nat} {r : List Nat} (h : T.ln l = x :: r) : T.pass l = (((T.free l).line l r).stop x).take x l := by unfold pass; rw [h]
theorem pass_n : (T.pass l).n = T.n := by
  cases h : T.ln l with
  | nil => rw [pass_nil h]; rfl
  | cons x r => rw [pass_cons h, take_n, stop_n]; rfl
theorem pass_m : (T.pass l).m = T.m := by
  cases h : T.ln l with
  | nil => rw [pass_nil h, free_m]
  | cons x r => rw [pass_cons h, take_m, stop_m, line_m, free_m]
theorem pass_ow (hl : l < T.m) : (T.pass l).ow k = if l = k then T.heir l else T.ow k := by
  cases h : T.ln l with
  | nil =>
    rw [pass_nil h, free_ow]
    have e : T.heir l = none := by unfold heir; rw [h]; rfl
    rw [e]
    by_cases q : l = k
    · rw [if_pos ⟨q, hl⟩, if_pos q]
    · rw [if_neg (fun z => q z.1), if_neg q]
  | cons x r =>
    rw [pass_cons h, take_ow, stop_m, line_m, free_m, stop_ow, line_ow, free_ow]
    have e : T.heir l = some x := by unfold heir; rw [h]; rfl
    rw [e]
    by_cases q : l = k
    · rw [if_pos ⟨q, hl⟩, if_pos q]
    · rw [if_neg (fun z => q z.1), if_neg q, if_neg (fun z => q z.1)]
theorem pass_ln (hl : l < T.lin.length) : (T.pass l).ln k = if l = k then (T.ln l).tail else T.ln k := by
  cases h : T.ln l with
  | nil =>
    rw [pass_nil h, free_ln]
    by_cases q : l = k
    · rw [if_pos q, ← q, h]; rfl
    · rw [if_neg q]
  | cons x r =>
    rw [pass_cons h, take_ln, stop_ln, line_ln, free_ln]
    by_cases q : l = k
    · rw [if_pos ⟨q, hl⟩, if_pos q]; rfl
    · rw [if_neg (fun z => q z.1), if_neg q]
theorem pass_wa (W : T.Wf) : (T.pass l).wa b = if T.heir l = some b then none else T.wa b := by
  cases h : T.ln l with
  | nil =>
    have e : T.heir l = none := by unfold heir; rw [h]; rfl
    rw [pass_nil h, free_wa, e]
    simp
  | cons x r =>
    have e : T.heir l = some x := by unfold heir; rw [h]; rfl
    rw [pass_cons h, take_wa, stop_wa, line_wa, free_wa, line_n, free_n, e]
    have hx : x < T.n := (W.lw l x (by rw [h]; exact List.mem_cons_self)).1
    by_cases q : x = b
    · rw [if_pos ⟨q, hx⟩, if_pos (by rw [q])]
    · rw [if_neg (fun z => q z.1), if_neg (fun z => q (Option.some.inj z))]
theorem pass_ro : (T.pass l).ro b = T.ro b := by
  cases h : T.ln l with
  | nil => rw [pass_nil h]; rfl
  | cons x r => rw [pass_cons h]; rfl
theorem Sz.pass (s : T.Sz) : (T.pass l).Sz := by
  cases h : T.ln l with
  | nil => rw [pass_nil h]; exact s.free
  | cons x r => rw [pass_cons h]; exact s.free.line.stop.take
theorem heir_mem (h : T.heir l = some a) : a ∈ T.ln l := by
  unfold heir at h
  cases e : T.ln l with
  | nil => rw [e] at h; cases h
  | cons x r => rw [e] at h; rw [← Option.some.inj h]; exact List.mem_cons_self
theorem heir_none (h : T.heir l = none) : T.ln l = [] := by
  unfold heir at h
  cases e : T.ln l with
  | nil => rfl
  | cons x r => rw [e] at h; cases h
theorem Wf.pass (W : T.Wf) (hl : l < T.m) : (T.pass l).Wf := by
  have hl' : l < T.lin.length := by rw [W.sz.li]; exact hl
  refine ⟨W.sz.pass, fun b k h => ?_, fun k b h => ?_, fun k => ?_, fun k b h => ?_, fun k h => ?_, fun b k h => ?_⟩
  · rw [pass_wa W] at h
    rw [pass_m, pass_ln hl']
    split at h
    · cases h
    · rename_i q
      obtain ⟨q1, q2⟩ := W.wl b k h
      refine ⟨q1, ?_⟩
      split
      · rename_i e
        subst e
        unfold heir at q
        cases e : T.ln l with
        | nil => rw [e] at q2; cases q2
        | cons x r =>
          rw [e] at q2 q
          rcases List.mem_cons.mp q2 with z | z
          · exact absurd (by rw [z]; rfl) q
          · exact z
      · exact q2
  · rw [pass_ln hl'] at h
    rw [pass_n, pass_wa W]
    split at h
    · rename_i e
      subst e
      have hm := List.mem_of_mem_tail h
      obtain ⟨q1, q2⟩ := W.lw l b hm
      refine ⟨q1, ?_⟩
      have nd := W.nd l
      rw [if_neg, q2]
      intro z
      unfold heir at z
      cases e : T.ln l with
      | nil => rw [e] at h; cases h
      | cons x r =>
        rw [e] at h z nd
        have ex : x = b := Option.some.inj z
        subst ex
        exact (List.nodup_cons.mp nd).1 h
    · rename_i ne
      obtain ⟨q1, q2⟩ := W.lw k b h
      refine ⟨q1, ?_⟩
      rw [if_neg, q2]
      intro z
      have := (W.lw l b (heir_mem z)).2
      rw [q2] at this
      exact ne (Option.some.inj this).symm
  · rw [pass_ln hl']
    split
    · exact (W.nd l).sublist (List.tail_sublist _)
    · exact W.nd k
  · rw [pass_ow hl] at h
    rw [pass_n]
    split at h
    · exact (W.lw l b (heir_mem h)).1
    · exact W.oh k b h
  · rw [pass_ln hl'] at h
    rw [pass_ow hl]
    split
    · rename_i e
      rw [if_pos e] at h
      intro z
      rw [heir_none z] at h
      exact h rfl
    · rename_i e
      rw [if_neg e] at h
      exact W.lo k h
  · rw [pass_wa W] at h
    rw [pass_ow hl]
    split at h
    · cases h
    · rename_i q
      split
      · exact q
      · exact W.no b k h
theorem unwait_none (h : T.wa a = none) : T.unwait a = T := by unfold unwait; rw [h]
theorem unwait_some (h : T.wa a = some l) : T.unwait a = (T.line l ((T.ln l).erase a)).stop a := by unfold unwait; rw [h]
theorem unwait_n : (T.unwait a).n = T.n := by
  cases h : T.wa a with
  | none => rw [unwait_none h]
  | some l => rw [unwait_some h, stop_n]; rfl
theorem unwait_m : (T.unwait a).m = T.m := by
  cases h : T.wa a with
  | none => rw [unwait_none h]
  | some l => rw [unwait_some h]; rfl
theorem unwait_ow : (T.unwait a).ow k = T.ow k := by
  cases h : T.wa a with
  | none => rw [unwait_none h]
  | some l => rw [unwait_some h]; rfl
theorem unwait_ro : (T.unwait a).ro k = T.ro k := by
  cases h : T.wa a with
  | none => rw [unwait_none h]
  | some l => rw [unwait_some h]; rfl
theorem unwait_wa (ha : a < T.n) : (T.unwait a).wa b = if a = b then none else T.wa b := by
  cases h : T.wa a with
  | none =>
    rw [unwait_none h]
    by_cases q : a = b
    · rw [if_pos q, ← q, h]
    · rw [if_neg q]
  | some l =>
    rw [unwait_some h, stop_wa, line_wa, line_n]
    by_cases q : a = b
    · rw [if_pos ⟨q, ha⟩, if_pos q]
    · rw [if_neg (fun z => q z.1), if_neg q]
theorem Wf.unwait (W : T.Wf) (ha : a < T.n) : (T.unwait a).Wf := by
  cases h : T.wa a with
  | none => rw [unwait_none h]; exact W
  | some l =>
    obtain ⟨hl, hm⟩ := W.wl a l h
    have hl' : l < T.lin.length := by rw [W.sz.li]; exact hl
    rw [unwait_some h]
    refine ⟨W.sz.line.stop, fun b k hb => ?_, fun k b hb => ?_, fun k => ?_, fun k b hb => ?_, fun k hb => ?_, fun b k hb => ?_⟩
    · rw [stop_wa, line_wa, line_n] at hb
      rw [stop_m, line_m, stop_ln, line_ln]
      split at hb
      · cases hb
      · rename_i q
        have ne : a ≠ b := fun e => q ⟨e, ha⟩
        obtain ⟨q1, q2⟩ := W.wl b k hb
        refine ⟨q1, ?_⟩
        split
        · rename_i e
          rw [← e.1] at q2
          exact (List.mem_erase_of_ne (fun z => ne z.symm)).mpr q2
        · exact q2
    · rw [stop_ln, line_ln] at hb
      rw [stop_n, line_n, stop_wa, line_wa, line_n]
      split at hb
      · rename_i e
        obtain ⟨q1, q2⟩ := (W.nd l).mem_erase_iff.mp hb
        obtain ⟨q3, q4⟩ := W.lw l b q2
        rw [if_neg (fun z => q1 z.1.symm), q4, e.1]
        exact ⟨q3, rfl⟩
      · rename_i e
        obtain ⟨q3, q4⟩ := W.lw k b hb
        refine ⟨q3, ?_⟩
        rw [if_neg, q4]
        intro z
        rw [← z.1, h] at q4
        exact e ⟨Option.some.inj q4, hl'⟩
    · rw [stop_ln, line_ln]
      split
      · exact (W.nd l).erase a
      · exact W.nd k
    · rw [stop_n, line_n]
      exact W.oh k b hb
    · rw [stop_ln, line_ln] at hb
      rw [stop_ow, line_ow]
      split at hb
      · rename_i e
        rw [← e.1]
        exact W.lo l (List.ne_nil_of_mem hm)
      · exact W.lo k hb
    · rw [stop_wa, line_wa, line_n] at hb
      rw [stop_ow, line_ow]
      split at hb
      · cases hb
      · exact W.no b k hb
theorem passAll_snoc : ∀ (ls : List Nat) (T : Tb) (l : Nat), passAll (ls ++ [l]) T = ((passAll ls T).1 ++ [(l, (passAll ls T).2.heir l)], (passAll ls T).2.pass l)
  | [], T, l => rfl
  | k :: r, T, l => by
    have ih := passAll_snoc r (T.pass k) l
    show (let p := passAll (r ++ [l]) (T.pass k); ((k, T.heir k) :: p.1, p.2)) = _
    rw [ih]
    rfl
theorem passAll_len : ∀ (ls : List Nat) (T : Tb), (passAll ls T).1.length = ls.length
  | [], T => rfl
  | k :: r, T => by
    show (passAll r (T.pass k)).1.length + 1 = r.length + 1
    rw [passAll_len r]
theorem passAll_n : ∀ (ls : List Nat) (T : Tb), (passAll ls T).2.n = T.n
  | [], T => rfl
  | k :: r, T => by
    show (passAll r (T.pass k)).2.n = T.n
    rw [passAll_n r, pass_n]
theorem passAll_m : ∀ (ls : List Nat) (T : Tb), (passAll ls T).2.m = T.m
  | [], T => rfl
  | k :: r, T => by
    show (passAll r (T.pass k)).2.m = T.m
    rw [passAll_m r, pass_m]
theorem passAll_ro : ∀ (ls : List Nat) (T : Tb) (b : Nat), (passAll ls T).2.ro b = T.ro b
  | [], T, b => rfl
  | k :: r, T, b => by
    show (passAll r (T.pass k)).2.ro b = T.ro b
    rw [passAll_ro r, pass_ro]
theorem Wf.passAll : ∀ (ls : List Nat) {T : Tb}, T.Wf → (∀ l ∈ ls, l < T.m) → (passAll ls T).2.Wf
  | [], T, W, _ => W
  | k :: r, T, W, h => Wf.passAll r (W.pass (h k List.mem_cons_self)) (fun l hl => by rw [pass_m]; exact h l (List.mem_cons_of_mem _ hl))
theorem mem_held : l ∈ T.held a ↔ T.ow l = some a := by
  unfold held
  rw [List.mem_filter, List.mem_range, decide_eq_true_eq]
  exact ⟨fun z => z.2, fun z => ⟨ow_lt z, z⟩⟩
theorem held_lt {x : Nat} (h : x ∈ T.held a) : x < T.m := ow_lt (mem_held.mp h)
theorem held_len : (T.held a).length ≤ T.m := by
  unfold held
  have h := List.length_filter_le (fun l => decide (T.ow l = some a)) (List.range T.m)
  rw [List.length_range] at h
  exact h
theorem held_nd : (T.held a).Nodup := List.nodup_range.filter _
theorem Wf.leave (W : T.Wf) (ha : a < T.n) : (T.leave a).2.Wf := Wf.passAll _ (W.unwait ha) fun l hl => held_lt hl
theorem leave_n : (T.leave a).2.n = T.n := by unfold leave; rw [passAll_n, unwait_n]
theorem leave_m : (T.leave a).2.m = T.m := by unfold leave; rw [passAll_m, unwait_m]
theorem Wf.askR (W : T.Wf) {x y : Int} : (T.askR x y).2.Wf := by
  cases h : T.fault x y with
  | some w => rw [askR_err h]; exact W
  | none =>
    obtain ⟨a, l, rfl, rfl, ha, hl⟩ := fault_none h
    rw [askR_nat ha hl]
    split
    · exact W
    · rename_i q1
      split
      · exact W
      · rename_i q2
        split
        · rename_i q3
          exact W.take ha q3
        · rename_i q3
          exact W.wait ha hl (Decidable.not_not.mp q1) q3 q2
theorem Wf.giveR (W : T.Wf) {x y : Int} : (T.giveR x y).2.Wf := by
  cases h : T.fault x y with
  | some w => rw [giveR_err h]; exact W
  | none =>
    obtain ⟨a, l, rfl, rfl, ha, hl⟩ := fault_none h
    rw [giveR_nat ha hl]
    split
    · exact W
    · split
      · exact W
      · exact W.pass hl
theorem Wf.leaveR (W : T.Wf) {x : Int} : (T.leaveR x).2.Wf := by
  unfold Tb.leaveR
  split
  · rename_i h
    obtain ⟨a, rfl, ha⟩ := isA_nat h
    exact W.leave ha
  · exact W
theorem askR_n {x y : Int} : (T.askR x y).2.n = T.n := by
  unfold Tb.askR
  split
  · rfl
  · split
    · rfl
    · split
      · rfl
      · split
        · rfl
        · exact wait_n
theorem askR_m {x y : Int} : (T.askR x y).2.m = T.m := by
  unfold Tb.askR
  split
  · rfl
  · split
    · rfl
    · split
      · rfl
      · split
        · exact take_m
        · rfl
theorem giveR_n {x y : Int} : (T.giveR x y).2.n = T.n := by
  unfold Tb.giveR
  split
  · rfl
  · split
    · rfl
    · split
      · rfl
      · exact pass_n
theorem giveR_m {x y : Int} : (T.giveR x y).2.m = T.m := by
  unfold Tb.giveR
  split
  · rfl
  · split
    · rfl
    · split
      · rfl
      · exact pass_m
theorem leaveR_n {x : Int} : (T.leaveR x).2.n = T.n := by
  unfold Tb.leaveR
  split
  · exact leave_n
  · rfl
theorem leaveR_m {x : Int} : (T.leaveR x).2.m = T.m := by
  unfold Tb.leaveR
  split
  · exact leave_m
  · rfl
theorem new_n {n m : Nat} : (Tb.new n m).n = n := by unfold Tb.n Tb.new; simp
theorem new_m {n m : Nat} : (Tb.new n m).m = m := by unfold Tb.m Tb.new; simp
theorem getD_replicate {α : Type} {n i : Nat} {x : α} : (List.replicate n x).getD i x = x := by
  rw [List.getD_eq_getElem?_getD, List.getElem?_replicate]
  split <;> rfl
theorem Sz.new {n m : Nat} (h1 : 1 ≤ n) (h2 : n ≤ 8) (h3 : 1 ≤ m) (h4 : m ≤ 12) : (Tb.new n m).Sz := ⟨by rw [new_n]; exact h1, by rw [new_n]; exact h2, by rw [new_m]; exact h3, by rw [new_m]; exact h4, by rw [new_m]; simp [Tb.new], by rw [new_m]; simp [Tb.new], by rw [new_n]; simp [Tb.new]⟩
theorem new_wa {n m a : Nat} : (Tb.new n m).wa a = none := getD_replicate
theorem new_ow {n m a : Nat} : (Tb.new n m).ow a = none := getD_replicate
theorem new_ln {n m a : Nat} : (Tb.new n m).ln a = [] := getD_replicate
theorem new_ti {n m a : Nat} : (Tb.new n m).ti a = 0 := getD_replicate
theorem new_ro {n m a : Nat} : (Tb.new n m).ro a = 0 := getD_replicate
theorem Wf.new {n m : Nat} (s : (Tb.new n m).Sz) : (Tb.new n m).Wf := by
  refine ⟨s, fun b k h => ?_, fun k b h => ?_, fun k => ?_, fun k b h => ?_, fun k h => ?_, fun b k h => ?_⟩
  · rw [new_wa] at h; cases h
  · rw [new_ln] at h; cases h
  · rw [new_ln]; exact List.nodup_nil
  · rw [new_ow] at h; cases h
  · rw [new_ln] at h; exact absurd rfl h
  · rw [new_wa] at h; cases h
end Tb
end AL

namespace AL
open PySem PySem.Spec PyProof.Rows L2
/-! # the promises of a table's methods -/
abbrev tbC (K : PySem.W.Frag) : Addr := He.ga K "Table"
def eW (K : PySem.W.Frag) (w : Wd) (E : XK) (H : Hp) : Prop := E (.ref (He.ga K w.str)) none H
abbrev TbK (K : PySem.W.Frag) := TbAt (tbC K)
abbrev sp_t_need_agent (K : PySem.W.Frag) : Sp := sp2 fun x y H Q E => ∃ A T a, x = .ref A.p ∧ y = .int a ∧ TbK K H A T ∧ (T.isA a → Q .non H) ∧ (¬ T.isA a → eW K .noAgent E H)
abbrev sp_t_need_lock (K : PySem.W.Frag) : Sp := sp2 fun x y H Q E => ∃ A T a, x = .ref A.p ∧ y = .int a ∧ TbK K H A T ∧ (T.isL a → Q .non H) ∧ (¬ T.isL a → eW K .noLock E H)
abbrev sp_t_need_both (K : PySem.W.Frag) : Sp := sp3 fun x y z H Q E => ∃ A T a l, x = .ref A.p ∧ y = .int a ∧ z = .int l ∧ TbK K H A T ∧ (T.fault a l = none → Q .non H) ∧ (∀ w, T.fault a l = some w → eW K w E H)
abbrev sp_t_need_free_to (K : PySem.W.Frag) : Sp := sp2 fun x y H Q E => ∃ A T, ∃ a : Nat, x = .ref A.p ∧ y = .int (a : Int) ∧ TbK K H A T ∧ a < T.n ∧ (T.wa a = none → Q .non H) ∧ (T.wa a ≠ none → eW K .waits E H)
abbrev sp_t_take (K : PySem.W.Frag) : Sp := sp3 fun x y z H Q E => ∃ A T, ∃ a l : Nat, x = .ref A.p ∧ y = .int (a : Int) ∧ z = .int (l : Int) ∧ TbK K H A T ∧ l < T.m ∧ ∀ H', TbK K H' A (T.take a l) → Fr A.foot H H' → Q .non H'
abbrev sp_t_ask (K : PySem.W.Frag) : Sp := sp3 fun x y z H Q E => ∃ A T a l, x = .ref A.p ∧ y = .int a ∧ z = .int l ∧ TbK K H A T ∧ T.Wf ∧ (∀ w T', T.askR a l = (.error w, T') → eW K w E H) ∧
  ∀ b T', T.askR a l = (.ok b, T') → ∀ H', TbK K H' A T' → Fr A.foot H H' → Q (.bl b) H'
abbrev sp_t_pass_on (K : PySem.W.Frag) : Sp := sp2 fun x z H Q E => ∃ A T, ∃ l : Nat, x = .ref A.p ∧ z = .int (l : Int) ∧ TbK K H A T ∧ l < T.m ∧ (∀ a ∈ T.ln l, a < T.n) ∧ ∀ H', TbK K H' A (T.pass l) → Fr A.foot H H' → Q (oV (T.heir l)) H'
abbrev sp_t_give (K : PySem.W.Frag) : Sp := sp3 fun x y z H Q E => ∃ A T a l, x = .ref A.p ∧ y = .int a ∧ z = .int l ∧ TbK K H A T ∧ T.Wf ∧ (∀ w T', T.giveR a l = (.error w, T') → eW K w E H) ∧
  ∀ b T', T.giveR a l = (.ok b, T') → ∀ H', TbK K H' A T' → Fr A.foot H H' → Q (oV b) H'
def oD : Option Nat → PyData
  | none => .none
  | some n => .int (n : Int)
def gone (rs : List (Nat × Option Nat)) : List PyData := rs.map fun r => .tuple [.int (r.1 : Int), oD r.2]
abbrev sp_t_leave (K : PySem.W.Frag) : Sp := sp2 fun x y H Q E => ∃ A T a, x = .ref A.p ∧ y = .int a ∧ TbK K H A T ∧ T.Wf ∧ (∀ w T', T.leaveR a = (.error w, T') → eW K w E H) ∧
  ∀ b T', T.leaveR a = (.ok b, T') → ∀ p H', TbK K H' A T' → Fr A.foot H H' → H p = none → LsAt H' p (gone b) → Q (.ref p) H'
abbrev sp_t_waits (K : PySem.W.Frag) : Sp := sp2 fun x y H Q E => ∃ A T a, x = .ref A.p ∧ y = .int a ∧ TbK K H A T ∧ (T.isA a → Q (oV (T.wa a.toNat)) H) ∧ (¬ T.isA a → eW K .noAgent E H)
abbrev sp_t_held (K : PySem.W.Frag) : Sp := sp2 fun x y H Q E => ∃ A T a, x = .ref A.p ∧ y = .int a ∧ TbK K H A T ∧ (T.isA a → ∀ p H', H p = none → H' p = some (.lst ((T.held a.toNat).map nV)) → Fr No H H' → Q (.ref p) H') ∧ (¬ T.isA a → eW K .noAgent E H)
abbrev sp_t_wait_number (K : PySem.W.Frag) : Sp := sp2 fun x y H Q E => ∃ A T a, x = .ref A.p ∧ y = .int a ∧ TbK K H A T ∧ (T.isA a → Q (.int (T.ro a.toNat : Int)) H) ∧ (¬ T.isA a → eW K .noAgent E H)
abbrev sp_t_holder (K : PySem.W.Frag) : Sp := sp2 fun x y H Q E => ∃ A T a, x = .ref A.p ∧ y = .int a ∧ TbK K H A T ∧ (T.isL a → Q (oV (T.ow a.toNat)) H) ∧ (¬ T.isL a → eW K .noLock E H)
abbrev sp_t_queue (K : PySem.W.Frag) : Sp := sp2 fun x y H Q E => ∃ A T a, x = .ref A.p ∧ y = .int a ∧ TbK K H A T ∧ (T.isL a → ∀ p H', H p = none → H' p = some (.lst ((T.ln a.toNat).map nV)) → Fr No H H' → Q (.ref p) H') ∧ (¬ T.isL a → eW K .noLock E H)
abbrev sp_t_hold_number (K : PySem.W.Frag) : Sp := sp2 fun x y H Q E => ∃ A T a, x = .ref A.p ∧ y = .int a ∧ TbK K H A T ∧ (T.isL a → Q (.int (T.ti a.toNat : Int)) H) ∧ (¬ T.isL a → eW K .noLock E H)
abbrev sp_t_agents (K : PySem.W.Frag) : Sp := sp1 fun x H Q E => ∃ A T, x = .ref A.p ∧ TbK K H A T ∧ Q (.int (T.n : Int)) H
abbrev sp_t_locks (K : PySem.W.Frag) : Sp := sp1 fun x H Q E => ∃ A T, x = .ref A.p ∧ TbK K H A T ∧ Q (.int (T.m : Int)) H
def TbOk (a l : Int) : Prop := (1 ≤ a ∧ a ≤ 8) ∧ 1 ≤ l ∧ l ≤ 12
abbrev sp_t_init (K : PySem.W.Frag) : Sp := sp3 fun x y z H Q E => ∃ p dx a l, x = .ref p ∧ y = .int a ∧ z = .int l ∧ H p = some (.ins (tbC K) dx []) ∧ (¬ TbOk a l → eW K .noTable E H) ∧
  (TbOk a l → ∀ A H', A.p = p → TbK K H' A (Tb.new a.toNat l.toNat) → Fr (fun b => b = p) H H' → (∀ b, A.has b → b ≠ p → H b = none) → Q .non H')
abbrev sp_t_copied (K : PySem.W.Frag) : Sp := sp1 fun x H Q E => ∃ A T, x = .ref A.p ∧ TbK K H A T ∧ ∀ B H', TbK K H' B T → Fr No H H' → (∀ b, B.has b → H b = none) → Q (.ref B.p) H'

section
variable {K : PySem.W.Frag} {H H' : Hp} {A : TA} {T : Tb} {Q : VK}
theorem td_o (H : Hp) (o : Option Nat) : Td H (oV o) (oD o) := by
  cases o with
  | none => exact .non
  | some n => exact .int _
theorem td_two {p : Addr} {v u : V} {d e : PyData} (h : H p = some (.tup [v, u])) (h1 : Td H v d) (h2 : Td H u e) : Td H (.ref p) (.tuple [d, e]) := .tup h (.cons h1 (.cons h2 .nil))
theorem gone_snoc {rs : List (Nat × Option Nat)} {l : Nat} {o : Option Nat} : gone (rs ++ [(l, o)]) = gone rs ++ [.tuple [.int (l : Int), oD o]] := by
  unfold gone
  rw [List.map_append]
  rfl
theorem foot_old (h : TbK K H A T) {b : Addr} (hb : A.foot b) : H b ≠ none := by
  obtain ⟨o, e, _⟩ := h.old (TA.has_foot hb)
  rw [e]
  simp
theorem fresh_foot (h : TbK K H A T) {p : Addr} (hp : H p = none) : ¬ A.foot p := fun z => foot_old h z hp
theorem fresh_has (h : TbK K H A T) {p : Addr} (hp : H p = none) : ¬ A.has p := fun z => by
  obtain ⟨o, e, _⟩ := h.old z
  rw [hp] at e
  cases e
end
/-- what is given so far by one that leaves -/
structure LvW (K : PySem.W.Frag) (A : TA) (T : Tb) (H : Hp) (D : Addr) (ls : List Nat) (H' : Hp) : Prop where
  new : H D = none
  fr : Fr A.foot H H'
  at_ : LsAt H' D (gone (Tb.passAll ls T).1)
  tb : TbK K H' A (Tb.passAll ls T).2

/-- five lists are laid into an instance, one behind another -/
theorem five {C : Addr} {K : PySem.W.Frag} {T : Tb} {p dx ow li ti wa ro : Addr} {ls : List Addr} {c : Nat → List V} {H0 H1 H2 H3 H4 H5 H6 H7 H8 H9 H10 : Hp} {fs : List (Str × V)} (s : T.Sz)
    (hp : H0 p = some (.ins C dx fs)) (hf : putF "rounds" (.ref ro) (putF "wants" (.ref wa) (putF "times" (.ref ti) (putF "lines" (.ref li) (putF "owners" (.ref ow) fs)))) = (TA.mk p dx ow li ti wa ro ls).fs)
    (f0 : Fr No H0 H1) (n0 : H0 ow = none) (e0 : H1 ow = some (.lst (T.own.map oV)))
    (g1 : Fr (fun b => b = p) H1 H2)
    (w : LmW H2 li c ls H3) (hl : ls.length = T.lin.length) (hc : ∀ i, i < T.lin.length → c i = (T.ln i).map nV)
    (g2 : Fr (fun b => b = p) H3 H4)
    (f4 : Fr No H4 H5) (n4 : H4 ti = none) (e4 : H5 ti = some (.lst (T.tim.map nV)))
    (g3 : Fr (fun b => b = p) H5 H6)
    (f6 : Fr No H6 H7) (n6 : H6 wa = none) (e6 : H7 wa = some (.lst (T.wan.map oV)))
    (g4 : Fr (fun b => b = p) H7 H8)
    (f8 : Fr No H8 H9) (n8 : H8 ro = none) (e8 : H9 ro = some (.lst (T.rou.map nV)))
    (g5 : Fr (fun b => b = p) H9 H10) (e10 : H10 p = some (.ins C dx (TA.mk p dx ow li ti wa ro ls).fs)) :
    TbAt C H10 (TA.mk p dx ow li ti wa ro ls) T ∧ Fr (fun b => b = p) H0 H10 ∧ ∀ b, (TA.mk p dx ow li ti wa ro ls).has b → b ≠ p → H0 b = none := by
  have a1 : Fr (fun b => b = p) H0 H2 := f0.up.trans g1
  have a2 : Fr (fun b => b = p) H0 H4 := a1.trans (w.fr.up.trans g2)
  have a3 : Fr (fun b => b = p) H0 H6 := a2.trans (f4.up.trans g3)
  have a4 : Fr (fun b => b = p) H0 H8 := a3.trans (f6.up.trans g4)
  have np : ∀ {x : Addr}, H0 x = none → x ≠ p := fun hx => ne_fresh hp hx
  have n2 : H0 li = none := a1.fresh w.new
  have n4' : H0 ti = none := a2.fresh n4
  have n6' : H0 wa = none := a3.fresh n6
  have n8' : H0 ro = none := a4.fresh n8
  have nls : ∀ b ∈ ls, H0 b = none ∧ H2 b = none := fun b hb => by
    obtain ⟨i, hi, e⟩ := List.mem_iff_getElem.mp hb
    have := (w.each i b (by rw [List.getElem?_eq_getElem hi, e])).2
    exact ⟨a1.fresh this, this⟩
  have ow2 : H2 ow = some (.lst (T.own.map oV)) := g1.old _ _ e0 (np n0)
  have ow4 : H4 ow = some (.lst (T.own.map oV)) := g2.old _ _ (w.fr.lst ow2) (np n0)
  have ow6 := g3.old _ _ (f4.lst ow4) (np n0)
  have ow8 := g4.old _ _ (f6.lst ow6) (np n0)
  have ow10 := g5.old _ _ (f8.lst ow8) (np n0)
  have li4 := g2.old _ _ w.at_ (np n2)
  have li6 := g3.old _ _ (f4.lst li4) (np n2)
  have li8 := g4.old _ _ (f6.lst li6) (np n2)
  have li10 := g5.old _ _ (f8.lst li8) (np n2)
  have ti6 := g3.old _ _ e4 (np n4')
  have ti8 := g4.old _ _ (f6.lst ti6) (np n4')
  have ti10 := g5.old _ _ (f8.lst ti8) (np n4')
  have wa8 := g4.old _ _ e6 (np n6')
  have wa10 := g5.old _ _ (f8.lst wa8) (np n6')
  have ro10 := g5.old _ _ e8 (np n8')
  have ls4 : ∀ (i : Nat) (b : Addr), ls[i]? = some b → H4 b = some (.lst (c i)) := fun i b e => g2.old _ _ (w.each i b e).1 (np (nls b (List.mem_of_getElem? e)).1)
  have ls6 : ∀ (i : Nat) (b : Addr), ls[i]? = some b → H6 b = some (.lst (c i)) := fun i b e => g3.old _ _ (f4.lst (ls4 i b e)) (np (nls b (List.mem_of_getElem? e)).1)
  have ls8 : ∀ (i : Nat) (b : Addr), ls[i]? = some b → H8 b = some (.lst (c i)) := fun i b e => g4.old _ _ (f6.lst (ls6 i b e)) (np (nls b (List.mem_of_getElem? e)).1)
  have ls10 : ∀ (i : Nat) (b : Addr), ls[i]? = some b → H10 b = some (.lst (c i)) := fun i b e => g5.old _ _ (f8.lst (ls8 i b e)) (np (nls b (List.mem_of_getElem? e)).1)
  have at_ls : ∀ {x : Addr} {Hk : Hp}, (∀ (i : Nat) (b : Addr), ls[i]? = some b → Hk b = some (.lst (c i))) → Hk x = none → x ∉ ls := fun hk hx z => by
    obtain ⟨i, hi, e⟩ := List.mem_iff_getElem.mp z
    have := hk i _ (by rw [List.getElem?_eq_getElem hi, e])
    rw [hx] at this
    cases this
  have ndl := w.nd
  rw [List.nodup_cons] at ndl
  refine ⟨⟨e10, ow10, li10, ti10, wa10, ro10, fun i b e => ?_, hl, ?_, s⟩, (a4.trans f8.up).trans g5, fun b hb hbp => ?_⟩
  · have hi : i < T.lin.length := by rw [← hl]; exact (List.getElem?_eq_some_iff.mp e).1
    rw [ls10 i b e, hc i hi]
  · simp only [List.nodup_cons, List.mem_cons, not_or]
    refine ⟨⟨(np n2).symm, (np n0).symm, (np n4').symm, (np n6').symm, (np n8').symm, fun z => np (nls _ z).1 rfl⟩, ⟨ne_fresh ow2 w.new, (ne_fresh li4 n4).symm, (ne_fresh li6 n6).symm, (ne_fresh li8 n8).symm, ndl.1⟩, ⟨(ne_fresh ow4 n4).symm, (ne_fresh ow6 n6).symm, (ne_fresh ow8 n8).symm, fun z => ?_⟩, ⟨(ne_fresh ti6 n6).symm, (ne_fresh ti8 n8).symm, at_ls ls4 n4⟩, ⟨(ne_fresh wa8 n8).symm, at_ls ls6 n6⟩, at_ls ls8 n8, ndl.2⟩
    have := (nls _ z).2
    rw [ow2] at this
    cases this
  · unfold TA.has at hb
    simp only [List.mem_cons] at hb
    rcases hb with e | e | e | e | e | e | e
    · exact absurd e hbp
    · rw [e]; exact n2
    · rw [e]; exact n0
    · rw [e]; exact n4'
    · rw [e]; exact n6'
    · rw [e]; exact n8'
    · exact (nls b e).1
theorem fs_nil {p dx ow li ti wa ro : Addr} {ls : List Addr} : putF "rounds" (.ref ro) (putF "wants" (.ref wa) (putF "times" (.ref ti) (putF "lines" (.ref li) (putF "owners" (.ref ow) [])))) = (TA.mk p dx ow li ti wa ro ls).fs := by rfl
theorem fs_old {p dx ow li ti wa ro : Addr} {ls : List Addr} {B : TA} : putF "rounds" (.ref ro) (putF "wants" (.ref wa) (putF "times" (.ref ti) (putF "lines" (.ref li) (putF "owners" (.ref ow) B.fs)))) = (TA.mk p dx ow li ti wa ro ls).fs := by rfl
end AL

namespace AL
open PySem PySem.Spec PyProof.Rows L2
/-! # the law's own things: the state of drawing, the table as a dict -/
/-! ### d.update(e) -/
def rUpdD : V → List V → Hp → VK → Prop := fun x vs H Q => ∃ (a b : Addr) (kvs more : List (Key × V)), x = .ref a ∧ vs = [.ref b] ∧ H a = some (.dK kvs) ∧ H b = some (.dK more) ∧ a ≠ b ∧ kvs.length + more.length ≤ 2000 ∧ Q .non (upd H a (.dK (mergeK kvs more)))
theorem mt_update {X : Cx} : MtR X "dict.update" rUpdD := by
  intro pins s σ H x vs v us Q I rx rv h
  obtain ⟨a, b, kvs, more, rfl, rfl, ea, eb, ne, hl, q⟩ := h
  cases rx
  cases rv with
  | cons r rr =>
    cases rr
    cases r
    obtain ⟨z, hd, ks, rel, dd⟩ := dk_of I.hok ea
    obtain ⟨z2, hd2, ks2, rel2, dd2⟩ := dk_of I.hok eb
    have hle : kvs.length + more.length ≤ sizeLine := Nat.le_of_lt (small2000 hl)
    refine call_meetsIn PySem.F.slot_dict_update dd.typeIs PySem.F.entry_dict_update (PySem.F.args_dict_update_2 _ _) (meets_dict_update (mixKind X.prog X.w) a b ne hd2) ⟨ks, ks2, dd, dd2, by rw [← rel.length, ← rel2.length]; exact hle, fun h' dd' _ hs => ?_⟩
    have he : ∃ q, h'.get? a = some q := let ⟨q, _, _, hq, _⟩ := dd'; ⟨q, hq⟩
    exact ⟨.non, _, d_write (t' := s.toks) I (by rw [ea]; exact True.intro) hs he (dk_new (Nat.le_trans (length_mergeK more kvs) hle) hd (KV.merge rel2 rel) dd'), rfl, q⟩
section
variable {X : Cx} {K : PySem.W.Frag} {o e : Expr} {to te : TE} {apos cpos : Pos}
theorem k_update (hK : X.K = K) (ho : PE X o to) (he : PE X e te) (hbase : attributeBase o "update" X.env (eval o X.env) = eval o X.env := by rfl) (hline : (apos.endLine == cpos.line) = true := by rfl)
    (h : PE X (.Call (.Attribute o "update" apos) [e] [] cpos) (tBM X.K "dict" rUpdD to (tCons te tNil)) := by exact pe_bm PySem.F.plainAttrs_dict PySem.F.slot_dict_update PySem.F.type_dict_update mt_update ho (pa_cons he pa_nil)) :
    PE X (.Call (.Attribute o "update" apos) [e] [] cpos) (tBM K "dict" rUpdD to (tCons te tNil)) := hK ▸ h
end

/-! ### the state of drawing -/
/-- the script stands known, or apart from S -/
def ScF (K : PySem.W.Frag) (sc : Addr) (ns : List Int) (S : Addr → Prop) : Prop := (∀ H : Hp, SqL K H sc (ns.map V.int)) ∨ ¬ S sc
structure StAt (K : PySem.W.Frag) (H : Hp) (st sc : Addr) (ns : List Int) : Prop where
  ex : ∃ i m l : Int, H st = some (.lst [.ref sc, .int i, .int m, .int l]) ∧ 0 ≤ i ∧ 0 ≤ l
  sq : SqL K H sc (ns.map V.int)
  len : ns.length ≤ 63
section
variable {K : PySem.W.Frag} {S : Addr → Prop} {H H' : Hp} {st sc : Addr} {ns : List Int} {Q : VK} {σ : L2.St}
theorem sqL_fr {a : Addr} {xs : List V} (h : SqL K H a xs) (f : Fr S H H') (n : ¬ S a) : SqL K H' a xs := by
  rcases h with (h | ⟨o, h⟩) | h
  · exact .inl (.inl (f.old _ _ h n))
  · exact .inl (.inr ⟨o, f.old _ _ h n⟩)
  · exact .inr h
theorem StAt.fr (h : StAt K H st sc ns) (f : Fr S H H') (n1 : ¬ S st) (n2 : ScF K sc ns S) : StAt K H' st sc ns := by
  obtain ⟨i, m, l, h1, h2, h3⟩ := h.ex
  exact ⟨⟨i, m, l, f.old _ _ h1 n1, h2, h3⟩, n2.elim (fun k => k H') (fun k => sqL_fr h.sq f k), h.len⟩
theorem ScF.no : ScF K sc ns No := .inr fun z => z
theorem StAt.fr0 (h : StAt K H st sc ns) (f : Fr No H H') : StAt K H' st sc ns := h.fr f (fun z => z) .no
theorem StAt.lst (h : StAt K H st sc ns) : ∃ xs, H st = Option.some (.lst xs) := by
  obtain ⟨i, m, l, h1, _⟩ := h.ex
  exact ⟨_, h1⟩
theorem StAt.some (h : StAt K H st sc ns) : H st ≠ none := by
  obtain ⟨xs, h1⟩ := h.lst
  rw [h1]
  simp
end
abbrev Only1 (a : Addr) : Addr → Prop := fun b => b = a
abbrev sp_Lstart (K : PySem.W.Frag) : Sp := sp1 fun x H Q E => ∃ sc, ∃ ns : List Int, x = .ref sc ∧ SqL K H sc (ns.map V.int) ∧ ns.length ≤ 63 ∧ ∀ st H', H st = none → StAt K H' st sc ns → Fr No H H' → Q (.ref st) H'
abbrev sp_Ldrawn (K : PySem.W.Frag) : Sp := sp2 fun x y H Q E => ∃ st sc ns, ∃ many : Int, x = .ref st ∧ y = .int many ∧ StAt K H st sc ns ∧ 0 < many ∧ many < 2 ^ 200 ∧ ScF K sc ns (Only1 st) ∧ ∀ (r : Nat) H', (r : Int) < many → StAt K H' st sc ns → Fr (Only1 st) H H' → Q (.int (r : Int)) H'

/-! ### the table as a dict -/
structure LA where
  d : Addr
  ow : Addr
  li : Addr
  ti : Addr
  wa : Addr
  ro : Addr
  bad : Addr → Prop
def LA.kvs (D : LA) : List (Key × V) := [(.inr "owners", .ref D.ow), (.inr "lines", .ref D.li), (.inr "times", .ref D.ti), (.inr "wants", .ref D.wa), (.inr "rounds", .ref D.ro)]
def LA.foot (D : LA) : Addr → Prop := fun b => b ∈ [D.ow, D.li, D.ti, D.wa, D.ro]
def LA.has (D : LA) : Addr → Prop := fun b => b ∈ [D.d, D.ow, D.li, D.ti, D.wa, D.ro]
structure LdAt (H : Hp) (D : LA) (T : Tb) : Prop where
  dic : H D.d = some (.dK D.kvs)
  own : H D.ow = some (.lst (T.own.map oV))
  tim : H D.ti = some (.lst (T.tim.map nV))
  wan : H D.wa = some (.lst (T.wan.map oV))
  rou : H D.ro = some (.lst (T.rou.map nV))
  lin : ∃ as : List Addr, H D.li = some (.lst (as.map V.ref)) ∧ as.length = T.lin.length ∧ ∀ i a, as[i]? = some a → H a = some (.lst ((T.ln i).map nV)) ∧ ¬ D.bad a
  nd : [D.d, D.ow, D.li, D.ti, D.wa, D.ro].Nodup
  old : ∀ b, D.bad b → H b ≠ none
  own_bad : ∀ b, D.has b → D.bad b
  sz : T.Sz
section
variable {K : PySem.W.Frag} {S : Addr → Prop} {H H' : Hp} {D : LA} {T : Tb} {Q : VK} {QH : Hp → Prop} {σ : L2.St} {td ty : TE}
theorem LA.has_foot {b : Addr} (h : D.foot b) : D.has b := List.mem_cons_of_mem _ h
theorem LdAt.fr (h : LdAt H D T) (f : Fr S H H') (h1 : ∀ b, S b → D.bad b) (h2 : ∀ b, D.has b → ¬ S b) : LdAt H' D T := by
  have m : ∀ b o, H b = some o → D.has b → H' b = some o := fun b o e hb => f.old b o e (h2 b hb)
  obtain ⟨as, a1, a2, a3⟩ := h.lin
  refine ⟨m _ _ h.dic ?_, m _ _ h.own ?_, m _ _ h.tim ?_, m _ _ h.wan ?_, m _ _ h.rou ?_, ⟨as, m _ _ a1 ?_, a2, fun i a e => ⟨f.old _ _ (a3 i a e).1 (fun z => (a3 i a e).2 (h1 a z)), (a3 i a e).2⟩⟩, h.nd, fun b hb z => h.old b hb (f.thr b z), h.own_bad, h.sz⟩
  all_goals simp [LA.has]
theorem LdAt.fr0 (h : LdAt H D T) (f : Fr No H H') : LdAt H' D T := h.fr f (fun _ z => z.elim) fun _ _ z => z
theorem LdAt.has_old (h : LdAt H D T) {b : Addr} (hb : D.has b) : ∃ o, H b = some o ∧ ∀ xs, o ≠ .tup xs := by
  unfold LA.has at hb
  simp only [List.mem_cons, List.not_mem_nil, or_false] at hb
  obtain ⟨as, a1, _⟩ := h.lin
  rcases hb with e | e | e | e | e | e
  · rw [e]; exact ⟨_, h.dic, fun xs z => by cases z⟩
  · rw [e]; exact ⟨_, h.own, fun xs z => by cases z⟩
  · rw [e]; exact ⟨_, a1, fun xs z => by cases z⟩
  · rw [e]; exact ⟨_, h.tim, fun xs z => by cases z⟩
  · rw [e]; exact ⟨_, h.wan, fun xs z => by cases z⟩
  · rw [e]; exact ⟨_, h.rou, fun xs z => by cases z⟩
theorem LdAt.put (h : LdAt H D T) {b : Addr} {u : HO} (hb : D.foot b) : Fr D.foot H (upd H b u) := by
  obtain ⟨o, e, nt⟩ := h.has_old (LA.has_foot hb)
  exact (Fr.put e nt).mono fun c z => by rw [z]; exact hb
theorem LdAt.fresh (h : LdAt H D T) {a : Addr} (ha : H a = none) : ¬ D.bad a := fun z => h.old a z ha
/-- the inequalities -/
theorem LdAt.ne (h : LdAt H D T) : (D.d ≠ D.ow ∧ D.d ≠ D.li ∧ D.d ≠ D.ti ∧ D.d ≠ D.wa ∧ D.d ≠ D.ro) ∧ (D.ow ≠ D.li ∧ D.ow ≠ D.ti ∧ D.ow ≠ D.wa ∧ D.ow ≠ D.ro) ∧ (D.li ≠ D.ti ∧ D.li ≠ D.wa ∧ D.li ≠ D.ro) ∧ (D.ti ≠ D.wa ∧ D.ti ≠ D.ro) ∧ D.wa ≠ D.ro := by
  have nd := h.nd
  simp only [List.nodup_cons, List.mem_cons, not_or, List.not_mem_nil, or_false, not_false_eq_true, true_and, List.nodup_nil, and_true] at nd
  obtain ⟨⟨p1, p2, p3, p4, p5⟩, ⟨l1, l2, l3, l4⟩, ⟨o1, o2, o3⟩, ⟨t1, t2⟩, w1⟩ := nd
  exact ⟨⟨p1, p2, p3, p4, p5⟩, ⟨l1, l2, l3, l4⟩, ⟨o1, o2, o3⟩, ⟨t1, t2⟩, w1⟩
/-- a list of the five is written anew -/
theorem LdAt.upd1 (h : LdAt H D T) {b : Addr} {u : HO} {T' : Tb} (hb : D.foot b) (e1 : b ≠ D.d) (own : b ≠ D.ow → T'.own = T.own) (own' : b = D.ow → u = .lst (T'.own.map oV)) (tim : b ≠ D.ti → T'.tim = T.tim) (tim' : b = D.ti → u = .lst (T'.tim.map nV))
    (wan : b ≠ D.wa → T'.wan = T.wan) (wan' : b = D.wa → u = .lst (T'.wan.map oV)) (rou : b ≠ D.ro → T'.rou = T.rou) (rou' : b = D.ro → u = .lst (T'.rou.map nV)) (lin : T'.lin = T.lin) (nl : b ≠ D.li) (sz : T'.Sz) : LdAt (upd H b u) D T' := by
  obtain ⟨as, a1, a2, a3⟩ := h.lin
  refine ⟨(upd_ne e1.symm).trans h.dic, ?_, ?_, ?_, ?_, ⟨as, (upd_ne nl.symm).trans a1, by rw [lin]; exact a2, fun i a e => ⟨?_, (a3 i a e).2⟩⟩, h.nd, fun c hc z => ?_, h.own_bad, sz⟩
  · by_cases q : b = D.ow
    · rw [q, upd_same, own' q]
    · rw [upd_ne (fun z => q z.symm), own q]; exact h.own
  · by_cases q : b = D.ti
    · rw [q, upd_same, tim' q]
    · rw [upd_ne (fun z => q z.symm), tim q]; exact h.tim
  · by_cases q : b = D.wa
    · rw [q, upd_same, wan' q]
    · rw [upd_ne (fun z => q z.symm), wan q]; exact h.wan
  · by_cases q : b = D.ro
    · rw [q, upd_same, rou' q]
    · rw [upd_ne (fun z => q z.symm), rou q]; exact h.rou
  · have nb : a ≠ b := fun z => (a3 i a e).2 (h.own_bad a (by rw [z]; exact LA.has_foot hb))
    rw [upd_ne nb]
    have : T'.ln i = T.ln i := by unfold Tb.ln; rw [lin]
    rw [this]
    exact (a3 i a e).1
  · by_cases q : c = b
    · rw [q, upd_same] at z; cases z
    · rw [upd_ne q] at z; exact h.old c hc z
/-- an item of the dict -/
def DgOn (x y : V) (H : Hp) (Q : VK) : Prop := ∃ a v, x = .ref a ∧ DGet H a y (some v) ∧ Q v H
theorem r_dget (h : td σ H fun x H1 => ty σ H1 fun y H2 => DgOn x y H2 Q) : tDGet td ty σ H Q := h
instance i_dget  : Stp (tDGet td ty σ H Q) (td σ H fun x H1 => ty σ H1 fun y H2 => DgOn x y H2 Q) := ⟨r_dget⟩
theorem r_dgOwn (h : LdAt H D T) (q : Q (.ref D.ow) H) : DgOn (.ref D.d) (.str "owners") H Q := ⟨D.d, _, rfl, DGet.k (k := .inr "owners") h.dic, q⟩
theorem r_dgLin (h : LdAt H D T) (q : Q (.ref D.li) H) : DgOn (.ref D.d) (.str "lines") H Q := ⟨D.d, _, rfl, DGet.k (k := .inr "lines") h.dic, q⟩
theorem r_dgTim (h : LdAt H D T) (q : Q (.ref D.ti) H) : DgOn (.ref D.d) (.str "times") H Q := ⟨D.d, _, rfl, DGet.k (k := .inr "times") h.dic, q⟩
theorem r_dgWan (h : LdAt H D T) (q : Q (.ref D.wa) H) : DgOn (.ref D.d) (.str "wants") H Q := ⟨D.d, _, rfl, DGet.k (k := .inr "wants") h.dic, q⟩
theorem r_dgRou (h : LdAt H D T) (q : Q (.ref D.ro) H) : DgOn (.ref D.d) (.str "rounds") H Q := ⟨D.d, _, rfl, DGet.k (k := .inr "rounds") h.dic, q⟩
theorem l_ixOwn (h : LdAt H D T) {l : Nat} (hl : l < T.m) (q : Q (oV (T.ow l)) H) : rIxL K (.ref D.ow) (.int (l : Int)) H Q := r_ixl h.own (map_at hl) q
theorem l_ixTim (h : LdAt H D T) {l : Nat} (hl : l < T.m) (q : Q (.int (T.ti l : Int)) H) : rIxL K (.ref D.ti) (.int (l : Int)) H Q := r_ixl h.tim (map_at (f := nV) (by rw [h.sz.ti]; exact hl)) q
theorem l_ixWan (h : LdAt H D T) {l : Nat} (hl : l < T.n) (q : Q (oV (T.wa l)) H) : rIxL K (.ref D.wa) (.int (l : Int)) H Q := r_ixl h.wan (map_at hl) q
theorem l_ixRou (h : LdAt H D T) {l : Nat} (hl : l < T.n) (q : Q (.int (T.ro l : Int)) H) : rIxL K (.ref D.ro) (.int (l : Int)) H Q := r_ixl h.rou (map_at (f := nV) (by rw [h.sz.ro]; exact hl)) q
theorem l_ixLin (h : LdAt H D T) {l : Nat} (hl : l < T.m) (q : ∀ a, H a = some (.lst ((T.ln l).map nV)) → ¬ D.bad a → Q (.ref a) H) : rIxL K (.ref D.li) (.int (l : Int)) H Q := by
  obtain ⟨as, a1, a2, a3⟩ := h.lin
  have hl' : l < as.length := by rw [a2, h.sz.li]; exact hl
  have e := List.getElem?_eq_getElem hl'
  exact r_ixl a1 (by rw [List.getElem?_map, e]; rfl) (q _ (a3 _ _ e).1 (a3 _ _ e).2)
theorem l_lenWan (h : LdAt H D T) (q : Q (.int (T.n : Int)) H) : rLenQ K [V.ref D.wa] H Q := ⟨D.wa, _, rfl, .inl (SqL.of h.wan), by rw [List.length_map]; exact q⟩
theorem l_lenOwn (h : LdAt H D T) (q : Q (.int (T.m : Int)) H) : rLenQ K [V.ref D.ow] H Q := ⟨D.ow, _, rfl, .inl (SqL.of h.own), by rw [List.length_map]; exact q⟩
theorem l_setOwn (h : LdAt H D T) {l : Nat} (hl : l < T.m) (o : Option Nat) (q : ∀ H', LdAt H' D { T with own := T.own.set l o } → Fr D.foot H H' → QH H') : rSetL (.ref D.ow) (.int (l : Int)) (oV o) H QH := by
  obtain ⟨⟨p1, p2, p3, p4, p5⟩, ⟨l1, l2, l3, l4⟩, ⟨o1, o2, o3⟩, ⟨t1, t2⟩, w1⟩ := h.ne
  have hb : D.foot D.ow := by simp [LA.foot]
  refine r_setl h.own (by rw [List.length_map]; exact hl) (q _ ?_ (h.put hb))
  exact h.upd1 hb p1.symm (fun z => absurd rfl z) (fun _ => by rw [map_set]) (fun _ => rfl) (fun z => absurd z l2) (fun _ => rfl) (fun z => absurd z l3) (fun _ => rfl) (fun z => absurd z l4) rfl l1 (h.sz.congr rfl (by simp [Tb.m]) rfl rfl rfl)
theorem l_setTim (h : LdAt H D T) {l : Nat} (hl : l < T.m) (o : Nat) (q : ∀ H', LdAt H' D { T with tim := T.tim.set l o } → Fr D.foot H H' → QH H') : rSetL (.ref D.ti) (.int (l : Int)) (nV o) H QH := by
  obtain ⟨⟨p1, p2, p3, p4, p5⟩, ⟨l1, l2, l3, l4⟩, ⟨o1, o2, o3⟩, ⟨t1, t2⟩, w1⟩ := h.ne
  have hb : D.foot D.ti := by simp [LA.foot]
  refine r_setl h.tim (by rw [List.length_map, h.sz.ti]; exact hl) (q _ ?_ (h.put hb))
  exact h.upd1 hb p3.symm (fun _ => rfl) (fun z => absurd z.symm l2) (fun z => absurd rfl z) (fun _ => by rw [map_set]) (fun _ => rfl) (fun z => absurd z t1) (fun _ => rfl) (fun z => absurd z t2) rfl o1.symm (h.sz.congr rfl rfl rfl (by simp) rfl)
theorem l_setWan (h : LdAt H D T) {l : Nat} (hl : l < T.n) (o : Option Nat) (q : ∀ H', LdAt H' D { T with wan := T.wan.set l o } → Fr D.foot H H' → QH H') : rSetL (.ref D.wa) (.int (l : Int)) (oV o) H QH := by
  obtain ⟨⟨p1, p2, p3, p4, p5⟩, ⟨l1, l2, l3, l4⟩, ⟨o1, o2, o3⟩, ⟨t1, t2⟩, w1⟩ := h.ne
  have hb : D.foot D.wa := by simp [LA.foot]
  refine r_setl h.wan (by rw [List.length_map]; exact hl) (q _ ?_ (h.put hb))
  exact h.upd1 hb p4.symm (fun _ => rfl) (fun z => absurd z.symm l3) (fun _ => rfl) (fun z => absurd z.symm t1) (fun z => absurd rfl z) (fun _ => by rw [map_set]) (fun _ => rfl) (fun z => absurd z w1) rfl o2.symm (h.sz.congr (by simp [Tb.n]) rfl rfl rfl rfl)
theorem l_setRou (h : LdAt H D T) {l : Nat} (hl : l < T.n) (o : Nat) (q : ∀ H', LdAt H' D { T with rou := T.rou.set l o } → Fr D.foot H H' → QH H') : rSetL (.ref D.ro) (.int (l : Int)) (nV o) H QH := by
  obtain ⟨⟨p1, p2, p3, p4, p5⟩, ⟨l1, l2, l3, l4⟩, ⟨o1, o2, o3⟩, ⟨t1, t2⟩, w1⟩ := h.ne
  have hb : D.foot D.ro := by simp [LA.foot]
  refine r_setl h.rou (by rw [List.length_map, h.sz.ro]; exact hl) (q _ ?_ (h.put hb))
  exact h.upd1 hb p5.symm (fun _ => rfl) (fun z => absurd z.symm l4) (fun _ => rfl) (fun z => absurd z.symm t2) (fun _ => rfl) (fun z => absurd z.symm w1) (fun z => absurd rfl z) (fun _ => by rw [map_set]) rfl o3.symm (h.sz.congr rfl rfl rfl rfl (by simp))
/-- a line is another list -/
theorem l_setLin (h : LdAt H D T) {l : Nat} {a : Addr} {xs : List Nat} (hl : l < T.m) (ha : H a = some (.lst (xs.map nV))) (nb : ¬ D.bad a) (q : ∀ H', LdAt H' D (T.line l xs) → Fr D.foot H H' → QH H') : rSetL (.ref D.li) (.int (l : Int)) (.ref a) H QH := by
  obtain ⟨as, a1, a2, a3⟩ := h.lin
  obtain ⟨⟨p1, p2, p3, p4, p5⟩, ⟨l1, l2, l3, l4⟩, ⟨o1, o2, o3⟩, ⟨t1, t2⟩, w1⟩ := h.ne
  have hb : D.foot D.li := by simp [LA.foot]
  have hl2 : l < T.lin.length := by rw [h.sz.li]; exact hl
  refine r_setl a1 (by rw [List.length_map, a2]; exact hl2) (q _ ?_ (h.put hb))
  have em : (as.map V.ref).set l (V.ref a) = (as.set l a).map V.ref := List.map_set.symm
  rw [em]
  have nli : ∀ {x : Addr}, ¬ D.bad x → x ≠ D.li := fun hx z => hx (h.own_bad _ (by rw [z]; simp [LA.has]))
  refine ⟨(upd_ne p2).trans h.dic, (upd_ne l1).trans h.own, (upd_ne o1.symm).trans h.tim, (upd_ne o2.symm).trans h.wan, (upd_ne o3.symm).trans h.rou, ⟨as.set l a, upd_same, by rw [List.length_set, a2]; unfold Tb.line; simp, fun i b e => ?_⟩, h.nd, fun c hc z => ?_, h.own_bad, h.sz.line⟩
  · rw [List.getElem?_set] at e
    rw [ln_line hl2]
    by_cases q : l = i
    · rw [if_pos q, if_pos (by rw [a2]; exact hl2)] at e
      have eb : a = b := Option.some.inj e
      rw [← eb, if_pos q.symm]
      exact ⟨(upd_ne (nli nb)).trans ha, nb⟩
    · rw [if_neg q] at e
      rw [if_neg (fun z => q z.symm)]
      exact ⟨(upd_ne (nli (a3 i b e).2)).trans (a3 i b e).1, (a3 i b e).2⟩
  · by_cases q : c = D.li
    · rw [q, upd_same] at z; cases z
    · rw [upd_ne q] at z; exact h.old c hc z
end
end AL

namespace AL
open PySem PySem.Spec PyProof.Rows L2
/-! # further readings; the promises of the law's own helpers -/
section
variable {X : Cx} {K : PySem.W.Frag}
/-- an item of a list or a tuple -/
def rIxQ (K : PySem.W.Frag) : R2 := fun x i H Q => rIxL K x i H Q ∨ rIxT K x i H Q
theorem k_ixq (hK : X.K = K) : IxR X (rIxQ K) := by
  subst hK
  intro e1 e2 pins s σ H x y v u Q I rx ry h
  rcases h with h | h
  · exact ix_list e1 e2 pins s σ H x y v u Q I rx ry h
  · exact ix_tup e1 e2 pins s σ H x y v u Q I rx ry h
end
section
variable {K : PySem.W.Frag} {σ : L2.St} {H : Hp} {Q : VK} {D : Ends} {tb : TS} {ta : L2.TA} {tl te td : TE} {j n : Nat} {x v : V} {tt : TT}
/-! ### loops -/
theorem r_forR (hn : n ≤ 2000) (ha : ∀ Q : List V → Hp → Prop, Q [.int (n : Int)] H → ta σ H Q) (Pv : Nat → L2.St → Hp → Prop) (h0 : Pv 0 σ H)
    (hs : ∀ (i : Nat) σ' H', i < n → Pv i σ' H' → tb { D with nx := Pv (i + 1), ct := Pv (i + 1), bk := D.nx } (σ'.set j (some (.int (i : Int)))) H') (hd : ∀ σ' H', Pv n σ' H' → D.nx σ' H') : tFor (iRng1 ta) (gName j) tb D σ H := by
  refine ha _ ⟨(n : Int), rfl, by omega, by omega, ?_⟩
  have en : ((n : Int)).toNat = n := by omega
  rw [en]
  refine for_range (lo := 0) (n := n) Pv h0 (fun i σ' H' hi p => ?_) hd
  have e0 : (0 : Int) + (i : Int) = (i : Int) := Int.zero_add _
  rw [e0]
  exact hs i σ' H' hi p
theorem r_forL {a : Addr} {xs : List V} (ha : ∀ Q : VK, Q (.ref a) H → tl σ H Q) (hx : SqL K H a xs) (Pv : Nat → L2.St → Hp → Prop) (h0 : Pv 0 σ H) (hl : ∀ i σ' H', i ≤ xs.length → Pv i σ' H' → SqL K H' a xs)
    (hs : ∀ i x σ' H', xs[i]? = some x → Pv i σ' H' → tb { D with nx := Pv (i + 1), ct := Pv (i + 1), bk := D.nx } (σ'.set j (some x)) H') (hd : ∀ σ' H', Pv xs.length σ' H' → D.nx σ' H') : tFor (iList K tl) (gName j) tb D σ H :=
  ha _ ⟨a, rfl, ⟨xs, hx⟩, for_list Pv h0 hl hs hd⟩
theorem r_andV (h : te σ H fun x H1 => ∃ c, x = .bl c ∧ if c = true then td σ H1 Q else Q (.bl false) H1) : tAndV te td σ H Q := h
instance i_andV  : Stp (tAndV te td σ H Q) (te σ H fun x H1 => ∃ c, x = .bl c ∧ if c = true then td σ H1 Q else Q (.bl false) H1) := ⟨r_andV⟩
theorem r_orV (h : te σ H fun x H1 => ∃ c, x = .bl c ∧ if c = true then Q (.bl true) H1 else td σ H1 Q) : tOrV te td σ H Q := h
instance i_orV  : Stp (tOrV te td σ H Q) (te σ H fun x H1 => ∃ c, x = .bl c ∧ if c = true then Q (.bl true) H1 else td σ H1 Q) := ⟨r_orV⟩
theorem r_notV (h : te σ H fun x H1 => ∃ c, x = .bl c ∧ Q (.bl (!c)) H1) : tNotV te σ H Q := h
instance i_notV  : Stp (tNotV te σ H Q) (te σ H fun x H1 => ∃ c, x = .bl c ∧ Q (.bl (!c)) H1) := ⟨r_notV⟩
theorem r_Tn {A B : Prop} (h : A) : if (!false) = true then A else B := by rw [Bool.not_false, if_pos rfl]; exact h
instance i_Tn {A B : Prop} : Stp (if (!false) = true then A else B) (A) := ⟨r_Tn⟩
theorem r_Fn {A B : Prop} (h : B) : if (!true) = true then A else B := by rw [Bool.not_true, if_neg Bool.false_ne_true]; exact h
instance i_Fn {A B : Prop} : Stp (if (!true) = true then A else B) (B) := ⟨r_Fn⟩
/-! ### isinstance -/
theorem r_isi {a b : String} (r : Bool) (ty : TyX K H x (.type a)) (h : kitB a b = some r) (q : Q (.bl r) H) : rIsi K [x, .ty b] H Q := ⟨x, .ty b, .type a, .type b, r, rfl, .ty b, ty, kit_ty h, q⟩
theorem r_isi2 {a b c : String} {tp : Addr} (r s t : Bool) (ty : TyX K H x (.type a)) (ht : H tp = some (.tup [.ty b, .ty c])) (h1 : kitB a b = some r) (h2 : kitB a c = some s) (e : (r || s) = t) (q : Q (.bl t) H) : rIsiT K [x, .ref tp] H Q := by
  subst e
  refine ⟨x, tp, _, .type a, [.type b, .type c], r || s, rfl, ht, .cons (.ty b) (.cons (.ty c) .nil), ty, ?_, q⟩
  refine kitAny_cons (kit_ty h1) (fun e => ?_) (fun e => by rw [e]; rfl)
  rw [e, Bool.false_or]
  refine kitAny_cons (kit_ty h2) (fun e => by rw [e]; rfl) (fun e => e)
end
def tyD : PyData → String
  | .none => "NoneType" | .bool _ => "bool" | .int _ => "int" | .str _ => "str" | .list _ => "list" | .tuple _ => "tuple" | .dict _ => "dict"
/-! ### data of tuples and lists -/
mutual
inductive Dd (H : Hp) : V → PyData → Prop
  | non : Dd H .non .none
  | bl (b : Bool) : Dd H (.bl b) (.bool b)
  | int (i : Int) : Dd H (.int i) (.int i)
  | str (x : Str) : Dd H (.str x) (.str x)
  | tup {a : Addr} {xs : List V} {ds : List PyData} : H a = some (.tup xs) → xs.length ≤ 2000 → DdAll H xs ds → Dd H (.ref a) (.tuple ds)
  | lst {a : Addr} {xs : List V} {ds : List PyData} : H a = some (.lst xs) → xs.length ≤ 2000 → DdAll H xs ds → Dd H (.ref a) (.list ds)
inductive DdAll (H : Hp) : List V → List PyData → Prop
  | nil : DdAll H [] []
  | cons {v : V} {vs : List V} {d : PyData} {ds : List PyData} : Dd H v d → DdAll H vs ds → DdAll H (v :: vs) (d :: ds)
end
mutual
theorem Dd.fr {H H' : Hp} (f : Fr No H H') : ∀ {v : V} {d : PyData}, Dd H v d → Dd H' v d
  | _, _, .non => .non
  | _, _, .bl b => .bl b
  | _, _, .int i => .int i
  | _, _, .str x => .str x
  | _, _, .tup h l r => .tup (f.tup _ _ h) l (DdAll.fr f r)
  | _, _, .lst h l r => .lst (f.lst h) l (DdAll.fr f r)
theorem DdAll.fr {H H' : Hp} (f : Fr No H H') : ∀ {vs : List V} {ds : List PyData}, DdAll H vs ds → DdAll H' vs ds
  | _, _, .nil => .nil
  | _, _, .cons h r => .cons (Dd.fr f h) (DdAll.fr f r)
end
theorem DdAll.len {H : Hp} : ∀ {vs : List V} {ds : List PyData}, DdAll H vs ds → vs.length = ds.length
  | _, _, .nil => rfl
  | _, _, .cons _ r => by simp [DdAll.len r]
theorem DdAll.at {H : Hp} : ∀ {vs : List V} {ds : List PyData} {i : Nat}, DdAll H vs ds → i < ds.length → ∃ v d, vs[i]? = some v ∧ ds[i]? = some d ∧ Dd H v d
  | _, _, _, .nil, h => absurd h (Nat.not_lt_zero _)
  | _, _, 0, .cons h _, _ => ⟨_, _, rfl, rfl, h⟩
  | _, _, i + 1, .cons _ r, h => DdAll.at (i := i) r (by simpa using h)
/-- small data: every tuple of it, tracked -/
def Sml (d : PyData) : Prop := ∀ {H : Hp} {v : V}, Td H v d → Dd H v d
theorem Dd.ty {K : PySem.W.Frag} {H : Hp} {v : V} {d : PyData} (h : Dd H v d) : TyX K H v (.type (tyD d)) := by
  cases h with
  | non => exact .base .non
  | bl b => exact .base (.bl b)
  | int i => exact .base (.int i)
  | str x => exact .base (.str x)
  | tup h _ _ => exact .base (.tup h)
  | lst h _ _ => exact .base (.lst h)
theorem depth_at : ∀ {ds : List PyData} {i : Nat} {d : PyData}, ds[i]? = some d → d.depth ≤ PyData.depthAll ds
  | [], _, _, h => by simp at h
  | x :: r, 0, d, h => by
    have : x = d := Option.some.inj h
    rw [this]
    unfold PyData.depthAll
    exact Nat.le_max_left _ _
  | x :: r, i + 1, d, h => by
    have := depth_at (ds := r) (i := i) (d := d) (by simpa using h)
    unfold PyData.depthAll
    exact Nat.le_trans this (Nat.le_max_right _ _)
/-- both tell the same data, of a depth below n -/
abbrev sp_Lsame (n : Nat) : Sp := sp2 fun x y H Q E => ∃ d, Dd H x d ∧ Dd H y d ∧ d.depth < n ∧ ∀ H', Fr No H H' → Q (.bl true) H'
section
variable {K : PySem.W.Frag} {H : Hp} {Q : VK} {x v : V}
theorem dd_o (o : Option Nat) : Dd H (oV o) (oD o) := by
  cases o with
  | none => exact .non
  | some n => exact .int _
theorem td_dd_all (h : ∀ v d, Td H v d → Dd H v d) : ∀ {vs : List V} {ds : List PyData}, TdAll H vs ds → DdAll H vs ds
  | _, _, .nil => .nil
  | _, _, .cons a r => .cons (h _ _ a) (td_dd_all h r)
theorem dd_nats : ∀ xs : List Nat, DdAll H (xs.map nV) (xs.map fun x : Nat => PyData.int (x : Int))
  | [] => .nil
  | x :: r => .cons (.int _) (dd_nats r)
theorem dd_natsL {p : Addr} {xs : List Nat} (h : H p = some (.lst (xs.map nV))) (hl : xs.length ≤ 2000) : Dd H (.ref p) (.list (xs.map fun x : Nat => PyData.int (x : Int))) := .lst h (by rw [List.length_map]; exact hl) (dd_nats xs)
end

theorem Fr.mutO {S : Addr → Prop} {H H1 H2 : Hp} {p : Addr} (f : Fr S H H1) (g : Fr (Only1 p) H1 H2) (h : H p = none) : Fr S H H2 := ⟨fun b o e n => g.old b o (f.old b o e n) (fun z => by rw [z, h] at e; cases e), fun b xs e => g.tup b xs (f.tup b xs e), fun b e => f.thr b (g.thr b e)⟩
section
variable {K : PySem.W.Frag} {σ : L2.St} {H : Hp} {Q : VK} {trs : List (TE × TE)} {tk tv : TE} {QP : List (V × V) → Hp → Prop} {QH : Hp → Prop}
/-! ### the display of a dict -/
def DispE (p : Addr) (Q : VK) (ps : List (V × V)) (H2 : Hp) : Prop := H2 p = some (.dK []) ∧ ∃ kvs : List (Key × V), ps = kvs.map (fun kv => (kV kv.1, kv.2)) ∧ kvs.length ≤ 15 ∧ Q (.ref p) (upd H2 p (.dK (mergeK [] kvs)))
theorem r_disp (h : ∀ p H1, H p = none → H1 p = some (.dK []) → Fr No H H1 → tPairs trs σ H1 (DispE p Q)) : tDisp trs σ H Q := fun p hp => h p _ hp upd_same (Fr.new hp)
theorem r_pair (h : tk σ H fun x H1 => tv σ H1 fun y H2 => tPairs trs σ H2 fun ps H3 => QP ((x, y) :: ps) H3) : tPairs ((tk, tv) :: trs) σ H QP := h
instance i_pair  : Stp (tPairs ((tk, tv) :: trs) σ H QP) (tk σ H fun x H1 => tv σ H1 fun y H2 => tPairs trs σ H2 fun ps H3 => QP ((x, y) :: ps) H3) := ⟨r_pair⟩
theorem r_pairN (h : QP [] H) : tPairs [] σ H QP := h
instance i_pairN  : Stp (tPairs [] σ H QP) (QP [] H) := ⟨r_pairN⟩
theorem r_dispE {p : Addr} {ps : List (V × V)} (kvs : List (Key × V)) (e : H p = some (.dK [])) (hps : ps = kvs.map (fun kv => (kV kv.1, kv.2))) (hl : kvs.length ≤ 15) (q : ∀ H3, H3 p = some (.dK (mergeK [] kvs)) → Fr (Only1 p) H H3 → Q (.ref p) H3) : DispE p Q ps H :=
  ⟨e, kvs, hps, hl, q _ upd_same (Fr.put e (fun xs z => by cases z))⟩
theorem r_tyD {a : Addr} {kvs : List (Key × V)} {G : Prop} (h : H a = some (.dK kvs)) (g : G) : tyV K "dict" (.ref a) H ∧ G := ⟨.inr (.inr (.inl ⟨rfl, .inl ⟨_, h⟩⟩)), g⟩
theorem r_updD {a b : Addr} {kvs more : List (Key × V)} (ea : H a = some (.dK kvs)) (eb : H b = some (.dK more)) (ne : a ≠ b) (hl : kvs.length + more.length ≤ 2000) (q : ∀ H', H' a = some (.dK (mergeK kvs more)) → Fr (Only1 a) H H' → Q .non H') : rUpdD (.ref a) [.ref b] H Q :=
  ⟨a, b, kvs, more, rfl, rfl, ea, eb, ne, hl, q _ upd_same (Fr.put ea (fun xs z => by cases z))⟩
theorem set_getD {α : Type} {xs : List α} {i : Nat} {d : α} : xs.set i (xs.getD i d) = xs := by
  by_cases h : i < xs.length
  · rw [List.getD_eq_getElem?_getD, List.getElem?_eq_getElem h]
    exact List.set_getElem_self h
  · exact List.set_eq_of_length_le (by omega)
theorem l_setTimE {D : LA} {T : Tb} (h : LdAt H D T) {l : Nat} (hl : l < T.m) (o : Nat) {v : V} (e : v = nV o) (q : ∀ H', LdAt H' D { T with tim := T.tim.set l o } → Fr D.foot H H' → QH H') : rSetL (.ref D.ti) (.int (l : Int)) v H QH := by
  rw [e]
  exact l_setTim h hl o q
end
section
variable {K : PySem.W.Frag} {σ : L2.St} {H : Hp} {Q : VK}
theorem r_cat {a b : Addr} {xs zs : List V} (ha : H a = some (.lst xs)) (hb : H b = some (.lst zs)) (hl : xs.length + zs.length ≤ 2000) (q : ∀ p H', H p = none → H' p = some (.lst (xs ++ zs)) → Fr No H H' → Q (.ref p) H') : rCat (.ref a) (.ref b) H Q := ⟨a, b, xs, zs, rfl, rfl, ha, hb, Nat.le_of_lt (small2000 hl), r_new q⟩
/-- xs[1:] -/
theorem r_tail {a : Addr} {xs : List V} (ha : H a = some (.lst xs)) (q : ∀ p H', H p = none → H' p = some (.lst xs.tail) → Fr No H H' → Q (.ref p) H') : rSlL K (.ref a) (some 1) none H Q := by
  have e : cutV xs (some 1) none = xs.tail := by
    cases xs with
    | nil => rfl
    | cons x r => simp [cutV, HT.sIx] <;> omega
  exact ⟨a, xs, rfl, SqL.of ha, by rw [e]; exact r_new q⟩
theorem r_slc {r : V → Option Int → Option Int → Hp → VK → Prop} {te : TE} {a b : L2.St → Hp → (Option Int → Hp → Prop) → Prop} (h : te σ H fun x H1 => a σ H1 fun lo H2 => b σ H2 fun hi H3 => r x lo hi H3 Q) : tSl r te a b σ H Q := h
instance i_slc {r : V → Option Int → Option Int → Hp → VK → Prop} {te : TE} {a b : L2.St → Hp → (Option Int → Hp → Prop) → Prop} : Stp (tSl r te a b σ H Q) (te σ H fun x H1 => a σ H1 fun lo H2 => b σ H2 fun hi H3 => r x lo hi H3 Q) := ⟨r_slc⟩
theorem r_noPart {QP : Option Int → Hp → Prop} (h : QP none H) : tNoPart σ H QP := h
instance i_noPart {QP : Option Int → Hp → Prop} : Stp (tNoPart σ H QP) (QP none H) := ⟨r_noPart⟩
theorem r_part {te : TE} {QP : Option Int → Hp → Prop} (h : te σ H fun x H1 => ∃ i, x = .int i ∧ QP (some i) H1) : tPart te σ H QP := h
instance i_part {te : TE} {QP : Option Int → Hp → Prop} : Stp (tPart te σ H QP) (te σ H fun x H1 => ∃ i, x = .int i ∧ QP (some i) H1) := ⟨r_part⟩
theorem r_partI {i : Int} {QP : Int → Prop} (h : QP i) : ∃ j, V.int i = .int j ∧ QP j := ⟨i, rfl, h⟩
instance i_partI {i : Int} {QP : Int → Prop} : Stp (∃ j, V.int i = .int j ∧ QP j) (QP i) := ⟨r_partI⟩
theorem ixc {xs : List V} {v w : V} (h : (xs ++ [v])[0]? = some w) : w = xs.headD v := by
  cases xs with
  | nil => exact (Option.some.inj h).symm
  | cons x r => exact (Option.some.inj h).symm
theorem head_cat {xs : List V} {v : V} : (xs ++ [v])[0]? = some (xs.headD v) := by
  cases xs <;> rfl
theorem headD_o {xs : List Nat} : (xs.map nV).headD .non = oV xs.head? := by cases xs <;> rfl
end
/-- one more object that is none of the lines -/
def LA.more (D : LA) (p : Addr) : LA := { D with bad := fun b => D.bad b ∨ b = p }
theorem LdAt.more {H H' : Hp} {D : LA} {T : Tb} {p : Addr} (h : LdAt H D T) (hp : H p = none) (f : Fr No H H') (e : H' p ≠ none) : LdAt H' (D.more p) T := by
  have h' := h.fr0 f
  obtain ⟨as, a1, a2, a3⟩ := h'.lin
  obtain ⟨as0, b1, b2, b3⟩ := h.lin
  refine ⟨h'.dic, h'.own, h'.tim, h'.wan, h'.rou, ⟨as, a1, a2, fun i a ea => ⟨(a3 i a ea).1, fun z => ?_⟩⟩, h'.nd, fun b hb z => ?_, fun b hb => .inl (h.own_bad b hb), h.sz⟩
  · rcases z with z | z
    · exact (a3 i a ea).2 z
    · have e1 := f.lst b1
      have e2 : H' D.li = some (.lst (as.map V.ref)) := a1
      rw [e1] at e2
      have e3 : as0.map V.ref = as.map V.ref := by
        have := Option.some.inj e2
        injection this
      have e4 : as0 = as := List.map_inj_right (fun x y q => V.ref.inj q) |>.mp e3
      have := (b3 i a (by rw [e4]; exact ea)).1
      rw [z, hp] at this
      cases this
  · rcases hb with hb | hb
    · exact h'.old b hb z
    · exact e (hb ▸ z)
theorem LdAt.less {H : Hp} {D : LA} {T : Tb} {p : Addr} (h : LdAt H (D.more p) T) (ob : ∀ b, D.has b → D.bad b) : LdAt H D T := by
  obtain ⟨as, a1, a2, a3⟩ := h.lin
  exact ⟨h.dic, h.own, h.tim, h.wan, h.rou, ⟨as, a1, a2, fun i a ea => ⟨(a3 i a ea).1, fun z => (a3 i a ea).2 (.inl z)⟩⟩, h.nd, fun b hb => h.old b (.inl hb), ob, h.sz⟩
theorem LdAt.mut {H H' : Hp} {D : LA} {T : Tb} {p : Addr} (h : LdAt H (D.more p) T) (f : Fr (Only1 p) H H') (n : ¬ D.has p) : LdAt H' (D.more p) T := h.fr f (fun b hb => .inr hb) (fun b hb z => n (z ▸ hb))
theorem turns_list {α : Type} (xs : List α) (d0 : α) (p : α → Bool) (g : α → PyData) : turns (fun i => p (xs.getD i d0)) (fun i => g (xs.getD i d0)) xs.length = (xs.filter p).map g := by
  unfold turns
  have e : (List.range xs.length).map (fun i => xs.getD i d0) = xs := by
    refine List.ext_getElem (by simp) fun i h1 h2 => ?_
    rw [List.getElem_map, List.getElem_range, List.getD_eq_getElem?_getD, List.getElem?_eq_getElem h2]
    rfl
  have e2 : (xs.filter p).map g = (((List.range xs.length).map (fun i => xs.getD i d0)).filter p).map g := by rw [e]
  rw [e2, List.filter_map, List.map_map]
  rfl
theorem l_lineAt {K : PySem.W.Frag} {H : Hp} {D : LA} {T : Tb} (h : LdAt H D T) {l : Nat} (hl : l < T.m) : ∃ b, H b = some (.lst ((T.ln l).map nV)) ∧ ¬ D.bad b ∧ ∀ Q : VK, Q (.ref b) H → rIxL K (.ref D.li) (.int (l : Int)) H Q := by
  obtain ⟨as, a1, a2, a3⟩ := h.lin
  have hl' : l < as.length := by rw [a2, h.sz.li]; exact hl
  have e := List.getElem?_eq_getElem hl'
  exact ⟨_, (a3 _ _ e).1, (a3 _ _ e).2, fun Q q => r_ixl a1 (by rw [List.getElem?_map, e]; rfl) q⟩
theorem oD_depth (o : Option Nat) : (oD o).depth = 0 := by cases o <;> rfl
theorem nats_depth : ∀ xs : List Nat, PyData.depthAll (xs.map fun x : Nat => PyData.int (x : Int)) = 0
  | [] => by simp [PyData.depthAll]
  | x :: r => by
    have := nats_depth r
    simp only [List.map_cons, PyData.depthAll, PyData.depth, this]
    rfl
/-- what is given so far by one that leaves -/
structure LvD (D : LA) (T : Tb) (H : Hp) (P : Addr) (ls : List Nat) (H' : Hp) : Prop where
  fr : Fr D.foot H H'
  at_ : LsAt H' P (gone (Tb.passAll ls T).1)
  tb : LdAt H' (D.more P) (Tb.passAll ls T).2
/-! ### results -/
inductive Out where
  | b (x : Bool)
  | o (x : Option Nat)
  | g (rs : List (Nat × Option Nat))
def Out.d : Out → PyData
  | .b x => .bool x
  | .o x => oD x
  | .g rs => .list (gone rs)
def resD : Except Wd Out → PyData
  | .error w => .str w.str
  | .ok o => o.d
def OutAt (H H0 : Hp) (v : V) : Out → Prop
  | .b x => v = .bl x
  | .o x => v = oV x
  | .g rs => ∃ p, v = .ref p ∧ H0 p = none ∧ LsAt H p (gone rs) ∧ rs.length ≤ 100
def ResAt (H H0 : Hp) (v : V) : Except Wd Out → Prop
  | .error w => v = .str w.str
  | .ok o => OutAt H H0 v o
theorem gone_len (rs : List (Nat × Option Nat)) : (gone rs).length = rs.length := List.length_map _
theorem td_gone {H : Hp} : ∀ {rs : List (Nat × Option Nat)} {vs : List V}, TdAll H vs (gone rs) → DdAll H vs (gone rs)
  | [], _, h => by cases h; exact .nil
  | r :: rs, _, h => by
    cases h with
    | cons h1 h2 =>
      refine .cons ?_ (td_gone h2)
      cases h1 with
      | tup e a =>
        refine .tup e ?_ ?_
        · rw [a.len]
          show 2 ≤ 2000
          decide
        · cases a with
          | cons a1 a2 =>
            cases a2 with
            | cons b1 b2 =>
              cases b2
              refine .cons ?_ (.cons ?_ .nil)
              · cases a1; exact .int _
              · cases q : r.2 with
                | none => rw [q] at b1; cases b1; exact .non
                | some n => rw [q] at b1; cases b1; exact .int _
theorem OutAt.dd {H H0 : Hp} {v : V} {o : Out} (h : OutAt H H0 v o) : Dd H v o.d := by
  cases o with
  | b x => rw [show v = .bl x from h]; exact .bl x
  | o x => rw [show v = oV x from h]; exact dd_o x
  | g rs =>
    obtain ⟨p, rfl, _, ⟨vs, h1, h2⟩, hl⟩ := h
    exact .lst h1 (by rw [h2.len, gone_len]; omega) (td_gone h2)
theorem ResAt.dd {H H0 : Hp} {v : V} {r : Except Wd Out} (h : ResAt H H0 v r) : Dd H v (resD r) := by
  cases r with
  | error w => rw [show v = .str w.str from h]; exact .str _
  | ok o => exact OutAt.dd h
theorem OutAt.fr {S : Addr → Prop} {H H' H0 : Hp} {v : V} {o : Out} (h : OutAt H H0 v o) (f : Fr S H H') (n : ∀ p, S p → H0 p ≠ none) : OutAt H' H0 v o := by
  cases o with
  | b x => exact h
  | o x => exact h
  | g rs =>
    obtain ⟨p, h1, h0, h2, hl⟩ := h
    exact ⟨p, h1, h0, h2.fr f (fun z => n p z h0), hl⟩
theorem ResAt.fr {S : Addr → Prop} {H H' H0 : Hp} {v : V} {r : Except Wd Out} (h : ResAt H H0 v r) (f : Fr S H H') (n : ∀ p, S p → H0 p ≠ none) : ResAt H' H0 v r := by
  cases r with
  | error w => exact h
  | ok o => exact OutAt.fr h f n
theorem gone_depth : ∀ rs : List (Nat × Option Nat), PyData.depthAll (gone rs) ≤ 1
  | [] => by simp [gone, PyData.depthAll]
  | r :: rs => by
    have ih := gone_depth rs
    show PyData.depthAll (PyData.tuple [PyData.int (r.1 : Int), oD r.2] :: gone rs) ≤ 1
    have e : (oD r.2).depth = 0 := by cases r.2 <;> rfl
    simp only [PyData.depthAll, PyData.depth, e]
    omega
theorem resD_depth (r : Except Wd Out) : (resD r).depth < 8 := by
  cases r with
  | error w => exact Nat.lt_of_le_of_lt (Nat.le_refl 0) (by decide)
  | ok o =>
    cases o with
    | b x => exact Nat.lt_of_le_of_lt (Nat.le_refl 0) (by decide)
    | o x => cases x <;> exact Nat.lt_of_le_of_lt (Nat.le_refl 0) (by decide)
    | g rs =>
      show PyData.depth (.list (gone rs)) < 8
      have := gone_depth rs
      simp only [PyData.depth]
      omega
/-! ### the law's own table -/
abbrev sp_Ltable (K : PySem.W.Frag) : Sp := sp2 fun x y H Q E => ∃ n m : Nat, x = .int (n : Int) ∧ y = .int (m : Int) ∧ (Tb.new n m).Sz ∧ ∃ bad : Addr → Prop, (∀ b, bad b → H b ≠ none) ∧
  ∀ D H', LdAt H' D (Tb.new n m) → Fr No H H' → (∀ b, D.has b → H b = none) → (∀ b, D.bad b ↔ (D.has b ∨ bad b)) → Q (.ref D.d) H'
namespace Tb
def got (T : Tb) (o : Option Nat) (l : Nat) : Tb := match o with
  | none => T.free l
  | some a => T.take a l
end Tb
abbrev sp_Lgot (K : PySem.W.Frag) : Sp := sp3 fun x y z H Q E => ∃ D T, ∃ l : Nat, ∃ o : Option Nat, x = .ref D.d ∧ y = oV o ∧ z = .int (l : Int) ∧ LdAt H D T ∧ l < T.m ∧ ∀ H', LdAt H' D (T.got o l) → Fr D.foot H H' → Q .non H'
abbrev sp_Lpassed (K : PySem.W.Frag) : Sp := sp2 fun x z H Q E => ∃ D T, ∃ l : Nat, x = .ref D.d ∧ z = .int (l : Int) ∧ LdAt H D T ∧ l < T.m ∧ (∀ a ∈ T.ln l, a < T.n) ∧ (T.ln l).length ≤ 8 ∧ ∀ H', LdAt H' D (T.pass l) → Fr D.foot H H' → Q (oV (T.heir l)) H'
def fstr : Option Wd → Str
  | none => ""
  | some w => w.str
abbrev sp_Lfault (K : PySem.W.Frag) : Sp := sp3 fun x y z H Q E => ∃ D T a l, x = .ref D.d ∧ y = .int a ∧ z = .int l ∧ LdAt H D T ∧ Q (.str (fstr (T.fault a l))) H
abbrev sp_Lask (K : PySem.W.Frag) : Sp := sp3 fun x y z H Q E => ∃ D T a l, x = .ref D.d ∧ y = .int a ∧ z = .int l ∧ LdAt H D T ∧ T.Wf ∧ (∀ w T', T.askR a l = (.error w, T') → ∀ H', Fr No H H' → Q (.str w.str) H') ∧
  ∀ b T', T.askR a l = (.ok b, T') → ∀ H', LdAt H' D T' → Fr D.foot H H' → Q (.bl b) H'
abbrev sp_Lgive (K : PySem.W.Frag) : Sp := sp3 fun x y z H Q E => ∃ D T a l, x = .ref D.d ∧ y = .int a ∧ z = .int l ∧ LdAt H D T ∧ T.Wf ∧ (∀ w T', T.giveR a l = (.error w, T') → ∀ H', Fr No H H' → Q (.str w.str) H') ∧
  ∀ b T', T.giveR a l = (.ok b, T') → ∀ H', LdAt H' D T' → Fr D.foot H H' → Q (oV b) H'
abbrev sp_Lheld (K : PySem.W.Frag) : Sp := sp2 fun x y H Q E => ∃ D T, ∃ a : Nat, x = .ref D.d ∧ y = .int (a : Int) ∧ LdAt H D T ∧ ∀ p H', H p = none → H' p = some (.lst ((T.held a).map nV)) → Fr No H H' → Q (.ref p) H'
abbrev sp_Lleave (K : PySem.W.Frag) : Sp := sp2 fun x y H Q E => ∃ D T a, x = .ref D.d ∧ y = .int a ∧ LdAt H D T ∧ T.Wf ∧ (∀ w T', T.leaveR a = (.error w, T') → Q (.str w.str) H) ∧
  ∀ b T', T.leaveR a = (.ok b, T') → ∀ p H', LdAt H' D T' → Fr D.foot H H' → H p = none → LsAt H' p (gone b) → Q (.ref p) H'
abbrev sp_Lis (K : PySem.W.Frag) : Sp := sp2 fun x y H Q E => ∃ A D T, x = .ref A.p ∧ y = .ref D.d ∧ TbK K H A T ∧ LdAt H D T ∧ T.Wf ∧ ∀ H', Fr No H H' → Q (.bl true) H'
/-! ### deeds -/
inductive Deed where
  | ask (a l : Int)
  | give (a l : Int)
  | leave (a : Int)
def Deed.vs : Deed → List V
  | .ask a l => [.str "ask", .int a, .int l]
  | .give a l => [.str "give", .int a, .int l]
  | .leave a => [.str "leave", .int a]
def Tb.deedR (T : Tb) : Deed → Except Wd Out × Tb
  | .ask a l => ((T.askR a l).1.map Out.b, (T.askR a l).2)
  | .give a l => ((T.giveR a l).1.map Out.o, (T.giveR a l).2)
  | .leave a => ((T.leaveR a).1.map Out.g, (T.leaveR a).2)
namespace Tb
variable {T T' : Tb} {a l : Int} {w : Wd}
theorem askR_same {w : Wd} (e : T.askR a l = (.error w, T')) : T' = T := by
  unfold askR at e
  split at e
  · cases e; rfl
  · split at e
    · cases e; rfl
    · split at e
      · cases e; rfl
      · split at e <;> cases e
theorem giveR_same {w : Wd} (e : T.giveR a l = (.error w, T')) : T' = T := by
  unfold giveR at e
  split at e
  · cases e; rfl
  · split at e
    · cases e; rfl
    · split at e <;> cases e
      rfl
theorem leaveR_same {w : Wd} (e : T.leaveR a = (.error w, T')) : T' = T := by
  unfold leaveR at e
  split at e <;> cases e
  rfl
theorem leaveR_len {rs : List (Nat × Option Nat)} (W : T.Wf) (e : T.leaveR a = (.ok rs, T')) : rs.length ≤ 100 := by
  unfold leaveR at e
  split at e
  · cases e
    unfold leave
    rw [passAll_len]
    have h1 := held_len (T := T.unwait a.toNat) (a := a.toNat)
    have h2 := W.sz.m12
    rw [unwait_m] at h1
    omega
  · cases e
end Tb
section
variable {K : PySem.W.Frag} {H : Hp} {Q : VK} {v : V}
theorem r_ixt {a : Addr} {xs : List V} {i : Nat} (h : H a = some (.tup xs)) (e : xs[i]? = some v) (q : Q v H) : rIxT K (.ref a) (.int (i : Int)) H Q := ⟨a, _, _, _, rfl, rfl, SqT.of h, atI_nat e, q⟩
end
abbrev sp_Ldeed (K : PySem.W.Frag) : Sp := sp2 fun x y H Q E => ∃ st sc ns D T, x = .ref st ∧ y = .ref D.d ∧ StAt K H st sc ns ∧ ScF K sc ns (Only1 st) ∧ LdAt H D T ∧ D.bad st ∧ ¬ D.has st ∧
  ∀ p (dd : Deed) H', H p = none → H' p = some (.tup dd.vs) → StAt K H' st sc ns → Fr (Only1 st) H H' → Q (.ref p) H'
abbrev sp_Ldue (K : PySem.W.Frag) : Sp := sp2 fun x y H Q E => ∃ D T p, ∃ dd : Deed, x = .ref D.d ∧ y = .ref p ∧ LdAt H D T ∧ T.Wf ∧ H p = some (.tup dd.vs) ∧ ∀ v H', LdAt H' D (T.deedR dd).2 → ResAt H' H v (T.deedR dd).1 → Fr D.foot H H' → Q v H'
abbrev sp_Ldoes (K : PySem.W.Frag) : Sp := sp2 fun x y H Q E => ∃ A T p, ∃ dd : Deed, x = .ref A.p ∧ y = .ref p ∧ TbK K H A T ∧ T.Wf ∧ H p = some (.tup dd.vs) ∧ (∀ w, (T.deedR dd).1 = .error w → eW K w E H) ∧
  ∀ v o H', (T.deedR dd).1 = .ok o → TbK K H' A (T.deedR dd).2 → OutAt H' H v o → Fr A.foot H H' → Q v H'
end AL

namespace AL
open PySem PySem.Spec PyProof.Rows L2
/-! # the refusals' kinds; a lambda's call -/
def Wd.all : List Wd := [.noTable, .noHall, .noAgent, .noLock, .noHouse, .noLetter, .stopped, .waits, .holds, .notHeld, .up]
theorem Wd.mem (w : Wd) : w ∈ Wd.all := by cases w <;> decide
def excB (K : PySem.W.Frag) (D : Addr) : Bool :=
  decide (PySem.W.findIn K (.ref D) "__getattribute__" = some (some (.builtin "BaseException.__getattribute__"))) && (decide (PySem.W.findIn K (.ref D) "__getattr__" = some none) && (decide (PySem.W.subIn K (.ref D) (.type "BaseException") = some true) && (PySem.W.hasDictIn K D && (decide (PySem.W.findIn K (.ref D) "__class__" = some (some (.builtin "object.__class__"))) &&
  (decide (PySem.W.specialIn K (.builtin "object.__class__") "__get__" = some (some (.builtin "getset_descriptor.__get__"))) && (decide (PySem.W.takesIn K (.builtin "object.__class__") = some true) && decide (PySem.W.mroIn K D (.type "object") = some true)))))))
theorem excB_ok {K : PySem.W.Frag} {D : Addr} (h : excB K D = true) : ExcC K D := by
  unfold excB at h
  simp only [Bool.and_eq_true, decide_eq_true_eq] at h
  obtain ⟨h1, h2, h3, h4, h5, h6, h7, h8⟩ := h
  exact ⟨h1, h2, h3, h4, h5, h6, h7, h8⟩
def exB (K : PySem.W.Frag) : Bool := Wd.all.all fun w => excB K (He.ga K w.str) && (decide (PySem.W.kitOne K (w.cls K) (.type "ValueError") = some true) && (decide (PySem.W.exmOne K (w.cls K) (.ref (He.ga K "LockError")) = some true) && Wd.all.all fun w' => decide (PySem.W.kitOne K (w.cls K) (w'.cls K) = some (decide (w = w')))))
structure WdK (K : PySem.W.Frag) : Prop where
  x : ∀ w : Wd, ExcC K (He.ga K w.str)
  v : ∀ w : Wd, PySem.W.kitOne K (.ref (He.ga K w.str)) (.type "ValueError") = some true
  m : ∀ w : Wd, PySem.W.exmOne K (.ref (He.ga K w.str)) (.ref (He.ga K "LockError")) = some true
  w : ∀ w w' : Wd, PySem.W.kitOne K (.ref (He.ga K w.str)) (.ref (He.ga K w'.str)) = some (decide (w = w'))
theorem wdK_of {K : PySem.W.Frag} (h : exB K = true) : WdK K := by
  have k : ∀ w : Wd, _ := fun w => List.all_eq_true.mp h w w.mem
  simp only [Bool.and_eq_true, decide_eq_true_eq] at k
  exact ⟨fun w => excB_ok (k w).1, fun w => (k w).2.1, fun w => (k w).2.2.1, fun w w' => by
    have := List.all_eq_true.mp (k w).2.2.2 w' w'.mem
    exact of_decide_eq_true this⟩
/-! ### l.count(x), flat items -/
def rCntV (K : PySem.W.Frag) : V → List V → Hp → VK → Prop := fun x xs H Q => ∃ (p : Addr) (ys : List V) (y : V), x = .ref p ∧ xs = [y] ∧ SqL K H p ys ∧ flatV y = true ∧ ys.all flatV = true ∧ Q (.int ((ys.countP fun z => eqV z y : Nat) : Int)) H
theorem cnt_vals {y : V} : ∀ {ys : List V} {us : List Value}, Vals ys us → ys.all flatV = true → us.countP (eqU y) = ys.countP fun z => eqV z y
  | _, _, .nil, _ => rfl
  | z :: ys, u :: us, .cons r t, f => by
    rw [List.all_cons, Bool.and_eq_true] at f
    have e := eqU_of (x := y) r f.1
    rw [List.countP_cons, List.countP_cons, cnt_vals t f.2, e]
theorem mt_lcountV {X : Cx} : MtR X "list.count" (rCntV X.K) := by
  intro pins s σ H x xs v us Q I rx rxs h
  obtain ⟨p, ys, y, rfl, rfl, hs, fy, fys, q⟩ := h
  cases rx
  obtain ⟨u, rfl, ry⟩ := rxs.one
  obtain ⟨its, rv, ⟨⟨cls, dd, data, sl⟩, n, ho, hc, hdn, hd⟩, hlen⟩ := I.list hs
  simp only at hc hd
  subst hc hd
  have ec : its.toArray.toList.countP (eqU y) = ys.countP fun z => eqV z y := cnt_vals rv fys
  have fin : V.int ((ys.countP fun z => eqV z y : Nat) : Int) = V.int ((its.toArray.toList.countP (eqU y) : Nat) : Int) := by rw [ec]
  rw [fin] at q
  exact call_meets PySem.F.slot_list_count ⟨_, ho, rfl⟩ PySem.F.entry_list_count (PySem.F.args_list_count_2 _ _) (SeqAt.list_countAt p its.toArray n dd sl u (eqU y))
    ⟨ho, fun u' hu => mem_eqAt ry fy rv fys u' (by simpa using hu), .int _, H, I.tok _, ⟨s.toks, rfl⟩, q⟩
/-! ### readings -/
section
variable {K : PySem.W.Frag} {H : Hp} {Q : VK}
theorem r_isE (W : WdK K) {w : Wd} (w' : Wd) {a : Addr} (q : Q (.bl (decide (w = w'))) H) : rIsE K (He.ga K w.str) a [.ref a, .ref (He.ga K w'.str)] H Q := ⟨_, .ref (He.ga K w'.str), _, rfl, fun u r => r, W.w w w', q⟩
theorem r_isEV (W : WdK K) {w : Wd} {a : Addr} (q : Q (.bl true) H) : rIsE K (He.ga K w.str) a [.ref a, .ty "ValueError"] H Q := ⟨_, .type "ValueError", _, rfl, fun u r => r, W.v w, q⟩
end
/-- the answers of the eleven questions -/
def Wd.row (w : Wd) : List V := [.bl (decide (w = .noTable)), .bl (decide (w = .noHall)), .bl (decide (w = .noAgent)), .bl (decide (w = .noLock)), .bl (decide (w = .noHouse)), .bl (decide (w = .noLetter)), .bl (decide (w = .stopped)), .bl (decide (w = .waits)), .bl (decide (w = .holds)), .bl (decide (w = .notHeld)), .bl (decide (w = .up))]
def Wd.ix : Wd → Nat
  | .noTable => 0 | .noHall => 1 | .noAgent => 2 | .noLock => 3 | .noHouse => 4 | .noLetter => 5 | .stopped => 6 | .waits => 7 | .holds => 8 | .notHeld => 9 | .up => 10
def Wd.words : List V := [.str "NoTable", .str "NoHall", .str "NoAgent", .str "NoLock", .str "NoHouse", .str "NoLetter", .str "Stopped", .str "Waits", .str "Holds", .str "NotHeld", .str "Up"]
theorem Wd.row_flat (w : Wd) : w.row.all flatV = true := by cases w <;> decide
theorem Wd.row_cnt (w : Wd) : (w.row.countP fun z => eqV z (.bl true)) = 1 := by cases w <;> decide
theorem Wd.row_ix (w : Wd) : w.row[w.ix]? = some (.bl true) := by cases w <;> rfl
theorem Wd.row_no (w : Wd) : ∀ (m : Nat) (z : V), m < w.ix → w.row[m]? = some z → eqV z (.bl true) = false := by
  intro m z hm hz
  have key : ∀ m, m < w.ix → w.row[m]? = some (.bl false) := by
    cases w <;> decide +revert
  rw [key m hm] at hz
  cases hz
  rfl
theorem Wd.word_ix (w : Wd) : Wd.words[w.ix]? = some (.str w.str) := by cases w <;> rfl
/-- what the catcher makes of a lambda's reading -/
def TKind (K : PySem.W.Frag) : (XK → Hp → VK → Prop) → Hp → VK → Prop := fun tl H Q => tl (fun cls d H' => d = none ∧ ∃ w : Wd, cls = w.cls K ∧ ∀ H2, Fr No H' H2 → Q (.str w.str) H2) H Q
/-- what the catcher's suite may lean on -/
def tsKind (K : PySem.W.Frag) : Addr → Value → Option Addr → TS := fun a cls d D σ H => ∃ w : Wd, cls = w.cls K ∧ d = none ∧ (∃ σ0 : L2.St, σ = σ0.set 1 (some (.ref a))) ∧ ∀ H2, Fr No H H2 → D.rt (.str w.str) H2
theorem slots4 {σ0 : L2.St} {y : Option V} (h : (σ0.set 1 y).length = 4) : ∃ x z u, σ0.set 1 y = [x, y, z, u] := by
  rw [List.length_set] at h
  match σ0, h with
  | [a, b, c, d], _ => exact ⟨a, c, d, rfl⟩
theorem pLam {X : Cx} {A : Around} {outer : List Env} {s : Shared} {H : Hp} {E : XK} {scope : Scope} {f c' : Addr} : Passes (L2.CX X.prog X.w) (LamX.lamCx X A outer s H E scope f c') E :=
  passes_call (takes_of rfl rfl rfl rfl) fun _ _ _ _ h => h
/-! ### tables of code objects -/
section
variable {H H' : Hp} {S : Addr → Prop} {T : List (Addr × Str)} {D : LA} {Tt : Tb} {K : PySem.W.Frag} {A : TA}
def OldL (S : Addr → Prop) (H : Hp) : Prop := ∀ b, S b → ∃ xs, H b = some (.lst xs)
theorem tabs_fr (t : LamX.Tabs T H) (f : Fr S H H') (hS : OldL S H) : LamX.Tabs T H' := fun p hp => by
  obtain ⟨ps, h1, h2, h3⟩ := t p hp
  refine ⟨ps, f.old _ _ h1 (fun z => ?_), h2, fun pos cv hc => ?_⟩
  · obtain ⟨xs, e⟩ := hS _ z
    rw [h1] at e
    cases e
  · obtain ⟨c, e1, e2⟩ := h3 pos cv hc
    refine ⟨c, e1, f.old _ _ e2 (fun z => ?_)⟩
    obtain ⟨xs, e⟩ := hS _ z
    rw [e2] at e
    unfold LamX.CodeO at e
    cases e
theorem old_no : OldL No H := fun _ z => z.elim
theorem old_foot {C : Addr} (h : TbAt C H A Tt) : OldL A.foot H := fun b hb => by
  unfold TA.foot at hb
  simp only [List.mem_cons] at hb
  rcases hb with e | e | e | e | e
  · rw [e]; exact ⟨_, h.own⟩
  · rw [e]; exact ⟨_, h.tim⟩
  · rw [e]; exact ⟨_, h.wan⟩
  · rw [e]; exact ⟨_, h.rou⟩
  · obtain ⟨i, hi, e⟩ := List.mem_iff_getElem.mp e
    exact ⟨_, h.each i b (by rw [List.getElem?_eq_getElem hi, e])⟩
theorem old_lfoot (h : LdAt H D Tt) : OldL D.foot H := fun b hb => by
  unfold LA.foot at hb
  simp only [List.mem_cons, List.not_mem_nil, or_false] at hb
  obtain ⟨as, a1, _⟩ := h.lin
  rcases hb with e | e | e | e | e
  · rw [e]; exact ⟨_, h.own⟩
  · rw [e]; exact ⟨_, a1⟩
  · rw [e]; exact ⟨_, h.tim⟩
  · rw [e]; exact ⟨_, h.wan⟩
  · rw [e]; exact ⟨_, h.rou⟩
theorem old_one {p : Addr} {xs : List V} (h : H p = some (.lst xs)) : OldL (Only1 p) H := fun b hb => ⟨xs, by rw [show b = p from hb]; exact h⟩
/-- what stands stays when a lambda is made -/
theorem TbAt.ext {C : Addr} (h : TbAt C H A Tt) (e : LamX.ExtN H H') : TbAt C H' A Tt :=
  ⟨e _ _ h.ins (fun ps z => by cases z), e _ _ h.own (fun ps z => by cases z), e _ _ h.lin (fun ps z => by cases z), e _ _ h.tim (fun ps z => by cases z), e _ _ h.wan (fun ps z => by cases z), e _ _ h.rou (fun ps z => by cases z), fun i a k => e _ _ (h.each i a k) (fun ps z => by cases z), h.ll, h.nd, h.sz⟩
theorem LdAt.ext (h : LdAt H D Tt) (e : LamX.ExtN H H') (hb : ∀ b, D.bad b → ∃ o, H b = some o ∧ ∀ ps, o ≠ .tbl ps) : LdAt H' D Tt := by
  obtain ⟨as, a1, a2, a3⟩ := h.lin
  exact ⟨e _ _ h.dic (fun ps z => by cases z), e _ _ h.own (fun ps z => by cases z), e _ _ h.tim (fun ps z => by cases z), e _ _ h.wan (fun ps z => by cases z), e _ _ h.rou (fun ps z => by cases z), ⟨as, e _ _ a1 (fun ps z => by cases z), a2, fun i a k => ⟨e _ _ (a3 i a k).1 (fun ps z => by cases z), (a3 i a k).2⟩⟩, h.nd, (fun b k z => by
    obtain ⟨o, h1, h2⟩ := hb b k
    rw [e _ _ h1 h2] at z
    cases z), h.own_bad, h.sz⟩
theorem sqL_ext {a : Addr} {xs : List V} (h : SqL K H a xs) (e : LamX.ExtN H H') : SqL K H' a xs := by
  rcases h with (h | ⟨o, h⟩) | h
  · exact .inl (.inl (e _ _ h (fun ps z => by cases z)))
  · exact .inl (.inr ⟨o, e _ _ h (fun ps z => by cases z)⟩)
  · exact .inr h
theorem StAt.ext {st sc : Addr} {ns : List Int} (h : StAt K H st sc ns) (e : LamX.ExtN H H') : StAt K H' st sc ns := by
  obtain ⟨i, m, l, h1, h2, h3⟩ := h.ex
  exact ⟨⟨i, m, l, e _ _ h1 (fun ps z => by cases z), h2, h3⟩, sqL_ext h.sq e, h.len⟩
theorem OutAt.ext {H0 : Hp} {v : V} {o : Out} (h : OutAt H H0 v o) (e : LamX.ExtN H H') : OutAt H' H0 v o := by
  have td : ∀ (xs : List V) (rs : List (Nat × Option Nat)), TdAll H xs (gone rs) → TdAll H' xs (gone rs) := by
    intro xs rs
    induction rs generalizing xs with
    | nil => intro h; cases h; exact .nil
    | cons r rs ih =>
      intro h
      cases h with
      | cons h1 h2 =>
        refine .cons ?_ (ih _ h2)
        cases h1 with
        | tup k a =>
          refine .tup (e _ _ k (fun ps z => by cases z)) ?_
          cases a with
          | cons a1 a2 =>
            cases a2 with
            | cons b1 b2 =>
              cases b2
              refine .cons ?_ (.cons ?_ .nil)
              · cases a1; exact .int _
              · cases q : r.2 with
                | none => rw [q] at b1; cases b1; exact .non
                | some n => rw [q] at b1; cases b1; exact .int _
  cases o with
  | b x => exact h
  | o x => exact h
  | g rs =>
    obtain ⟨p, h1, h0, ⟨vs, h2, h3⟩, hl⟩ := h
    exact ⟨p, h1, h0, ⟨vs, e _ _ h2 (fun ps z => by cases z), td _ _ h3⟩, hl⟩
theorem ResAt.ext {H0 : Hp} {v : V} {r : Except Wd Out} (h : ResAt H H0 v r) (e : LamX.ExtN H H') : ResAt H' H0 v r := by
  cases r with
  | error w => exact h
  | ok o => exact OutAt.ext h e
end
theorem hu_nodup {α : Type} {tf : List α} {g : α → Addr} {qn : α → Str} (nd : (tf.map g).Nodup) {d : α} (hd : d ∈ tf) : ∀ p ∈ tf.map (fun d => (g d, qn d)), p.1 = g d → p.2 = qn d := fun p hp e => by
  obtain ⟨c, hc, rfl⟩ := List.mem_map.mp hp
  have e' : g c = g d := e
  have : c = d := by
    clear hp
    induction tf with
    | nil => cases hd
    | cons x r ih =>
      rw [List.map_cons, List.nodup_cons] at nd
      rcases List.mem_cons.mp hd with h1 | h1 <;> rcases List.mem_cons.mp hc with h2 | h2
      · rw [h1, h2]
      · exact absurd (List.mem_map.mpr ⟨c, h2, e'.trans (by rw [h1])⟩) nd.1
      · exact absurd (List.mem_map.mpr ⟨d, h1, e'.symm.trans (by rw [h2])⟩) nd.1
      · exact ih nd.2 h1 h2
  rw [this]
/-- a def in which a lambda is made: its code object and table are known -/
theorem fnFL {P : Program} {w : World} {K : PySem.W.Frag} {mg : Str → Option Value} {base : Heap} {x qual : Str} {st : Stmt} {p : He.Defn} {N ps : List Str} {k : Nat} {sp : Sp} {fd : FuncData} (F : FunD K x qual (defArgs st) (defBody st) (defScope st) [] [] (He.fAd K p) fd) (S : FnScope N ps (defScope st))
    (len : ∀ vs H Q E, sp vs H Q E → vs.length = ps.length)
    (hbody : ∀ (A : Around) (outer : List Env) (s : Shared) (H : Hp) (vs : List V) (Q : VK) (E : XK), Room k (A.deeper (envOfC qual (defScope st) s.heap.objs.size (He.fAd K p) (.ref (He.cT K p).1))) → sp vs H Q E →
      ∃ t, PSs (cxOf (L2.CX P w) P w K mg base N qual (defScope st) (He.fAd K p) (.ref (He.cT K p).1) A outer s H E) (defBody st) t ∧ t { nx := fun _ H' => Q .non H', rt := Q } (start N vs) H) : FnOk P w K mg base (L2.CX P w) (k + 1) (He.fAd K p) fd ps sp := by
  obtain ⟨oc, od, dV, kV, doc, pm, an, cdv, ct, osl, e, lk, hcd, _, _⟩ := F.ex
  obtain ⟨c, rfl⟩ := He.codeIn_ref hcd
  subst e
  have ec : (He.cT K p).1 = c := He.codeOf_eq lk rfl
  rw [ec] at hbody
  exact fn_of lk hcd S len fun A outer s H vs Q E hr hsp => hbody A outer s H vs Q E hr hsp
/-- a def in which a lambda is made: its code object and table are known -/
theorem okFL {P : Program} {w : World} {K : PySem.W.Frag} {mg : Str → Option Value} {base : Heap} {x qual : Str} {st : Stmt} {p : He.Defn} {N ps : List Str} {k : Nat} {sp : Sp} (F : DefAt K x qual st (He.fAd K p)) (S : FnScope N ps (defScope st))
    (hbi : ∀ (kV doc pm : Value) (an : Option Addr) (cdv ct : Value) (us : List Value), us.length = ps.length → bindArgs (PySem.W.fnOf x qual (defArgs st) (defBody st) (defScope st) .none kV doc pm an cdv ct) ⟨us, []⟩ = pure (ps.zip us))
    (len : ∀ vs H Q E, sp vs H Q E → vs.length = ps.length)
    (hbody : ∀ (A : Around) (outer : List Env) (s : Shared) (H : Hp) (vs : List V) (Q : VK) (E : XK), Room k (A.deeper (envOfC qual (defScope st) s.heap.objs.size (He.fAd K p) (.ref (He.cT K p).1))) → sp vs H Q E →
      ∃ t, PSs (cxOf (L2.CX P w) P w K mg base N qual (defScope st) (He.fAd K p) (.ref (He.cT K p).1) A outer s H E) (defBody st) t ∧ t { nx := fun _ H' => Q .non H', rt := Q } (start N vs) H) : OkF P w K mg base (k + 1) (He.fAd K p) ps sp := by
  obtain ⟨fd, F⟩ := F
  exact ⟨⟨fd, fnFL F S len hbody, F.bindsN hbi⟩, F.kp⟩
end AL

namespace AL
open PySem PySem.Spec PyProof.Rows L2
/-! # the law's loop: the table, the law's own, the state of drawing -/
section
variable {K : PySem.W.Frag} {σ : L2.St} {H H' : Hp} {Q : VK} {D : Ends} {tb : TS} {ta : L2.TA} {j : Nat}
def ForOn (g : TG) (tb : TS) (D : Ends) (σ : L2.St) (J : It) (H1 : Hp) : Prop := ∃ W : Nat → Nat → L2.St → Hp → Prop, (∃ m, W 0 m σ H1) ∧ ∀ i m σ H, W i m σ H →
  (J.stop i H ∧ D.nx σ H) ∨ (J.go i H ∧ ∃ N : L2.St → Hp → Prop, (∀ σ' H', N σ' H' → ∃ m', m' < m ∧ W (i + 1) m' σ' H') ∧ ∀ x H', J.yld i H x H' → g x σ H' fun σ2 H2 => tb { D with nx := N, ct := N, bk := D.nx } σ2 H2)
theorem r_forRx (h : ta σ H fun vs H1 => ∃ jj : Int, vs = [.int jj] ∧ -(2 ^ 62) ≤ jj ∧ jj < 2 ^ 62 ∧ ForOn (gName j) tb D σ (Itr 0 jj.toNat) H1) : tFor (iRng1 ta) (gName j) tb D σ H := h
theorem r_rngOn {n : Nat} (hn : n ≤ 2000) (Pv : Nat → L2.St → Hp → Prop) (h0 : Pv 0 σ H)
    (hs : ∀ (i : Nat) σ' H', i < n → Pv i σ' H' → tb { D with nx := Pv (i + 1), ct := Pv (i + 1), bk := D.nx } (σ'.set j (some (.int (i : Int)))) H') (hd : ∀ σ' H', Pv n σ' H' → D.nx σ' H') :
    ∃ jj : Int, [V.int (n : Int)] = [.int jj] ∧ -(2 ^ 62) ≤ jj ∧ jj < 2 ^ 62 ∧ ForOn (gName j) tb D σ (Itr 0 jj.toNat) H := by
  refine ⟨(n : Int), rfl, by omega, by omega, ?_⟩
  have en : ((n : Int)).toNat = n := by omega
  rw [en]
  refine for_range (lo := 0) (n := n) Pv h0 (fun i σ' H' hi p => ?_) hd
  have e0 : (0 : Int) + (i : Int) = (i : Int) := Int.zero_add _
  rw [e0]
  exact hs i σ' H' hi p
/-- over a list just made -/
theorem r_forLx {tl : TE} {g : TG} (h : tl σ H fun x H1 => ∃ a, x = .ref a ∧ (∃ xs, SqL K H1 a xs) ∧ ForOn g tb D σ (Itl K a) H1) : tFor (iList K tl) g tb D σ H := h
theorem r_lstOn {a : Addr} {xs : List V} (hx : H a = some (.lst xs)) (Pv : Nat → L2.St → Hp → Prop) (h0 : Pv 0 σ H) (hl : ∀ i σ' H', i ≤ xs.length → Pv i σ' H' → SqL K H' a xs)
    (hs : ∀ i x σ' H', xs[i]? = some x → Pv i σ' H' → tb { D with nx := Pv (i + 1), ct := Pv (i + 1), bk := D.nx } (σ'.set j (some x)) H') (hd : ∀ σ' H', Pv xs.length σ' H' → D.nx σ' H') :
    ∃ b, V.ref a = .ref b ∧ (∃ xs, SqL K H b xs) ∧ ForOn (gName j) tb D σ (Itl K b) H := ⟨a, rfl, ⟨xs, SqL.of hx⟩, for_list Pv h0 hl hs hd⟩
end
/-! ### the script apart -/
section
variable {K : PySem.W.Frag} {H H' : Hp} {sc : Addr} {ns : List Int} {S : Addr → Prop}
theorem scF_of (h : SqL K H sc (ns.map V.int)) (hS : ∀ b, S b → H b = none) : ScF K sc ns S := by
  rcases h with (h | ⟨o, h⟩) | h
  · exact .inr fun z => by rw [hS _ z] at h; cases h
  · exact .inr fun z => by rw [hS _ z] at h; cases h
  · exact .inl fun H => .inr h
theorem scF_mono {S' : Addr → Prop} (h : ScF K sc ns S) (m : ∀ b, S' b → S b) : ScF K sc ns S' := h.elim .inl fun n => .inr fun z => n (m _ z)
end
/-! ### loose objects -/
def LA.moreP (D : LA) (S : Addr → Prop) : LA := { D with bad := fun b => D.bad b ∨ S b }
theorem LdAt.moreP {H H' : Hp} {D : LA} {T : Tb} {S R : Addr → Prop} (h : LdAt H D T) (hS : ∀ b, S b → H b = none) (f : Fr R H H') (h1 : ∀ b, R b → D.bad b) (h2 : ∀ b, D.has b → ¬ R b) (e : ∀ b, S b → H' b ≠ none) : LdAt H' (D.moreP S) T := by
  have h' := h.fr f h1 h2
  obtain ⟨as, a1, a2, a3⟩ := h'.lin
  obtain ⟨as0, b1, b2, b3⟩ := h.lin
  refine ⟨h'.dic, h'.own, h'.tim, h'.wan, h'.rou, ⟨as, a1, a2, fun i a ea => ⟨(a3 i a ea).1, fun z => ?_⟩⟩, h'.nd, fun b hb z => ?_, fun b hb => .inl (h.own_bad b hb), h.sz⟩
  · rcases z with z | z
    · exact (a3 i a ea).2 z
    · have e1 := f.old _ _ b1 (h2 _ (by simp [LA.has]))
      have e2 : H' D.li = some (.lst (as.map V.ref)) := a1
      rw [e1] at e2
      have e3 : as0.map V.ref = as.map V.ref := by
        have := Option.some.inj e2
        injection this
      have e4 : as0 = as := List.map_inj_right (fun x y q => V.ref.inj q) |>.mp e3
      have := (b3 i a (by rw [e4]; exact ea)).1
      rw [hS a z] at this
      cases this
  · rcases hb with hb | hb
    · exact h'.old b hb z
    · exact e b hb z
theorem LdAt.lessP {H : Hp} {D : LA} {T : Tb} {S : Addr → Prop} (h : LdAt H (D.moreP S) T) (ob : ∀ b, D.has b → D.bad b) : LdAt H D T := by
  obtain ⟨as, a1, a2, a3⟩ := h.lin
  exact ⟨h.dic, h.own, h.tim, h.wan, h.rou, ⟨as, a1, a2, fun i a ea => ⟨(a3 i a ea).1, fun z => (a3 i a ea).2 (.inl z)⟩⟩, h.nd, fun b hb => h.old b (.inl hb), ob, h.sz⟩
/-! ### the whole state -/
/-- what stands apart, once for all -/
structure LwS (K : PySem.W.Frag) (A : TA) (D : LA) (st sc : Addr) (ns : List Int) : Prop where
  ad : ∀ b, A.has b → ¬ D.has b
  ab : ∀ b, A.has b → D.bad b
  sb : D.bad st
  sd : ¬ D.has st
  sa : ¬ A.has st
  ob : ∀ b, D.has b → D.bad b
  bo : ∀ b, D.bad b → D.has b ∨ A.has b ∨ b = st
  fa : ScF K sc ns A.foot
  fd : ScF K sc ns D.foot
  fs : ScF K sc ns (Only1 st)
structure Lw (K : PySem.W.Frag) (A : TA) (D : LA) (st sc : Addr) (ns : List Int) (Ts : List (Addr × Str)) (T : Tb) (H : Hp) : Prop where
  tb : TbK K H A T
  ld : LdAt H D T
  st : StAt K H st sc ns
  ts : LamX.Tabs Ts H
  wf : T.Wf
section
variable {K : PySem.W.Frag} {A : TA} {D : LA} {st sc : Addr} {ns : List Int} {Ts : List (Addr × Str)} {T T' : Tb} {H H' : Hp}
theorem Lw.fr0 (h : Lw K A D st sc ns Ts T H) (f : Fr No H H') : Lw K A D st sc ns Ts T H' := ⟨h.tb.fr0 f, h.ld.fr0 f, h.st.fr0 f, tabs_fr h.ts f old_no, h.wf⟩
theorem Lw.frS (s : LwS K A D st sc ns) (h : Lw K A D st sc ns Ts T H) (f : Fr (Only1 st) H H') (hs : StAt K H' st sc ns) : Lw K A D st sc ns Ts T H' := by
  obtain ⟨xs, e⟩ := h.st.lst
  exact ⟨h.tb.fr f fun b hb z => s.sa (z ▸ hb), h.ld.fr f (fun b hb => hb ▸ s.sb) (fun b hb z => s.sd (z ▸ hb)), hs, tabs_fr h.ts f (old_one e), h.wf⟩
theorem Lw.bad_l (h : LdAt H D T) {b : Addr} (z : D.has b) : ∃ o, H b = some o ∧ ∀ ps, o ≠ .tbl ps := by
  unfold LA.has at z
  simp only [List.mem_cons, List.not_mem_nil, or_false] at z
  obtain ⟨as, a1, _⟩ := h.lin
  rcases z with e | e | e | e | e | e
  · rw [e]; exact ⟨_, h.dic, fun xs z => by cases z⟩
  · rw [e]; exact ⟨_, h.own, fun xs z => by cases z⟩
  · rw [e]; exact ⟨_, a1, fun xs z => by cases z⟩
  · rw [e]; exact ⟨_, h.tim, fun xs z => by cases z⟩
  · rw [e]; exact ⟨_, h.wan, fun xs z => by cases z⟩
  · rw [e]; exact ⟨_, h.rou, fun xs z => by cases z⟩
theorem Lw.bad_t (hT : TbK K H A T) {b : Addr} (z : A.has b) : ∃ o, H b = some o ∧ ∀ ps, o ≠ .tbl ps := by
  unfold TA.has at z
  simp only [List.mem_cons] at z
  rcases z with e | e | e | e | e | e | e
  · rw [e]; exact ⟨_, hT.ins, fun xs z => by cases z⟩
  · rw [e]; exact ⟨_, hT.lin, fun xs z => by cases z⟩
  · rw [e]; exact ⟨_, hT.own, fun xs z => by cases z⟩
  · rw [e]; exact ⟨_, hT.tim, fun xs z => by cases z⟩
  · rw [e]; exact ⟨_, hT.wan, fun xs z => by cases z⟩
  · rw [e]; exact ⟨_, hT.rou, fun xs z => by cases z⟩
  · obtain ⟨i, hi, e⟩ := List.mem_iff_getElem.mp e
    exact ⟨_, hT.each i b (by rw [List.getElem?_eq_getElem hi, e]), fun xs z => by cases z⟩
theorem Lw.bad (s : LwS K A D st sc ns) (h : Lw K A D st sc ns Ts T H) : ∀ b, D.bad b → ∃ o, H b = some o ∧ ∀ ps, o ≠ .tbl ps := fun b hb => by
  rcases s.bo b hb with z | z | z
  · exact Lw.bad_l h.ld z
  · exact Lw.bad_t h.tb z
  · rw [z]
    obtain ⟨xs, e⟩ := h.st.lst
    exact ⟨_, e, fun xs z => by cases z⟩
theorem Lw.new (s : LwS K A D st sc ns) (h : Lw K A D st sc ns Ts T H) {p : Addr} (hp : H p = none) : ¬ A.has p ∧ ¬ D.bad p ∧ p ≠ st ∧ ScF K sc ns (Only1 p) := by
  have hb : ¬ D.bad p := fun z => by
    obtain ⟨o, e, _⟩ := h.bad s p z
    rw [hp] at e
    cases e
  exact ⟨fun z => hb (s.ab _ z), hb, fun z => hb (z ▸ s.sb), scF_of h.st.sq fun b hb => by rw [show b = p from hb]; exact hp⟩
end
theorem ResAt.kind {H H0 : Hp} {v : V} {r : Except Wd Out} (h : ResAt H H0 v r) : (∃ b, v = .ref b ∧ H0 b = none ∧ ∃ xs, H b = some (.lst xs) ∧ xs.length ≤ 100) ∨ ((∀ b, v ≠ .ref b) ∧ ∃ a : String, kitB a "list" = some false ∧ ∀ (K : PySem.W.Frag) (H' : Hp), TyX K H' v (.type a)) := by
  cases r with
  | error w =>
    rw [show v = .str w.str from h]
    exact .inr ⟨(fun b z => by cases z), "str", by decide +kernel, fun K H' => .base (.str _)⟩
  | ok o =>
    cases o with
    | b x =>
      rw [show v = .bl x from h]
      exact .inr ⟨(fun b z => by cases z), "bool", by decide +kernel, fun K H' => .base (.bl _)⟩
    | o x =>
      rw [show v = oV x from h]
      cases x with
      | none => exact .inr ⟨(fun b z => by cases z), "NoneType", by decide +kernel, fun K H' => .base .non⟩
      | some n => exact .inr ⟨(fun b z => by cases z), "int", by decide +kernel, fun K H' => .base (.int _)⟩
    | g rs =>
      obtain ⟨p, rfl, h0, ⟨vs, h1, h2⟩, hl⟩ := h
      exact .inl ⟨p, rfl, h0, vs, h1, by rw [h2.len, gone_len]; exact hl⟩
/-! ### the deed is done, or refused -/
namespace Tb
theorem deedR_same {T : Tb} {dd : Deed} {w : Wd} (h : (T.deedR dd).1 = .error w) : (T.deedR dd).2 = T := by
  cases dd with
  | ask a l =>
    show (T.askR a l).2 = T
    cases q : T.askR a l with
    | mk r T' =>
      have h2 : (T.askR a l).1.map Out.b = .error w := h
      rw [q] at h2
      cases r with
      | error w' => rw [askR_same q]
      | ok o => cases h2
  | give a l =>
    show (T.giveR a l).2 = T
    cases q : T.giveR a l with
    | mk r T' =>
      have h2 : (T.giveR a l).1.map Out.o = .error w := h
      rw [q] at h2
      cases r with
      | error w' => rw [giveR_same q]
      | ok o => cases h2
  | leave a =>
    show (T.leaveR a).2 = T
    cases q : T.leaveR a with
    | mk r T' =>
      have h2 : (T.leaveR a).1.map Out.g = .error w := h
      rw [q] at h2
      cases r with
      | error w' => rw [leaveR_same q]
      | ok o => cases h2
theorem Wf.deedR {T : Tb} (W : T.Wf) (dd : Deed) : (T.deedR dd).2.Wf := by
  cases dd with
  | ask a l => exact W.askR
  | give a l => exact W.giveR
  | leave a => exact W.leaveR
end Tb
theorem r_kindDoes {K : PySem.W.Frag} {A : TA} {T : Tb} {p : Addr} {dd : Deed} {i j : Nat} {σ : L2.St} {H : Hp} {Q : VK} (hi : σ[i]? = some (some (.ref A.p))) (hj : σ[j]? = some (some (.ref p))) (hT : TbK K H A T) (hW : T.Wf) (hp : H p = some (.tup dd.vs))
    (q : ∀ v H', TbK K H' A (T.deedR dd).2 → ResAt H' H v (T.deedR dd).1 → Fr A.foot H H' → Q v H') : TKind K (fun E H' Q' => tCall (sp_Ldoes K) [] E (tCons (tVar i) (tCons (tVar j) tNil)) σ H' Q') H Q := by
  refine ⟨_, hi, _, hj, ?_⟩
  refine ⟨_, _, rfl, A, T, p, dd, rfl, rfl, hT, hW, hp, fun w ew => ?_, fun v o H' eo hT' ho f => ?_⟩
  · refine ⟨rfl, w, rfl, fun H2 f => q _ H2 ?_ ?_ f.up⟩
    · rw [Tb.deedR_same ew]; exact hT.fr0 f
    · rw [ew]; rfl
  · refine q v H' hT' ?_ f
    rw [eo]; exact ho
abbrev sp_law (Ts : List (Addr × Str)) (K : PySem.W.Frag) : Sp := sp1 fun x H Q E => ∃ sc, ∃ ns : List Int, x = .ref sc ∧ SqL K H sc (ns.map V.int) ∧ ns.length ≤ 63 ∧ LamX.Tabs Ts H ∧ ∀ H', Q (.bl true) H'
/-- a def's lambda's full name -/
def lamQ (qual : Str) (sc : Scope) : Str := (envOfC qual sc 0 0 .none).qual ++ "<lambda>"
/-- a suite's reading by another one -/
theorem pss_ofL {X : Cx} {ss : List Stmt} {u : TS} (m : ∀ D σ H, σ.length = X.N.length → u D σ H → ∃ t, PSs X ss t ∧ t D σ H) : PSs X ss u := ⟨fun pins s σ H D I hu => by
  obtain ⟨t, ht, q⟩ := m D σ H I.len hu
  exact ht.run pins s σ H D I q⟩
end AL

namespace AL
open PySem PySem.Spec PyProof.Rows L2
theorem op_isF {X : Cx} : OpR X (compareOp .Is) (fun x y H Q => ∃ b : Bool, y = .bl b ∧ Q (.bl (decide (x = .bl b))) H) := by
  intro pins s σ H x y v u Q I rx ry h
  obtain ⟨b, rfl, q⟩ := h
  cases (show u = Value.bool b from ry)
  have off : ∀ (v : Value), plainIs v (.bool b) = true → v ≠ Value.bool b → x ≠ .bl b → wpAny (model X.prog X.w) X.A (compareOp .Is v (.bool b)) (EP X pins σ Q) X.xe s := fun v hp hv hx => by
    rw [decide_eq_false hx] at q
    exact wpAny_is_other hp hv ⟨.bl false, H, I, rfl, q⟩
  cases x with
  | bl a =>
    cases (show v = Value.bool a from rx)
    by_cases e : a = b
    · subst e
      exact wpAny_is_self rfl ⟨.bl true, H, I, rfl, by simpa using q⟩
    · exact off _ rfl (fun z => e (Value.bool.inj z)) (fun z => e (V.bl.inj z))
  | non => cases (show v = Value.none from rx); exact off _ rfl (fun z => nomatch z) (fun z => nomatch z)
  | int i => obtain ⟨t, rfl⟩ := rx; exact off _ rfl (fun z => nomatch z) (fun z => nomatch z)
  | str i => obtain ⟨t, rfl⟩ := rx; exact off _ rfl (fun z => nomatch z) (fun z => nomatch z)
  | byt i => obtain ⟨t, rfl⟩ := rx; exact off _ rfl (fun z => nomatch z) (fun z => nomatch z)
  | flt i => obtain ⟨t, rfl⟩ := rx; exact off _ rfl (fun z => nomatch z) (fun z => nomatch z)
  | ref a => cases (show v = Value.ref a from rx); exact off _ rfl (fun z => nomatch z) (fun z => nomatch z)
  | ty n => cases (show v = Value.type n from rx); exact off _ rfl (fun z => nomatch z) (fun z => nomatch z)
/-! # law k03 -/
theorem turns_all (d : Nat → PyData) (n : Nat) : turns (fun _ => true) d n = (List.range n).map d := by
  unfold turns
  rw [List.filter_eq_self.mpr (fun _ _ => rfl)]
theorem lsat_nats {H : Hp} {p : Addr} {xs : List Nat} (h : LsAt H p (xs.map fun x : Nat => PyData.int (x : Int))) : H p = some (.lst (xs.map nV)) := by
  have e : (xs.map fun x : Nat => PyData.int (x : Int)) = (xs.map fun x : Nat => (x : Int)).map PyData.int := by rw [List.map_map]; rfl
  rw [e] at h
  have := h.ints
  rw [List.map_map] at this
  exact this
theorem td_os {H : Hp} : ∀ {os : List (Option Nat)} {vs : List V}, TdAll H vs (os.map oD) → vs = os.map oV
  | [], _, h => by cases h; rfl
  | o :: r, _, h => by
    cases h with
    | cons h1 h2 =>
      rw [td_os h2]
      cases o with
      | none => cases h1; rfl
      | some n => cases h1; rfl
theorem lsat_os {H : Hp} {p : Addr} {os : List (Option Nat)} (h : LsAt H p (os.map oD)) : H p = some (.lst (os.map oV)) := by
  obtain ⟨vs, h1, h2⟩ := h
  rw [h1, td_os h2]
theorem range_getD {α : Type} (xs : List α) (d : α) {n : Nat} (h : xs.length = n) : (List.range n).map (fun i => xs.getD i d) = xs := by
  subst h
  refine List.ext_getElem (by simp) fun i h1 h2 => ?_
  rw [List.getElem_map, List.getElem_range, List.getD_eq_getElem?_getD, List.getElem?_eq_getElem h2]
  rfl
theorem eqv_nats : ∀ xs ys : List Nat, PyData.eqvAll (xs.map fun x : Nat => PyData.int (x : Int)) (ys.map fun x : Nat => PyData.int (x : Int)) = decide (xs = ys)
  | [], [] => by simp [PyData.eqvAll]
  | [], y :: r => by simp [PyData.eqvAll]
  | x :: r, [] => by simp [PyData.eqvAll]
  | x :: r, y :: t => by
    have ih := eqv_nats r t
    simp only [List.map_cons, PyData.eqvAll, PyData.eqv, ih]
    by_cases h : x = y
    · subst h
      by_cases h2 : r = t <;> simp [h2]
    · have h3 : ((x : Int) == (y : Int)) = false := by simp; omega
      simp [h3, h]
theorem nats_dp' {K : PySem.W.Frag} {H : Hp} {xs : List Nat} {a : Addr} (h : H a = some (.lst (xs.map nV))) : Dp K H (.ref a) (.list (xs.map fun x : Nat => PyData.int (x : Int))) := nats_dp h
theorem r_eqNats {K : PySem.W.Frag} {H : Hp} {Q : VK} {a b : Addr} {xs ys : List Nat} (ha : H a = some (.lst (xs.map nV))) (hb : H b = some (.lst (ys.map nV))) (q : Q (.bl (decide (xs = ys))) H) : rEqD K (.ref a) (.ref b) H Q :=
  ⟨_, _, nats_dp ha, nats_dp hb, (nats_cmp _).shaped, (nats_cmp _).shaped, by
    have e : PyData.eqv (.list (xs.map fun x : Nat => PyData.int (x : Int))) (.list (ys.map fun x : Nat => PyData.int (x : Int))) = decide (xs = ys) := by
      simp only [PyData.eqv]
      exact eqv_nats xs ys
    rw [e]
    exact q⟩
theorem inV_nats {x : Nat} {xs : List Nat} : inV (nV x) (xs.map nV) = decide (x ∈ xs) := by
  induction xs with
  | nil => rfl
  | cons y r ih =>
    have e : inV (nV x) ((y :: r).map nV) = (eqV (nV y) (nV x) || inV (nV x) (r.map nV)) := by simp [inV]
    rw [e, ih]
    by_cases h : y = x
    · subst h
      simp [eqV, nV]
    · have h2 : eqV (nV y) (nV x) = false := by
        show ((y : Int) == (x : Int)) = false
        simp; omega
      have h3 : ¬ x = y := fun z => h z.symm
      simp [h2, h3]
theorem nats_flat (xs : List Nat) : (xs.map nV).all flatV = true := by simp [nV, flatV]
abbrev sp_Lnumbers (K : PySem.W.Frag) : Sp := sp1 fun x H Q _ => ∃ A T, x = .ref A.p ∧ TbK K H A T ∧ ∀ p a b H', H p = none → H a = none → H b = none → H' p = some (.tup [.ref a, .ref b]) → H' a = some (.lst (T.tim.map nV)) → H' b = some (.lst (T.rou.map nV)) → Fr No H H' → Q (.ref p) H'
abbrev sp_Lstands (K : PySem.W.Frag) : Sp := sp1 fun x H Q E => ∃ A T, x = .ref A.p ∧ TbK K H A T ∧ T.Wf ∧ ∀ H', Fr No H H' → Q (.bl true) H'
structure Tb.Chg (T T' : Tb) : Prop where
  n : T'.n = T.n
  m : T'.m = T.m
  ti1 : ∀ l, T'.ow l ≠ none → T'.ow l ≠ T.ow l → T'.ti l = T.ti l + 1
  ti0 : ∀ l, T'.ow l = none ∨ T'.ow l = T.ow l → T'.ti l = T.ti l
  ro1 : ∀ a, T'.wa a ≠ none → T.wa a = none → T'.ro a = T.ro a + 1
  ro0 : ∀ a, T'.wa a = none ∨ T.wa a ≠ none → T'.ro a = T.ro a
abbrev sp_Lchanged (K : PySem.W.Frag) : Sp := sp3 fun x y z H Q _ => ∃ (A : TA) (T T' : Tb) (b0 b1 p q c0 c1 : Addr), x = .ref p ∧ y = .ref A.p ∧ z = .ref q ∧ TbK K H A T' ∧ H p = some (.tup [.ref b0, .ref b1]) ∧ H b0 = some (.lst (T.tim.map nV)) ∧ H b1 = some (.lst (T.rou.map nV)) ∧
  H q = some (.tup [.ref c0, .ref c1]) ∧ H c0 = some (.lst (T.own.map oV)) ∧ H c1 = some (.lst (T.wan.map oV)) ∧ T.Sz ∧ T.Chg T' ∧ ∀ H', Fr No H H' → Q (.bl true) H'
namespace Tb
variable {T : Tb} {a l k : Nat}
theorem pass_ti1 (s : T.Sz) (hl : l < T.m) (h : T.heir l ≠ none) : (T.pass l).ti l = T.ti l + 1 := by
  cases q : T.ln l with
  | nil => exact absurd (show T.heir l = none by unfold heir; rw [q]; rfl) h
  | cons x r =>
    rw [pass_cons q, take_ti]
    have e2 : (((T.free l).line l r).stop x).tim.length = T.m := s.ti
    rw [e2, if_pos ⟨rfl, hl⟩]
    rfl
theorem pass_ti0 (h : l ≠ k ∨ T.heir l = none) : (T.pass l).ti k = T.ti k := by
  cases q : T.ln l with
  | nil => rw [pass_nil q]; rfl
  | cons x r =>
    rw [pass_cons q, take_ti]
    rcases h with h | h
    · rw [if_neg (fun z => h z.1)]; rfl
    · unfold heir at h; rw [q] at h; cases h
theorem pass_heir (s : T.Sz) (hl : l < T.m) (h : l ≠ k) : (T.pass l).heir k = T.heir k := by
  unfold heir
  rw [pass_ln (by rw [s.li]; exact hl), if_neg h]
theorem passAll_ow : ∀ (ls : List Nat) {T : Tb}, T.Sz → ls.Nodup → (∀ l ∈ ls, l < T.m) → ∀ k, (k ∈ ls → (passAll ls T).2.ow k = T.heir k) ∧ (k ∉ ls → (passAll ls T).2.ow k = T.ow k)
  | [], T, s, _, _, k => ⟨(fun h => by cases h), fun _ => rfl⟩
  | l :: r, T, s, nd, hm, k => by
    rw [List.nodup_cons] at nd
    have hl := hm l List.mem_cons_self
    obtain ⟨i1, i2⟩ := passAll_ow r (s.pass (l := l)) nd.2 (fun x hx => by rw [pass_m]; exact hm x (List.mem_cons_of_mem _ hx)) k
    refine ⟨fun h => ?_, fun h => ?_⟩
    · show (passAll r (T.pass l)).2.ow k = _
      rcases List.mem_cons.mp h with z | z
      · subst z
        rw [i2 nd.1, pass_ow hl, if_pos rfl]
      · rw [i1 z, pass_heir s hl (fun q => nd.1 (q ▸ z))]
    · show (passAll r (T.pass l)).2.ow k = _
      rw [List.mem_cons, not_or] at h
      rw [i2 h.2, pass_ow hl, if_neg (fun q => h.1 q.symm)]
theorem passAll_ti : ∀ (ls : List Nat) {T : Tb}, T.Sz → ls.Nodup → (∀ l ∈ ls, l < T.m) → ∀ k, (k ∈ ls → T.heir k ≠ none → (passAll ls T).2.ti k = T.ti k + 1) ∧ (k ∉ ls ∨ T.heir k = none → (passAll ls T).2.ti k = T.ti k)
  | [], T, s, _, _, k => ⟨(fun h => by cases h), fun _ => rfl⟩
  | l :: r, T, s, nd, hm, k => by
    rw [List.nodup_cons] at nd
    have hl := hm l List.mem_cons_self
    obtain ⟨i1, i2⟩ := passAll_ti r (s.pass (l := l)) nd.2 (fun x hx => by rw [pass_m]; exact hm x (List.mem_cons_of_mem _ hx)) k
    refine ⟨fun h hh => ?_, fun h => ?_⟩
    · show (passAll r (T.pass l)).2.ti k = _
      rcases List.mem_cons.mp h with z | z
      · subst z
        rw [i2 (.inl nd.1), pass_ti1 s hl hh]
      · have ne : l ≠ k := fun q => nd.1 (q ▸ z)
        rw [i1 z (by rw [pass_heir s hl ne]; exact hh), pass_ti0 (.inl ne)]
    · show (passAll r (T.pass l)).2.ti k = _
      by_cases z : l = k
      · subst z
        rw [i2 (.inl nd.1), pass_ti0 (.inr (h.resolve_left (fun q => q List.mem_cons_self)))]
      · rw [i2 (h.elim (fun q => .inl (fun w => q (List.mem_cons_of_mem _ w))) (fun q => .inr (by rw [pass_heir s hl z]; exact q))), pass_ti0 (.inl z)]
theorem passAll_wa : ∀ (ls : List Nat) {T : Tb}, T.Wf → (∀ l ∈ ls, l < T.m) → ∀ b, (passAll ls T).2.wa b ≠ none → (passAll ls T).2.wa b = T.wa b
  | [], T, _, _, b, _ => rfl
  | l :: r, T, W, hm, b, h => by
    have ih := passAll_wa r (W.pass (hm l List.mem_cons_self)) (fun x hx => by rw [pass_m]; exact hm x (List.mem_cons_of_mem _ hx)) b h
    have e : (passAll (l :: r) T).2.wa b = (T.pass l).wa b := ih
    rw [e] at h ⊢
    rw [pass_wa W] at h ⊢
    by_cases q : T.heir l = some b
    · rw [if_pos q] at h; exact absurd rfl h
    · rw [if_neg q]
theorem unwait_ti : (T.unwait a).ti k = T.ti k := by
  unfold unwait
  split <;> rfl
theorem heir_ne (W : T.Wf) (h : T.heir l ≠ none) : T.heir l ≠ T.ow l := by
  cases q : T.heir l with
  | none => exact absurd q h
  | some b => exact fun z => W.no b l (W.lw l b (heir_mem q)).2 z.symm
theorem chg_refl : T.Chg T := ⟨rfl, rfl, fun l _ h => absurd rfl h, fun l _ => rfl, fun a h1 h2 => absurd h2 h1, fun a _ => rfl⟩
theorem chg_take (s : T.Sz) (ha : a < T.n) (hl : l < T.m) (hf : T.ow l = none) : T.Chg (T.take a l) where
  n := take_n
  m := take_m
  ti1 := fun k h1 h2 => by
    rw [take_ow] at h1 h2
    by_cases h : l = k
    · subst h
      rw [take_ti, s.ti, if_pos ⟨rfl, hl⟩]
    · rw [if_neg (fun z => h z.1)] at h2
      exact absurd rfl h2
  ti0 := fun k h1 => by
    rw [take_ow] at h1
    by_cases h : l = k
    · subst h
      rw [if_pos ⟨rfl, hl⟩, hf] at h1
      rcases h1 with h1 | h1 <;> cases h1
    · rw [take_ti, if_neg (fun z => h z.1)]
  ro1 := fun b h1 h2 => absurd h2 h1
  ro0 := fun b _ => rfl
theorem chg_wait (s : T.Sz) (ha : a < T.n) (hw : T.wa a = none) : T.Chg (T.wait a l) where
  n := wait_n
  m := wait_m
  ti1 := fun k _ h => absurd rfl h
  ti0 := fun k _ => rfl
  ro1 := fun b h1 h2 => by
    rw [wait_wa] at h1
    by_cases h : a = b
    · subst h
      rw [wait_ro, s.ro, if_pos ⟨rfl, ha⟩]
    · rw [if_neg (fun z => h z.1)] at h1
      exact absurd h2 h1
  ro0 := fun b h1 => by
    rw [wait_wa] at h1
    by_cases h : a = b
    · subst h
      rw [if_pos ⟨rfl, ha⟩] at h1
      rcases h1 with h1 | h1
      · cases h1
      · exact absurd hw h1
    · rw [wait_ro, if_neg (fun z => h z.1)]
theorem chg_passAll {ls : List Nat} (W : T.Wf) (nd : ls.Nodup) (hm : ∀ l ∈ ls, l < T.m) : T.Chg (passAll ls T).2 where
  n := passAll_n ls T
  m := passAll_m ls T
  ti1 := fun k h1 h2 => by
    obtain ⟨o1, o2⟩ := passAll_ow ls W.sz nd hm k
    by_cases h : k ∈ ls
    · rw [o1 h] at h1
      exact (passAll_ti ls W.sz nd hm k).1 h h1
    · exact absurd (o2 h) h2
  ti0 := fun k h1 => by
    obtain ⟨o1, o2⟩ := passAll_ow ls W.sz nd hm k
    refine (passAll_ti ls W.sz nd hm k).2 ?_
    by_cases h : k ∈ ls
    · rw [o1 h] at h1
      rcases h1 with h1 | h1
      · exact .inr h1
      · by_cases q : T.heir k = none
        · exact .inr q
        · exact absurd h1 (heir_ne W q)
    · exact .inl h
  ro1 := fun b h1 h2 => absurd ((passAll_wa ls W hm b h1).trans h2) h1
  ro0 := fun b _ => passAll_ro ls T b
theorem chg_pass (W : T.Wf) (hl : l < T.m) : T.Chg (T.pass l) := chg_passAll (ls := [l]) W (by simp) (fun x hx => by rw [List.mem_singleton.mp hx]; exact hl)
theorem chg_leave (W : T.Wf) (ha : a < T.n) : T.Chg (T.leave a).2 := by
  have W1 := W.unwait ha
  have c : (T.unwait a).Chg (T.leave a).2 := chg_passAll (ls := (T.unwait a).held a) W1 held_nd (fun l hl => held_lt hl)
  refine ⟨leave_n, leave_m, fun l h1 h2 => ?_, fun l h1 => ?_, fun b h1 h2 => ?_, fun b h1 => ?_⟩
  · have := c.ti1 l h1 (by rw [unwait_ow]; exact h2)
    rw [this, unwait_ti]
  · have := c.ti0 l (by rw [unwait_ow]; exact h1)
    rw [this, unwait_ti]
  · have e : (T.leave a).2.wa b = (T.unwait a).wa b := passAll_wa _ W1 (fun l hl => held_lt hl) b h1
    rw [e, unwait_wa ha] at h1
    by_cases w : a = b
    · rw [if_pos w] at h1; exact absurd rfl h1
    · rw [if_neg w] at h1; exact absurd h2 h1
  · have : (T.leave a).2.ro b = (T.unwait a).ro b := passAll_ro _ _ b
    rw [this, unwait_ro]
theorem flat_len (W : T.Wf) : ∀ i, ((List.range i).flatMap T.ln).length ≤ 8 * i
  | 0 => by simp
  | i + 1 => by
    rw [List.range_succ, List.flatMap_append, List.length_append]
    have h1 := flat_len W i
    have h2 := W.len i
    simp only [List.flatMap_cons, List.flatMap_nil, List.append_nil]
    omega
theorem flat_mem {i : Nat} {x : Nat} (W : T.Wf) : x ∈ (List.range i).flatMap T.ln ↔ ∃ l, l < i ∧ T.wa x = some l ∧ x ∈ T.ln l := by
  rw [List.mem_flatMap]
  constructor
  · rintro ⟨l, h1, h2⟩
    exact ⟨l, List.mem_range.mp h1, (W.lw l x h2).2, h2⟩
  · rintro ⟨l, h1, _, h2⟩
    exact ⟨l, List.mem_range.mpr h1, h2⟩
theorem flat_nd (W : T.Wf) : ∀ i, ((List.range i).flatMap T.ln).Nodup
  | 0 => by simp
  | i + 1 => by
    rw [List.range_succ, List.flatMap_append, List.nodup_append]
    refine ⟨flat_nd W i, by simp only [List.flatMap_cons, List.flatMap_nil, List.append_nil]; exact W.nd i, fun x hx y hy z => ?_⟩
    subst z
    obtain ⟨l, h1, h2, _⟩ := (flat_mem W).mp hx
    simp only [List.flatMap_cons, List.flatMap_nil, List.append_nil] at hy
    have := (W.lw i x hy).2
    rw [h2] at this
    cases this
    omega
def waiting (T : Tb) : List Nat := (List.range T.n).filter fun a => decide (T.wa a ≠ none)
theorem flat_perm (W : T.Wf) : ((List.range T.m).flatMap T.ln).Perm T.waiting := by
  refine (List.perm_ext_iff_of_nodup (flat_nd W T.m) (List.nodup_range.filter _)).mpr fun x => ?_
  rw [flat_mem W]
  rw [List.mem_filter, List.mem_range, decide_eq_true_eq]
  constructor
  · rintro ⟨l, h1, h2, h3⟩
    exact ⟨(W.lw l x h3).1, by rw [h2]; simp⟩
  · rintro ⟨h1, h2⟩
    cases q : T.wa x with
    | none => exact absurd q h2
    | some l => exact ⟨l, (W.wl x l q).1, rfl, (W.wl x l q).2⟩
theorem waiting_of (W : T.Wf) {ns : List Int} (hp : ns.Perm (((List.range T.m).flatMap T.ln).map fun x : Nat => (x : Int))) (hs : ns.Pairwise (· ≤ ·)) : ns = T.waiting.map fun x : Nat => (x : Int) := by
  refine List.Perm.eq_of_pairwise (le := (· ≤ ·)) (fun _ _ _ _ a b => Int.le_antisymm a b) hs ?_ (hp.trans ((flat_perm W).map _))
  rw [List.pairwise_map]
  have h : (List.range T.n).Pairwise (· < ·) := List.pairwise_lt_range
  have h2 : T.waiting.Pairwise (· < ·) := h.filter _
  exact h2.imp fun q => by omega
theorem chg_deed (W : T.Wf) (dd : Deed) : T.Chg (T.deedR dd).2 := by
  cases dd with
  | ask x y =>
    show T.Chg (T.askR x y).2
    unfold askR
    split
    · exact chg_refl
    · rename_i hf
      obtain ⟨a, l, rfl, rfl, ha, hl⟩ := fault_none hf
      simp only [Int.toNat_natCast]
      split
      · exact chg_refl
      · rename_i h1
        split
        · exact chg_refl
        · split
          · rename_i h2 h3
            exact chg_take W.sz ha hl h3
          · exact chg_wait W.sz ha (by simpa using h1)
  | give x y =>
    show T.Chg (T.giveR x y).2
    unfold giveR
    split
    · exact chg_refl
    · rename_i hf
      obtain ⟨a, l, rfl, rfl, ha, hl⟩ := fault_none hf
      simp only [Int.toNat_natCast]
      split
      · exact chg_refl
      · split
        · exact chg_refl
        · exact chg_pass W hl
  | leave x =>
    show T.Chg (T.leaveR x).2
    unfold leaveR
    split
    · rename_i h
      obtain ⟨a, rfl, ha⟩ := isA_nat h
      simp only [Int.toNat_natCast]
      exact chg_leave W ha
    · exact chg_refl
end Tb
namespace Tb
variable {T : Tb} {a l k : Nat}
theorem passAll_ln : ∀ (ls : List Nat) {T : Tb}, T.Sz → ls.Nodup → (∀ l ∈ ls, l < T.m) → ∀ k, (k ∈ ls → (passAll ls T).2.ln k = (T.ln k).tail) ∧ (k ∉ ls → (passAll ls T).2.ln k = T.ln k)
  | [], T, s, _, _, k => ⟨(fun h => by cases h), fun _ => rfl⟩
  | l :: r, T, s, nd, hm, k => by
    rw [List.nodup_cons] at nd
    have hl := hm l List.mem_cons_self
    obtain ⟨i1, i2⟩ := passAll_ln r (s.pass (l := l)) nd.2 (fun x hx => by rw [pass_m]; exact hm x (List.mem_cons_of_mem _ hx)) k
    have pl : ∀ j, (T.pass l).ln j = if l = j then (T.ln l).tail else T.ln j := fun j => pass_ln (by rw [s.li]; exact hl)
    refine ⟨fun h => ?_, fun h => ?_⟩
    · show (passAll r (T.pass l)).2.ln k = _
      rcases List.mem_cons.mp h with z | z
      · subst z
        rw [i2 nd.1, pl, if_pos rfl]
      · rw [i1 z, pl, if_neg (fun q : l = k => nd.1 (q ▸ z))]
    · show (passAll r (T.pass l)).2.ln k = _
      rw [List.mem_cons, not_or] at h
      rw [i2 h.2, pl, if_neg (fun q => h.1 q.symm)]
theorem unwait_ln_sub (W : T.Wf) : ((T.unwait a).ln k).Sublist (T.ln k) := by
  cases q : T.wa a with
  | none => rw [unwait_none q]; exact List.Sublist.refl _
  | some l =>
    rw [unwait_some q, stop_ln, line_ln]
    by_cases h : l = k ∧ l < T.lin.length
    · rw [if_pos h, h.1]; exact List.erase_sublist
    · rw [if_neg h]; exact List.Sublist.refl _
/-- a lock that comes to one that waited for it -/
def Came (T T' : Tb) : Prop := ∀ l o, T'.ow l = some o → T.wa o = some l → ∃ r, (o :: r).Sublist (T.ln l) ∧ (T'.ln l).Sublist r
theorem came_same (W : T.Wf) {T' : Tb} (h : ∀ l o, T'.ow l = some o → T.ow l = some o ∨ T.wa o = none) : Came T T' := fun l o h1 h2 => by
  rcases h l o h1 with q | q
  · exact absurd q (W.no o l h2)
  · rw [q] at h2; cases h2
theorem came_passAll {ls : List Nat} (W : T.Wf) (nd : ls.Nodup) (hm : ∀ l ∈ ls, l < T.m) : Came T (passAll ls T).2 := fun l o h1 h2 => by
  by_cases h : l ∈ ls
  · rw [(passAll_ow ls W.sz nd hm l).1 h] at h1
    rw [(passAll_ln ls W.sz nd hm l).1 h]
    unfold heir at h1
    cases q : T.ln l with
    | nil => rw [q] at h1; cases h1
    | cons x r =>
      rw [q] at h1
      have : x = o := Option.some.inj h1
      subst this
      exact ⟨r, List.Sublist.refl _, List.Sublist.refl _⟩
  · rw [(passAll_ow ls W.sz nd hm l).2 h] at h1
    exact absurd h1 (W.no o l h2)
theorem came_leave (W : T.Wf) (ha : a < T.n) : Came T (T.leave a).2 := fun l o h1 h2 => by
  have W1 := W.unwait ha
  by_cases q : (T.unwait a).wa o = some l
  · obtain ⟨r, r1, r2⟩ := came_passAll (ls := (T.unwait a).held a) W1 held_nd (fun l hl => held_lt hl) l o h1 q
    exact ⟨r, r1.trans (unwait_ln_sub W), r2⟩
  · have e : a = o := by
      by_cases z : a = o
      · exact z
      · rw [unwait_wa ha, if_neg z] at q
        exact absurd h2 q
    subst e
    -- it would be its own heir
    obtain ⟨o1, o2⟩ := passAll_ow ((T.unwait a).held a) W1.sz held_nd (fun l hl => held_lt hl) l
    have h1' : (passAll ((T.unwait a).held a) (T.unwait a)).2.ow l = some a := h1
    by_cases z : l ∈ (T.unwait a).held a
    · rw [o1 z] at h1'
      have := (W1.lw l a (heir_mem h1')).2
      rw [unwait_wa ha, if_pos rfl] at this
      cases this
    · rw [o2 z, unwait_ow] at h1'
      exact absurd h1' (W.no a l h2)
/-- what a deed does to the lines -/
theorem deed_lines (W : T.Wf) (dd : Deed) : Came T (T.deedR dd).2 ∧ ((∀ k, ((T.deedR dd).2.ln k).Sublist (T.ln k)) ∧ (T.deedR dd).1 ≠ .ok (.b false) ∨ ∃ a l : Nat, dd = .ask (a : Int) (l : Int) ∧ a < T.n ∧ l < T.m ∧ T.wa a = none ∧ T.deedR dd = (.ok (.b false), T.wait a l)) := by
  cases dd with
  | ask x y =>
    show Came T (T.askR x y).2 ∧ ((∀ k, ((T.askR x y).2.ln k).Sublist (T.ln k)) ∧ (T.askR x y).1.map Out.b ≠ .ok (.b false) ∨ _)
    have hd : T.deedR (.ask x y) = ((T.askR x y).1.map Out.b, (T.askR x y).2) := rfl
    rw [hd]
    cases hf : T.fault x y with
    | some w =>
      rw [askR_err hf]
      exact ⟨came_same W fun l o h => .inl h, .inl ⟨fun k => List.Sublist.refl _, fun z => by cases z⟩⟩
    | none =>
      obtain ⟨a, l, rfl, rfl, ha, hl⟩ := fault_none hf
      rw [askR_nat ha hl]
      by_cases h1 : T.wa a ≠ none
      · rw [if_pos h1]
        exact ⟨came_same W fun l o h => .inl h, .inl ⟨fun k => List.Sublist.refl _, fun z => by cases z⟩⟩
      · rw [if_neg h1]
        have hw : T.wa a = none := by simpa using h1
        by_cases h2 : T.ow l = some a
        · rw [if_pos h2]
          exact ⟨came_same W fun l o h => .inl h, .inl ⟨fun k => List.Sublist.refl _, fun z => by cases z⟩⟩
        · rw [if_neg h2]
          by_cases h3 : T.ow l = none
          · rw [if_pos h3]
            refine ⟨came_same W fun k o h => ?_, .inl ⟨fun k => List.Sublist.refl _, fun z => by cases z⟩⟩
            have h : (T.take a l).ow k = some o := h
            rw [take_ow] at h
            by_cases z : l = k ∧ l < T.m
            · rw [if_pos z] at h
              cases h
              exact .inr hw
            · rw [if_neg z] at h
              exact .inl h
          · rw [if_neg h3]
            exact ⟨came_same W fun l o h => .inl h, .inr ⟨a, l, rfl, ha, hl, hw, rfl⟩⟩
  | give x y =>
    have hd : T.deedR (.give x y) = ((T.giveR x y).1.map Out.o, (T.giveR x y).2) := rfl
    rw [hd]
    cases hf : T.fault x y with
    | some w =>
      rw [giveR_err hf]
      exact ⟨came_same W fun l o h => .inl h, .inl ⟨fun k => List.Sublist.refl _, fun z => by cases z⟩⟩
    | none =>
      obtain ⟨a, l, rfl, rfl, ha, hl⟩ := fault_none hf
      rw [giveR_nat ha hl]
      by_cases h1 : T.wa a ≠ none
      · rw [if_pos h1]
        exact ⟨came_same W fun l o h => .inl h, .inl ⟨fun k => List.Sublist.refl _, fun z => by cases z⟩⟩
      · rw [if_neg h1]
        by_cases h2 : T.ow l ≠ some a
        · rw [if_pos h2]
          exact ⟨came_same W fun l o h => .inl h, .inl ⟨fun k => List.Sublist.refl _, fun z => by cases z⟩⟩
        · rw [if_neg h2]
          refine ⟨came_passAll (ls := [l]) W (by simp) (fun x hx => by rw [List.mem_singleton.mp hx]; exact hl), .inl ⟨fun k => ?_, fun z => by cases z⟩⟩
          show ((T.pass l).ln k).Sublist _
          rw [pass_ln (by rw [W.sz.li]; exact hl)]
          by_cases z : l = k
          · rw [if_pos z, z]; exact List.tail_sublist _
          · rw [if_neg z]; exact List.Sublist.refl _
  | leave x =>
    have hd : T.deedR (.leave x) = ((T.leaveR x).1.map Out.g, (T.leaveR x).2) := rfl
    rw [hd]
    by_cases hx : T.isA x
    · obtain ⟨a, rfl, ha⟩ := isA_nat hx
      rw [leaveR_nat ha]
      refine ⟨came_leave W ha, .inl ⟨fun k => ?_, fun z => by cases z⟩⟩
      have W1 := W.unwait ha
      obtain ⟨o1, o2⟩ := passAll_ln ((T.unwait a).held a) W1.sz held_nd (fun l hl => held_lt hl) k
      show ((passAll ((T.unwait a).held a) (T.unwait a)).2.ln k).Sublist _
      by_cases z : k ∈ (T.unwait a).held a
      · rw [o1 z]; exact (List.tail_sublist _).trans (unwait_ln_sub W)
      · rw [o2 z]; exact unwait_ln_sub W
    · have e : T.leaveR x = (.error .noAgent, T) := by unfold leaveR; rw [if_neg hx]
      rw [e]
      exact ⟨came_same W fun l o h => .inl h, .inl ⟨fun k => List.Sublist.refl _, fun z => by cases z⟩⟩
end Tb
/-! the dict of askings -/
structure AsAt (H : Hp) (ad : Addr) (T : Tb) (g : Nat → Nat) (t : Nat) : Prop where
  dic : ∃ kvs : List (Key × V), H ad = some (.dK kvs) ∧ kvs.length ≤ t ∧ ∀ l a, a ∈ T.ln l → valV kvs (.inl (a : Int)) = some (.int (g a : Int))
  lt : ∀ l a, a ∈ T.ln l → g a < t
  up : ∀ l, (T.ln l).Pairwise fun a b => g a < g b
theorem AsAt.fr {S : Addr → Prop} {H H' : Hp} {ad : Addr} {T : Tb} {g : Nat → Nat} {t : Nat} (h : AsAt H ad T g t) (f : Fr S H H') (n : ¬ S ad) : AsAt H' ad T g t := by
  obtain ⟨kvs, h1, h2, h3⟩ := h.dic
  exact ⟨⟨kvs, f.old _ _ h1 n, h2, h3⟩, h.lt, h.up⟩
theorem AsAt.ext {H H' : Hp} {ad : Addr} {T : Tb} {g : Nat → Nat} {t : Nat} (h : AsAt H ad T g t) (e : LamX.ExtN H H') : AsAt H' ad T g t := by
  obtain ⟨kvs, h1, h2, h3⟩ := h.dic
  exact ⟨⟨kvs, e _ _ h1 (fun ps z => by cases z), h2, h3⟩, h.lt, h.up⟩
theorem AsAt.sub {H : Hp} {ad : Addr} {T T' : Tb} {g : Nat → Nat} {t t' : Nat} (h : AsAt H ad T g t) (s : ∀ k, (T'.ln k).Sublist (T.ln k)) (ht : t ≤ t') : AsAt H ad T' g t' := by
  obtain ⟨kvs, h1, h2, h3⟩ := h.dic
  exact ⟨⟨kvs, h1, Nat.le_trans h2 ht, fun l a ha => h3 l a ((s l).subset ha)⟩, fun l a ha => Nat.lt_of_lt_of_le (h.lt l a ((s l).subset ha)) ht, fun l => (h.up l).sublist (s l)⟩
theorem putK_len (kvs : List (Key × V)) (k : Key) (v : V) : (putK kvs k v).length ≤ kvs.length + 1 := by
  unfold putK
  split
  · rw [List.length_map]; omega
  · simp
theorem AsAt.put {H : Hp} {ad : Addr} {T : Tb} {g : Nat → Nat} {t a l : Nat} (h : AsAt H ad T g t) (W : T.Wf) (ha : a < T.n) (hl : l < T.m) (hw : T.wa a = none) :
    ∃ kvs, H ad = some (.dK kvs) ∧ kvs.length ≤ t ∧ AsAt (upd H ad (.dK (putK kvs (.inl (a : Int)) (.int (t : Int))))) ad (T.wait a l) (fun x => if x = a then t else g x) (t + 1) := by
  obtain ⟨kvs, h1, h2, h3⟩ := h.dic
  have na : ∀ k, a ∉ T.ln k := fun k z => by
    have := (W.lw k a z).2
    rw [hw] at this; cases this
  have ln : ∀ k b, b ∈ (T.wait a l).ln k → (b ∈ T.ln k ∧ b ≠ a) ∨ b = a := fun k b hb => by
    rw [Tb.wait_ln] at hb
    by_cases z : l = k ∧ l < T.lin.length
    · rw [if_pos z] at hb
      rcases List.mem_append.mp hb with q | q
      · rw [z.1] at q
        exact .inl ⟨q, fun w => na k (w ▸ q)⟩
      · exact .inr (List.mem_singleton.mp q)
    · rw [if_neg z] at hb
      exact .inl ⟨hb, fun w => na k (w ▸ hb)⟩
  refine ⟨kvs, h1, h2, ⟨_, upd_same, Nat.le_trans (putK_len _ _ _) (by omega), fun k b hb => ?_⟩, fun k b hb => ?_, fun k => ?_⟩
  · rw [valV_put]
    rcases ln k b hb with ⟨q1, q2⟩ | q
    · rw [if_neg (fun z => q2 (by have := Sum.inl.inj z; omega))]
      show valV kvs _ = some (V.int ((if b = a then t else g b : Nat) : Int))
      rw [if_neg q2]
      exact h3 k b q1
    · subst q
      show (if _ then _ else _) = some (V.int ((if b = b then t else g b : Nat) : Int))
      rw [if_pos rfl, if_pos rfl]
  · show (if b = a then t else g b) < t + 1
    rcases ln k b hb with ⟨q1, q2⟩ | q
    · rw [if_neg q2]; have := h.lt k b q1; omega
    · rw [if_pos q]; omega
  · have old : (T.ln k).Pairwise fun x y => (if x = a then t else g x) < (if y = a then t else g y) := (h.up k).imp_of_mem fun {x y} hx hy q => by
      rw [if_neg (fun z : x = a => na k (z ▸ hx)), if_neg (fun z : y = a => na k (z ▸ hy))]
      exact q
    rw [Tb.wait_ln]
    by_cases z : l = k ∧ l < T.lin.length
    · rw [if_pos z, z.1, List.pairwise_append]
      refine ⟨old, by simp, fun x hx y hy => ?_⟩
      rw [List.mem_singleton.mp hy, if_pos rfl, if_neg (fun w : x = a => na k (w ▸ hx))]
      exact h.lt k x hx
    · rw [if_neg z]; exact old
section
variable {K : PySem.W.Frag} {σ : L2.St} {H : Hp} {Q : VK} {tt : TT} {te tl : TE} {vs : List Nat} {g : TG}
theorem r_lcLx (h : tl σ H fun x H1 => tLc (iList K (tC x)) g tt te vs σ H1 Q) : tLc (iList K tl) g tt te vs σ H Q := h
theorem r_dnew (h : ∀ p H', H p = none → H' p = some (.dK []) → Fr No H H' → Q (.ref p) H') : tDNewK σ H Q := r_new h
theorem r_dgInt {ad : Addr} {kvs : List (Key × V)} {a : Nat} {v : V} (e : H ad = some (.dK kvs)) (hv : valV kvs (.inl (a : Int)) = some v) (q : Q v H) : DgOn (.ref ad) (.int (a : Int)) H Q := by
  have := DGet.k (k := .inl (a : Int)) e
  rw [hv] at this
  exact ⟨ad, v, rfl, this, q⟩
end
/-- the check of the last loop of law k03 -/
def Chk (H : Hp) (ad : Addr) (T T' : Tb) : Prop := ∀ l o, T'.ow l = some o → T.wa o = some l → ∃ kvs : List (Key × V), H ad = some (.dK kvs) ∧ ∃ g : Nat → Nat, valV kvs (.inl (o : Int)) = some (.int (g o : Int)) ∧ ∀ b ∈ T'.ln l, valV kvs (.inl (b : Int)) = some (.int (g b : Int)) ∧ g o < g b
theorem Chk.fr {S : Addr → Prop} {H H' : Hp} {ad : Addr} {T T' : Tb} (h : Chk H ad T T') (f : Fr S H H') (n : ¬ S ad) : Chk H' ad T T' := fun l o h1 h2 => by
  obtain ⟨kvs, e, r⟩ := h l o h1 h2
  exact ⟨kvs, f.old _ _ e n, r⟩
theorem AsAt.chk {H : Hp} {ad : Addr} {T T' : Tb} {g : Nat → Nat} {t : Nat} (h : AsAt H ad T g t) (c : Tb.Came T T') : Chk H ad T T' := fun l o h1 h2 => by
  obtain ⟨kvs, e1, e2, e3⟩ := h.dic
  obtain ⟨r, r1, r2⟩ := c l o h1 h2
  have up := (h.up l).sublist r1
  rw [List.pairwise_cons] at up
  exact ⟨kvs, e1, g, e3 l o (r1.subset List.mem_cons_self), fun b hb => ⟨e3 l b (r1.subset (List.mem_cons_of_mem _ (r2.subset hb))), up.1 b (r2.subset hb)⟩⟩
section
variable {σ : L2.St} {H : Hp} {D : Ends} {td ty tv : TE}
theorem r_dputA (h : tv σ H fun v H1 => td σ H1 fun x H2 => ty σ H2 fun y H3 => ∃ a H4, x = .ref a ∧ DPut H3 a y v H4 ∧ D.nx σ H4) : sDPut td ty tv D σ H := h
end
theorem tabs_frD {H H' : Hp} {T : List (Addr × Str)} {ad : Addr} {kvs : List (Key × V)} (t : LamX.Tabs T H) (f : Fr (Only1 ad) H H') (e : H ad = some (.dK kvs)) : LamX.Tabs T H' := fun p hp => by
  obtain ⟨ps, h1, h2, h3⟩ := t p hp
  refine ⟨ps, f.old _ _ h1 (fun z => ?_), h2, fun pos cv hc => ?_⟩
  · rw [show p.1 = ad from z, e] at h1
    cases h1
  · obtain ⟨c, e1, e2⟩ := h3 pos cv hc
    refine ⟨c, e1, f.old _ _ e2 (fun z => ?_)⟩
    rw [show c = ad from z, e] at e2
    unfold LamX.CodeO at e2
    cases e2
end AL

namespace AL
open PySem PySem.Spec PyProof.Rows L2
theorem units1 {A : Around} {k : Nat} (hr : Room k A) : A.units + 65 < cLine := by
  have := hr.un
  omega
/-! # who waits for whom, rings: plain -/
namespace Tb
def nx (T : Tb) (a : Nat) : Option Nat := match T.wa a with
  | none => none
  | some l => T.ow l
/-- on from here, as long as there is one that was not met yet -/
def wk (T : Tb) : Nat → List Nat → Option Nat → List Nat × Option Nat
  | 0, f, h => (f, h)
  | _ + 1, f, none => (f, none)
  | k + 1, f, some b => if b ∈ f then (f, some b) else wk T k (f ++ [b]) (T.nx b)
def way (T : Tb) (a : Nat) : List Nat × Option Nat := wk T T.n [a] (T.nx a)
def chainT (T : Tb) (a : Nat) : List Nat := (T.way a).1
def mx : List Nat → Nat
  | [] => 0
  | a :: r => max a (mx r)
def ringAt (T : Tb) (a : Nat) : Option (List Nat) := if (T.way a).2 = some a ∧ mx (T.way a).1 = a then some (T.way a).1 else none
def ringsT (T : Tb) : List (List Nat) := (List.range T.n).filterMap T.ringAt
variable {T : Tb} {a b : Nat}
theorem nx_lt (W : T.Wf) (h : T.nx a = some b) : b < T.n := by
  unfold nx at h
  split at h
  · cases h
  · exact W.oh _ _ h
/-- what the loop keeps -/
structure Wk (T : Tb) (f : List Nat) (h : Option Nat) (R : List Nat × Option Nat) : Prop where
  nd : f.Nodup
  lt : ∀ x ∈ f, x < T.n
  hl : ∀ x, h = some x → x < T.n
  eq : wk T (T.n + 1 - f.length) f h = R
theorem Wk.len {f : List Nat} {h : Option Nat} {R : List Nat × Option Nat} (w : Wk T f h R) : f.length ≤ T.n := nodup_le w.nd w.lt
theorem Wk.stop0 {f : List Nat} {R : List Nat × Option Nat} (w : Wk T f none R) : R = (f, none) := by
  have := w.len
  have e := w.eq
  obtain ⟨k, hk⟩ : ∃ k, T.n + 1 - f.length = k + 1 := ⟨T.n - f.length, by omega⟩
  rw [hk] at e
  exact e.symm
theorem Wk.stop1 {f : List Nat} {R : List Nat × Option Nat} (w : Wk T f (some b) R) (hb : b ∈ f) : R = (f, some b) := by
  have := w.len
  have e := w.eq
  obtain ⟨k, hk⟩ : ∃ k, T.n + 1 - f.length = k + 1 := ⟨T.n - f.length, by omega⟩
  rw [hk] at e
  unfold wk at e
  rw [if_pos hb] at e
  exact e.symm
theorem Wk.step {f : List Nat} {R : List Nat × Option Nat} (W : T.Wf) (w : Wk T f (some b) R) (hb : b ∉ f) : Wk T (f ++ [b]) (T.nx b) R ∧ f.length + 1 ≤ T.n := by
  have hbn := w.hl b rfl
  have nd : (f ++ [b]).Nodup := by
    rw [List.nodup_append]
    exact ⟨w.nd, by simp, fun x hx y hy z => hb (by rw [List.mem_singleton.mp hy] at z; exact z ▸ hx)⟩
  have lt : ∀ x ∈ f ++ [b], x < T.n := fun x hx => by
    rcases List.mem_append.mp hx with q | q
    · exact w.lt x q
    · rw [List.mem_singleton.mp q]; exact hbn
  have l2 := nodup_le nd lt
  rw [List.length_append, List.length_singleton] at l2
  refine ⟨⟨nd, lt, fun x hx => nx_lt W hx, ?_⟩, l2⟩
  have e := w.eq
  obtain ⟨k, hk⟩ : ∃ k, T.n + 1 - f.length = k + 1 := ⟨T.n - f.length, by omega⟩
  rw [hk] at e
  unfold wk at e
  rw [if_neg hb] at e
  rw [List.length_append, List.length_singleton]
  have : T.n + 1 - (f.length + 1) = k := by omega
  rw [this]
  exact e
theorem Wk.init (W : T.Wf) (ha : a < T.n) : Wk T [a] (T.nx a) (T.way a) :=
  ⟨by simp, fun x hx => by rw [List.mem_singleton.mp hx]; exact ha, fun x hx => nx_lt W hx, by
    show wk T (T.n + 1 - 1) [a] (T.nx a) = wk T T.n [a] (T.nx a)
    rw [Nat.add_sub_cancel]⟩
/-- the law's chain begins one step ahead -/
theorem Wk.init0 (ha : a < T.n) (W : T.Wf) : Wk T [] (some a) (T.way a) :=
  ⟨by simp, (fun x hx => by cases hx), (fun x hx => by cases hx; exact ha), by
    show wk T (T.n + 1) [] (some a) = wk T T.n [a] (T.nx a)
    have e : wk T (T.n + 1) [] (some a) = if a ∈ ([] : List Nat) then ([], some a) else wk T T.n ([] ++ [a]) (T.nx a) := rfl
    rw [e, if_neg (by simp)]
    rfl⟩
theorem wk_ok (W : T.Wf) : ∀ (k : Nat) (f : List Nat) (h : Option Nat), f.Nodup → (∀ x ∈ f, x < T.n) → (∀ x, h = some x → x < T.n) → (∃ i z, f = i ++ [z] ∧ T.nx z = h) →
    (wk T k f h).1.Nodup ∧ (∀ x ∈ (wk T k f h).1, x < T.n) ∧ ∃ i z, (wk T k f h).1 = i ++ [z] ∧ T.nx z = (wk T k f h).2
  | 0, f, h, nd, lt, hl, la => ⟨nd, lt, la⟩
  | k + 1, f, none, nd, lt, hl, la => ⟨nd, lt, la⟩
  | k + 1, f, some b, nd, lt, hl, la => by
    by_cases hb : b ∈ f
    · have e : wk T (k + 1) f (some b) = (f, some b) := by
        show (if b ∈ f then (f, some b) else wk T k (f ++ [b]) (T.nx b)) = _
        rw [if_pos hb]
      rw [e]
      exact ⟨nd, lt, la⟩
    · have e : wk T (k + 1) f (some b) = wk T k (f ++ [b]) (T.nx b) := by
        show (if b ∈ f then (f, some b) else wk T k (f ++ [b]) (T.nx b)) = _
        rw [if_neg hb]
      rw [e]
      refine wk_ok W k (f ++ [b]) (T.nx b) ?_ (fun x hx => ?_) (fun x hx => nx_lt W hx) ⟨f, b, rfl, rfl⟩
      · rw [List.nodup_append]
        exact ⟨nd, by simp, fun x hx y hy z => hb (by rw [List.mem_singleton.mp hy] at z; exact z ▸ hx)⟩
      · rcases List.mem_append.mp hx with q | q
        · exact lt x q
        · rw [List.mem_singleton.mp q]; exact hl b rfl
theorem way_ok (W : T.Wf) (ha : a < T.n) : (T.way a).1.Nodup ∧ (∀ x ∈ (T.way a).1, x < T.n) ∧ ∃ i z, (T.way a).1 = i ++ [z] ∧ T.nx z = (T.way a).2 :=
  wk_ok W T.n [a] (T.nx a) (by simp) (fun x hx => by rw [List.mem_singleton.mp hx]; exact ha) (fun x hx => nx_lt W hx) ⟨[], a, rfl, rfl⟩
theorem le_mx : ∀ {xs : List Nat} {x : Nat}, x ∈ xs → x ≤ mx xs
  | y :: r, x, h => by
    unfold mx
    rcases List.mem_cons.mp h with q | q
    · rw [q]; exact Nat.le_max_left _ _
    · exact Nat.le_trans (le_mx q) (Nat.le_max_right _ _)
theorem mx_mem : ∀ {xs : List Nat}, xs ≠ [] → mx xs ∈ xs
  | [x], _ => by simp [mx]
  | x :: y :: r, _ => by
    have ih := mx_mem (xs := y :: r) (by simp)
    have e : mx (x :: y :: r) = max x (mx (y :: r)) := rfl
    rw [e]
    rcases Nat.le_total x (mx (y :: r)) with h | h
    · rw [Nat.max_eq_right h]; exact List.mem_cons_of_mem _ ih
    · rw [Nat.max_eq_left h]; exact List.mem_cons_self
theorem mx_int {xs : List Nat} {m : Int} (hm : m ∈ xs.map fun x : Nat => (x : Int)) (hb : ∀ y, y ∈ xs.map (fun x : Nat => (x : Int)) → y ≤ m) : m = (mx xs : Int) := by
  obtain ⟨x, hx, rfl⟩ := List.mem_map.mp hm
  have h1 := le_mx hx
  have h2 := hb _ (List.mem_map.mpr ⟨mx xs, mx_mem (fun z => by rw [z] at hx; cases hx), rfl⟩)
  omega
end Tb
section
variable {K : PySem.W.Frag} {σ : L2.St} {H : Hp} {Q : VK} {te : TE} {r : V → Hp → VK → Prop}
theorem r_un (h : te σ H fun x H1 => r x H1 Q) : tUn r te σ H Q := h
theorem r_rU {g : Int → V} {i : Int} (h : Q (g i) H) : rU g (.int i) H Q := ⟨i, rfl, h⟩
theorem r_maxN {p : Addr} {xs : List Nat} (e : H p = some (.lst (xs.map nV))) (h0 : xs ≠ []) (q : Q (.int (Tb.mx xs : Int)) H) : rMax K [.ref p] H Q := by
  refine ⟨p, xs.map (fun x : Nat => (x : Int)), rfl, ?_, ?_, fun m h1 h2 => ?_⟩
  · refine SqL.of ?_
    rw [e, List.map_map]
    rfl
  · rw [List.length_map]
    exact List.length_pos_iff.mpr h0
  · rw [Tb.mx_int h1 h2]
    exact q
theorem r_tupN {p : Addr} {xs : List V} (e : H p = some (.lst xs)) (q : ∀ t H', H t = none → H' t = some (.tup xs) → Fr No H H' → Q (.ref t) H') : rTupQ K [.ref p] H Q := ⟨p, xs, rfl, .inl ⟨SqL.of e, r_new q⟩⟩
theorem r_ixLast {p : Addr} {xs : List V} {v : V} (e : H p = some (.lst (xs ++ [v]))) (q : Q v H) : rIxL K (.ref p) (.int (-1)) H Q := ⟨p, _, _, _, rfl, rfl, SqL.of e, atI_last xs v, q⟩
end
/-! promises -/
abbrev sp_next_of (K : PySem.W.Frag) : Sp := sp2 fun x y H Q _ => ∃ A T, ∃ a : Nat, x = .ref A.p ∧ y = .int (a : Int) ∧ TbK K H A T ∧ T.Wf ∧ a < T.n ∧ Q (oV (T.nx a)) H
abbrev sp_chain (K : PySem.W.Frag) : Sp := sp2 fun x y H Q _ => ∃ A T, ∃ a : Nat, x = .ref A.p ∧ y = .int (a : Int) ∧ TbK K H A T ∧ T.Wf ∧ a < T.n ∧ ∀ p H', H p = none → H' p = some (.lst ((T.chainT a).map nV)) → Fr No H H' → Q (.ref p) H'
abbrev sp_ring_of (K : PySem.W.Frag) : Sp := sp2 fun x y H Q _ => ∃ A T, ∃ a : Nat, x = .ref A.p ∧ y = .int (a : Int) ∧ TbK K H A T ∧ T.Wf ∧ a < T.n ∧
  (∀ H', T.ringAt a = none → Fr No H H' → Q .non H') ∧ ∀ r p H', T.ringAt a = some r → H p = none → H' p = some (.tup (r.map nV)) → Fr No H H' → Q (.ref p) H'
def ringD (r : List Nat) : PyData := .tuple (r.map fun x : Nat => PyData.int (x : Int))
abbrev sp_rings (K : PySem.W.Frag) : Sp := sp1 fun x H Q _ => ∃ A T, x = .ref A.p ∧ TbK K H A T ∧ T.Wf ∧ ∀ p H', H p = none → LsAt H' p (T.ringsT.map ringD) → Fr No H H' → Q (.ref p) H'
/-- a fresh list is written -/
theorem Fr.mutL {H H1 : Hp} {p : Addr} {u : HO} (f : Fr No H H1) (h : H p = none) : Fr No H (upd H1 p u) := f.mut h
section
variable {K : PySem.W.Frag} {H : Hp} {Q : VK} {p : Addr} {b : Nat} {f : List Nat}
theorem r_notInL (e : H p = some (.lst (f.map nV))) (q : Q (.bl (!decide (b ∈ f))) H) : rIn K true (.int (b : Int)) (.ref p) H Q := ⟨p, _, rfl, .inl (SqL.of e), rfl, nats_flat _, by
  have ei : inV (V.int (b : Int)) (f.map nV) = decide (b ∈ f) := inV_nats
  rw [if_pos rfl, ei]
  exact q⟩
theorem r_inL (e : H p = some (.lst (f.map nV))) (q : Q (.bl (decide (b ∈ f))) H) : rIn K false (.int (b : Int)) (.ref p) H Q := ⟨p, _, rfl, .inl (SqL.of e), rfl, nats_flat _, by
  have ei : inV (V.int (b : Int)) (f.map nV) = decide (b ∈ f) := inV_nats
  rw [if_neg Bool.false_ne_true, ei]
  exact q⟩
end
theorem td_nats (H : Hp) : ∀ xs : List Nat, TdAll H (xs.map nV) (xs.map fun x : Nat => PyData.int (x : Int))
  | [] => .nil
  | x :: r => .cons (.int _) (td_nats H r)
theorem some_map {α : Type} : ∀ (xs : List α) (f : α → Option (List Nat)), ((xs.filter fun a => (f a).isSome).map fun a => match f a with | none => PyData.none | some r => ringD r) = (xs.filterMap f).map ringD
  | [], f => rfl
  | x :: r, f => by
    have ih := some_map r f
    cases q : f x with
    | none =>
      rw [List.filter_cons, q]
      simp only [Option.isSome_none, Bool.false_eq_true, if_false, List.filterMap_cons, q]
      exact ih
    | some y =>
      rw [List.filter_cons, q]
      simp only [Option.isSome_some, if_true, List.filterMap_cons, q, List.map_cons]
      rw [ih]
abbrev sp_is_ring (K : PySem.W.Frag) : Sp := sp2 fun x y H Q _ => ∃ A T d, x = .ref A.p ∧ TbK K H A T ∧ T.Wf ∧ Td H y d ∧ Cmp d ∧ ∀ H', Fr No H H' → Q (.bl ((T.ringsT.map ringD).any fun e => PyData.eqv e d)) H'
abbrev sp_Lnext (K : PySem.W.Frag) : Sp := sp2 fun x y H Q _ => ∃ D T, ∃ a : Nat, x = .ref D.d ∧ y = .int (a : Int) ∧ LdAt H D T ∧ T.Wf ∧ a < T.n ∧ Q (oV (T.nx a)) H
abbrev sp_Lchain (K : PySem.W.Frag) : Sp := sp2 fun x y H Q _ => ∃ D T, ∃ a : Nat, x = .ref D.d ∧ y = .int (a : Int) ∧ LdAt H D T ∧ T.Wf ∧ a < T.n ∧ ∀ p H', H p = none → H' p = some (.lst ((T.chainT a).map nV)) → Fr No H H' → Q (.ref p) H'
abbrev sp_Lrings (K : PySem.W.Frag) : Sp := sp1 fun x H Q _ => ∃ D T, x = .ref D.d ∧ LdAt H D T ∧ T.Wf ∧ ∀ p H', H p = none → LsAt H' p (T.ringsT.map ringD) → Fr No H H' → Q (.ref p) H'
theorem ringD_cmp (r : List Nat) : (ringD r).canLay0 = true ∧ (ringD r).depth ≤ 59 := by
  have h := nats_cmp r
  unfold ringD
  refine ⟨by simp only [PyData.canLay0]; exact h.1, ?_⟩
  simp only [PyData.depth]
  have := nats_depth r
  omega
theorem rings_cmp (rs : List (List Nat)) : CmpAll (rs.map ringD) := CmpAll.of fun d hd => by
  obtain ⟨r, _, rfl⟩ := List.mem_map.mp hd
  exact ringD_cmp r
/-- a table and the law's own, grown by deeds -/
abbrev sp_Lgrown (Tl : List (Addr × Str)) (K : PySem.W.Frag) : Sp := sp2 fun x y H Q _ => ∃ st sc ns, ∃ most : Nat, x = .ref st ∧ y = .int (most : Int) ∧ most ≤ 900 ∧ StAt K H st sc ns ∧ ScF K sc ns (Only1 st) ∧ LamX.Tabs Tl H ∧
  ∀ A D T p H', H' p = some (.tup [.ref A.p, .ref D.d]) → Lw K A D st sc ns Tl T H' → LwS K A D st sc ns → Q (.ref p) H'
end AL

namespace AL
open PySem PySem.Spec PyProof.Rows L2
/-! # t[::-1], t a tuple -/
theorem adj_rev (n : Nat) : Builtin.Slice.sliceAdjust none none (-1) (n : Int) = ((n : Int) - 1, -1) := by
  unfold Builtin.Slice.sliceAdjust
  simp
theorem places_rev (n : Nat) : Builtin.Slice.slicePlaces ((n : Int) - 1) (-1) (-1) = n := by
  unfold Builtin.Slice.slicePlaces
  rw [if_neg (by decide)]
  by_cases h : n = 0
  · subst h
    rfl
  · rw [if_pos (by omega)]
    have e : ((n : Int) - 1 - -1 - 1) / (- -1) + 1 = (n : Int) := by
      have e1 : (- -1 : Int) = 1 := by decide
      rw [e1, Int.ediv_one]
      omega
    rw [e]
    simp
theorem fm_congr {α β : Type} {f g : α → Option β} : ∀ {l : List α}, (∀ m ∈ l, f m = g m) → l.filterMap f = l.filterMap g
  | [], _ => rfl
  | x :: r, h => by
    rw [List.filterMap_cons, List.filterMap_cons, h x List.mem_cons_self, fm_congr fun m hm => h m (List.mem_cons_of_mem _ hm)]
theorem pick_rev (xs : Array Value) : ((List.range xs.size).filterMap fun (m : Nat) => xs[(((xs.size : Int) - 1) + (m : Int) * (-1)).toNat]?).toArray = xs.toList.reverse.toArray := by
  congr 1
  have e1 : (List.range xs.size).filterMap (fun (m : Nat) => xs[(((xs.size : Int) - 1) + (m : Int) * (-1)).toNat]?) = ((List.range xs.size).map fun k => xs.size - 1 - k).filterMap (xs[·]?) := by
    rw [List.filterMap_map]
    refine fm_congr fun m hm => ?_
    have hm' := List.mem_range.mp hm
    show _ = xs[xs.size - 1 - m]?
    have e2 : (((xs.size : Int) - 1) + (m : Int) * (-1)).toNat = xs.size - 1 - m := by omega
    rw [e2]
  rw [e1, PySem.W.krv_range, List.filterMap_reverse, PySem.W.krv_all]
section
open HT
variable {prog : Program} {w : World} {A : Around} {E : Value → Shared → Prop} {s : Shared}
theorem applied_rev {sl : Addr} {vl vu vs : Value} {n : Nat} {Q : Int × Int × Nat → Shared → Prop} (hs : s.heap.IsSliceOf sl vl vu vs) (pl : IsPart vl none) (pu : IsPart vu none) (ps : IsPart vs (some (-1)))
    (h : Q ((n : Int) - 1, -1, n) s) : wpAny (model prog w) A (Builtin.Slice.sliceApplied (.ref sl) (pure (n : Int))) Q E s := by
  obtain ⟨o, ho, hc, hd⟩ := id hs
  unfold Builtin.Slice.sliceApplied Builtin.Slice.sliceFields
  refine wpAny_bind (wpAny_bind (wpAny_field ho hd (x := vl) rfl (wpAny_bind (wpAny_field ho hd (x := vu) rfl
    (wpAny_bind (wpAny_field ho hd (x := vs) rfl (wpAny_pure ?_)))))))
  refine wpAny_bind (slicePart_ ps ?_)
  show wpAny _ _ (if ((-1 : Int) == 0) = true then _ else _) _ _ s
  rw [if_neg (by decide)]
  refine wpAny_bind (slicePart_ pl
    (wpAny_bind (slicePart_ pu (wpAny_bind (wpAny_pure ?_)))))
  show wpAny _ _ (match Builtin.Slice.sliceAdjust none none (-1) (n : Int) with | (lo, hi) => pure (lo, (-1 : Int), Builtin.Slice.slicePlaces lo hi (-1))) _ _ s
  rw [adj_rev]
  show wpAny _ _ (pure ((n : Int) - 1, (-1 : Int), Builtin.Slice.slicePlaces ((n : Int) - 1) (-1) (-1))) _ _ s
  rw [places_rev]
  exact wpAny_pure h
theorem getItem_tup_rev {t sl : Addr} {items : Array Value} {vl vu vs : Value} {Q : Value → Shared → Prop} (ht : IsTup s.heap t items) (hs : s.heap.IsSliceOf sl vl vu vs) (pl : IsPart vl none) (pu : IsPart vu none) (ps : IsPart vs (some (-1)))
    (h : Q (.ref s.heap.objs.size) { s with heap := s.heap.push { cls := .type "tuple", data := .seq items.toList.reverse.toArray } }) (hsz : items.size ≤ sizeLine) : wpAny (model prog w) A (getItem (.ref t) (.ref sl)) Q E s := by
  have ok : sizeOk (.seq items.toList.reverse.toArray) := by
    show items.toList.reverse.toArray.size ≤ sizeLine
    rw [List.size_toArray, List.length_reverse, Array.length_toList]
    exact hsz
  obtain ⟨o, ho, hc, hd⟩ := id hs
  have ty : s.TypeIs (.ref sl) "slice" := ⟨o, ho, hc⟩
  unfold getItem
  try with_reducible refine wpAny_holding ?_
  try refine wpAny_bind (wpAny_pure ?_)
  have tt := ht.typeIs
  refine wpAny_bind (wpAny_sequenceKey tt (by decide) ?_)
  refine wpAny_bind (wpAny_callSpecial?_slot (name := Str.ofString "__getitem__") tt slot_tuple_getitem
    (wpAny_call_entry slot_tuple_getitem tt entry_tuple_getitem ?_ (args_tuple_getitem _ _)))
  show wpAny _ _ (Builtin.Tuple.tupleItemsOf (.ref t) >>= fun z => _) _ _ s
  refine wpAny_bind (tupleItemsOf_ ht (wpAny_bind (wpAny_typeOf ty ?_)))
  rw [if_pos (by decide)]
  refine wpAny_bind (applied_rev hs pl pu ps ?_)
  have off : ¬ ((((items.size : Int) - 1) == 0 && (-1 : Int) == 1 && items.size == items.size) = true) := by
    intro q
    rw [Bool.and_eq_true, Bool.and_eq_true] at q
    exact absurd q.1.2 (by decide)
  show wpAny _ _ (if (((items.size : Int) - 1) == 0 && (-1 : Int) == 1 && items.size == items.size) = true then _ else _) _ _ s
  rw [if_neg off, pick_rev]
  first
    | exact wpAny_bind (m := Builtin.Tuple.tupleExact _) (wpAny_newObj_type (wpAny_pure ⟨_, rfl, wpAny_pure h⟩) ok)
    | exact wpAny_bind (m := Builtin.Tuple.tupleExact _) (wpAny_newObj_type (wpAny_bind (wpAny_pure (wpAny_pure ⟨_, rfl, wpAny_pure h⟩))) ok)
    | exact wpAny_bind (wpAny_bind (m := Builtin.Tuple.tupleExact _) (wpAny_newObj_type (wpAny_pure (wpAny_pure ⟨_, rfl, wpAny_pure h⟩)) ok))
    | exact wpAny_bind (wpAny_bind (m := Builtin.Tuple.tupleExact _) (wpAny_newObj_type (wpAny_pure ⟨_, rfl, wpAny_pure h⟩) ok))
end
section
variable {X : Cx}
def tRevT (K : PySem.W.Frag) (te : TE) : TE := fun σ H Q => te σ H fun x H1 => ∃ a xs, x = .ref a ∧ SqT K H1 a xs ∧ ∀ p, H1 p = none → Q (.ref p) (upd H1 p (.tup xs.reverse))
theorem pe_revT {e : Expr} {te : TE} {k : Nat} {p1 p2 p3 pos : Pos} (he : PE X e te) :
    PE X (.Subscript e (.Slice none none (some (.UnaryOp .USub (.Constant (.int 1) k p1) p2)) p3) pos) (tRevT X.K te) := by
  refine ⟨fun pins s σ H Q I h => ?_⟩
  refine Subscript_ (thn (he.run pins s σ H _ I h) fun v s1 ⟨x, H1, I1, r1, a, xs, ex, hx, q⟩ => ?_)
  subst ex
  cases r1
  have st : PO X (some (.UnaryOp .USub (.Constant (.int 1) k p1) p2)) (tPart (tUn (rU fun i => .int (-i)) (tC (.int 1)))) :=
    po_some (pe_un un_neg pe_int)
  refine wpAny_Slice (thn (po_none.run pins s1 σ H1 (fun z Hz => z = none ∧ Hz = H1) I1 ⟨rfl, rfl⟩)
    fun vl s2 ⟨l, H2, I2, pl, el, e2⟩ => ?_)
  subst el e2
  refine thn (po_none.run pins s2 σ H2 (fun z Hz => z = none ∧ Hz = H2) I2 ⟨rfl, rfl⟩)
    fun vu s3 ⟨u, H3, I3, pu, eu, e3⟩ => ?_
  subst eu e3
  refine thn (st.run pins s3 σ H3 (fun o H4 => o = some (-1) ∧ H4 = H3) I3 ⟨1, rfl, -1, rfl, rfl, rfl⟩) fun vs s4 ⟨o, H4, I4, ps, eo, e4⟩ => ?_
  subst eo e4
  have J : Inv X pins σ H4 { s4 with heap := s4.heap.push { cls := .type "slice", data := .fields #[vl, vu, vs] } } :=
    I4.kept (t' := s4.toks) fun b ob q => Heap.get?_push_of_some _ q
  obtain ⟨its, r, ht, hz⟩ := J.tuple hx
  have hl := r.length
  show wpAny (model X.prog X.w) X.A (subscriptTail e _ (.ref a) (.ref s4.heap.objs.size)) (EP X pins σ Q) X.xe _
  refine tail_any (ops := [.ref a, .ref s4.heap.objs.size]) ht.typeIs (PyProof.Rows.slot_tuple_getitem.lookup) ?_ (by with_unfolding_all rfl)
  refine getItem_tup_rev ht (Heap.IsSliceOf.new _ vl vu vs) pl pu ps ?_ (by rw [List.size_toArray]; omega)
  refine ⟨.ref _, _, J.laid (t' := s4.toks) (o := .tup xs.reverse) (fun b ob q => Heap.get?_push_of_some _ q) (Nat.le_refl _) ?_, rfl, q _ (J.hok.fresh (Nat.le_refl _))⟩
  exact ⟨by rw [List.length_reverse]; exact hz, _, r.reverse, IsTup.new _ _⟩
def RevOn (K : PySem.W.Frag) (x : V) (H1 : Hp) (Q : VK) : Prop := ∃ a xs, x = .ref a ∧ SqT K H1 a xs ∧ ∀ p, H1 p = none → Q (.ref p) (upd H1 p (.tup xs.reverse))
theorem r_revT {K : PySem.W.Frag} {σ : L2.St} {H : Hp} {Q : VK} {te : TE} (h : te σ H fun x H1 => RevOn K x H1 Q) : tRevT K te σ H Q := h
end
theorem k_revT {X : Cx} {K : PySem.W.Frag} {e : Expr} {te : TE} {k : Nat} {p1 p2 p3 pos : Pos} (hK : X.K = K) (he : PE X e te) : PE X (.Subscript e (.Slice none none (some (.UnaryOp .USub (.Constant (.int 1) k p1) p2)) p3) pos) (tRevT K te) := hK ▸ pe_revT he
/-! # tuples of ints -/
def IT (H : Hp) (v : V) (n : Nat) : Prop := ∃ (a : Addr) (xs : List Int), v = .ref a ∧ H a = some (.tup (xs.map V.int)) ∧ xs.length ≤ n
section
variable {K : PySem.W.Frag} {S : Addr → Prop} {H H' : Hp} {Q : VK} {v u : V} {n m : Nat}
theorem IT.fr (h : IT H v n) (f : Fr S H H') : IT H' v n := by
  obtain ⟨a, xs, e, h1, h2⟩ := h
  exact ⟨a, xs, e, f.tup _ _ h1, h2⟩
theorem IT.le (h : IT H v n) (l : n ≤ m) : IT H v m := by
  obtain ⟨a, xs, e, h1, h2⟩ := h
  exact ⟨a, xs, e, h1, Nat.le_trans h2 l⟩
theorem cut_map (xs : List Int) (lo hi : Option Int) : ∃ ys : List Int, cutV (xs.map V.int) lo hi = ys.map V.int ∧ ys.length ≤ xs.length := by
  unfold cutV
  refine ⟨(xs.drop (HT.sIx (xs.map V.int).length 0 lo)).take (HT.sIx (xs.map V.int).length (xs.map V.int).length hi - HT.sIx (xs.map V.int).length 0 lo), ?_, ?_⟩
  · rw [List.map_take, List.map_drop]
  · rw [List.length_take, List.length_drop]
    omega
theorem r_slIT {lo hi : Option Int} (h : IT H v n) (q : ∀ v' H', IT H' v' n → Fr No H H' → Q v' H') : rSlA K v lo hi H Q := by
  obtain ⟨a, xs, rfl, h1, h2⟩ := h
  refine ⟨a, _, rfl, SqT.of h1, fun _ => q _ H ⟨a, xs, rfl, h1, h2⟩ Fr.refl, fun _ p hp => ?_⟩
  obtain ⟨ys, e, hl⟩ := cut_map xs lo hi
  rw [e]
  exact q _ _ ⟨p, ys, rfl, upd_same, Nat.le_trans hl h2⟩ (Fr.new hp)
theorem r_revIT (h : IT H v n) (q : ∀ v' H', IT H' v' n → Fr No H H' → Q v' H') : RevOn K v H Q := by
  obtain ⟨a, xs, rfl, h1, h2⟩ := h
  refine ⟨a, _, rfl, SqT.of h1, fun p hp => q _ _ ⟨p, xs.reverse, rfl, ?_, ?_⟩ (Fr.new hp)⟩
  · rw [upd_same, List.map_reverse]
  · rw [List.length_reverse]; exact h2
theorem r_catIT (h : IT H v n) (g : IT H u m) (hl : n + m ≤ 2000) (q : ∀ v' H', IT H' v' (n + m) → Fr No H H' → Q v' H') : rCatA K v u H Q := by
  obtain ⟨a, xs, rfl, h1, h2⟩ := h
  obtain ⟨b, ys, rfl, g1, g2⟩ := g
  refine ⟨a, b, _, _, rfl, rfl, SqT.of h1, SqT.of g1, ?_, fun _ => q _ H ⟨b, ys, rfl, g1, by omega⟩ Fr.refl, fun _ _ => q _ H ⟨a, xs, rfl, h1, by omega⟩ Fr.refl, fun _ _ p hp => ?_⟩
  · rw [List.length_map, List.length_map]
    exact Nat.le_of_lt (small2000 (by omega))
  · exact q _ _ ⟨p, xs ++ ys, rfl, by rw [upd_same, List.map_append], by rw [List.length_append]; omega⟩ (Fr.new hp)
theorem r_tupIT {ns : List Int} {xs : List V} (e : xs = ns.map V.int) (hl : ns.length ≤ 2000) (q : ∀ v' H', IT H' v' ns.length → Fr No H H' → Q v' H') : NewT xs H Q := by
  subst e
  exact r_newT (by rw [List.length_map]; exact hl) fun p H' hp ep f => q _ H' ⟨p, ns, rfl, ep, Nat.le_refl _⟩ f
theorem IT.dd (h : IT H v n) (hn : n ≤ 2000) : ∃ xs : List Int, Td H v (.tuple (xs.map PyData.int)) ∧ xs.length ≤ n := by
  obtain ⟨a, xs, rfl, h1, h2⟩ := h
  exact ⟨xs, .tup h1 (int_td H xs), h2⟩
end
theorem td_ints_dd {H : Hp} : ∀ {r : List Nat} {vs : List V}, TdAll H vs (r.map fun x : Nat => PyData.int (x : Int)) → DdAll H vs (r.map fun x : Nat => PyData.int (x : Int))
  | [], _, h => by cases h; exact .nil
  | x :: r, _, h => by
    cases h with
    | cons h1 h2 => exact .cons (by cases h1; exact .int _) (td_ints_dd h2)
theorem td_ints_v {H : Hp} : ∀ {r : List Nat} {vs : List V}, TdAll H vs (r.map fun x : Nat => PyData.int (x : Int)) → vs = r.map nV
  | [], _, h => by cases h; rfl
  | x :: r, _, h => by
    cases h with
    | cons h1 h2 => rw [td_ints_v h2]; cases h1; rfl
theorem td_ring {H : Hp} {v : V} {r : List Nat} (h : Td H v (ringD r)) (hl : r.length ≤ 2000) : Dd H v (ringD r) := by
  cases h with
  | tup e a => exact .tup e (by rw [a.len, List.length_map]; exact hl) (td_ints_dd a)
theorem td_rings {H : Hp} : ∀ {rs : List (List Nat)} {vs : List V}, TdAll H vs (rs.map ringD) → (∀ r ∈ rs, r.length ≤ 2000) → DdAll H vs (rs.map ringD)
  | [], _, h, _ => by cases h; exact .nil
  | r :: rs, _, h, hl => by
    cases h with
    | cons h1 h2 => exact .cons (td_ring h1 (hl r List.mem_cons_self)) (td_rings h2 fun q hq => hl q (List.mem_cons_of_mem _ hq))
theorem rings_dd {H : Hp} {p : Addr} {rs : List (List Nat)} (h : LsAt H p (rs.map ringD)) (h1 : rs.length ≤ 2000) (h2 : ∀ r ∈ rs, r.length ≤ 2000) : Dd H (.ref p) (.list (rs.map ringD)) := by
  obtain ⟨vs, e, a⟩ := h
  exact .lst e (by rw [a.len, List.length_map]; exact h1) (td_rings a h2)
theorem rings_depth : ∀ rs : List (List Nat), PyData.depthAll (rs.map ringD) ≤ 1
  | [] => by simp [PyData.depthAll]
  | r :: rs => by
    have ih := rings_depth rs
    have e : (ringD r).depth = 1 := by
      unfold ringD
      simp only [PyData.depth, nats_depth]
    simp only [List.map_cons, PyData.depthAll, e]
    omega
namespace Tb
variable {T : Tb}
theorem ring_len (W : T.Wf) {a : Nat} {r : List Nat} (ha : a < T.n) (h : T.ringAt a = some r) : r.length ≤ 8 ∧ r ≠ [] := by
  unfold ringAt at h
  split at h
  · cases h
    obtain ⟨w1, w2, i, z, w3, _⟩ := way_ok W ha
    have := nodup_le w1 w2
    have := W.sz.n8
    exact ⟨by omega, by rw [w3]; simp⟩
  · cases h
theorem rings_len (W : T.Wf) : T.ringsT.length ≤ 8 ∧ ∀ r ∈ T.ringsT, r.length ≤ 8 ∧ r ≠ [] := by
  refine ⟨?_, fun r hr => ?_⟩
  · have h := List.length_filterMap_le T.ringAt (List.range T.n)
    rw [List.length_range] at h
    have := W.sz.n8
    unfold ringsT
    omega
  · obtain ⟨a, h1, h2⟩ := List.mem_filterMap.mp hr
    exact ring_len W (List.mem_range.mp h1) h2
end Tb
theorem r_rngI {ta : L2.TA} {σ : L2.St} {H : Hp} {R : It → Hp → Prop} (h : ta σ H fun vs H1 => ∃ j : Int, vs = [.int j] ∧ -(2 ^ 62) ≤ j ∧ j < 2 ^ 62 ∧ R (Itr 0 j.toNat) H1) : iRng1 ta σ H R := h
theorem ints_all : ∀ xs : List Int, PyData.canLayAll0 (xs.map PyData.int) = true ∧ PyData.depthAll (xs.map PyData.int) = 0
  | [] => by simp [PyData.canLayAll0, PyData.depthAll]
  | x :: r => by
    obtain ⟨h1, h2⟩ := ints_all r
    simp only [List.map_cons, PyData.canLayAll0, PyData.canLay0, PyData.depthAll, PyData.depth, h1, h2]
    decide
theorem ints_cmp (xs : List Int) : Cmp (.tuple (xs.map PyData.int)) := by
  obtain ⟨h1, h2⟩ := ints_all xs
  refine ⟨by simp only [PyData.canLay0]; exact h1, ?_⟩
  simp only [PyData.depth, h2]
  decide
end AL

namespace AL
open PySem PySem.Spec PyProof.Rows L2
/-! # rings: what the deeds do to them (no program in sight) -/
namespace Tb
variable {T T' : Tb} {a b c l : Nat}
/-- each of the row goes to the next one, the last to h -/
def Lk (T : Tb) : List Nat → Option Nat → Prop
  | [], _ => True
  | [x], h => T.nx x = h
  | x :: y :: r, h => T.nx x = some y ∧ Lk T (y :: r) h
theorem lk_snoc : ∀ {f : List Nat} {b : Nat} {h : Option Nat}, Lk T f (some b) → T.nx b = h → Lk T (f ++ [b]) h
  | [], b, h, _, e => e
  | [x], b, h, k, e => ⟨k, e⟩
  | x :: y :: r, b, h, k, e => ⟨k.1, lk_snoc (f := y :: r) k.2 e⟩
theorem wk_lk : ∀ (k : Nat) (f : List Nat) (h : Option Nat), Lk T f h → f ≠ [] → Lk T (wk T k f h).1 (wk T k f h).2 ∧ (wk T k f h).1.head? = f.head?
  | 0, f, h, w, _ => ⟨w, rfl⟩
  | k + 1, f, none, w, _ => ⟨w, rfl⟩
  | k + 1, f, some b, w, n => by
    by_cases hb : b ∈ f
    · have e : wk T (k + 1) f (some b) = (f, some b) := by
        show (if b ∈ f then (f, some b) else wk T k (f ++ [b]) (T.nx b)) = _
        rw [if_pos hb]
      rw [e]
      exact ⟨w, rfl⟩
    · have e : wk T (k + 1) f (some b) = wk T k (f ++ [b]) (T.nx b) := by
        show (if b ∈ f then (f, some b) else wk T k (f ++ [b]) (T.nx b)) = _
        rw [if_neg hb]
      rw [e]
      obtain ⟨h1, h2⟩ := wk_lk k (f ++ [b]) (T.nx b) (lk_snoc w rfl) (by simp)
      refine ⟨h1, h2.trans ?_⟩
      cases f with
      | nil => exact absurd rfl n
      | cons x r => rfl
/-- who goes round comes home -/
theorem wk_run : ∀ (g f : List Nat) (k : Nat), (f ++ g).Nodup → Lk T g (some a) → a ∈ f → g.length ≤ k → wk T k f (g.head?.or (some a)) = (f ++ g, some a)
  | [], f, k, _, _, ha, _ => by
    rw [List.append_nil]
    cases k with
    | zero => rfl
    | succ k =>
      show (if a ∈ f then (f, some a) else _) = _
      rw [if_pos ha]
  | b :: g, f, 0, _, _, _, hk => absurd hk (by simp)
  | b :: g, f, k + 1, nd, w, ha, hk => by
    have hb : b ∉ f := fun z => (List.nodup_append.mp nd).2.2 b z b List.mem_cons_self rfl
    have ea : f ++ b :: g = (f ++ [b]) ++ g := by simp
    show (if b ∈ f then (f, some b) else wk T k (f ++ [b]) (T.nx b)) = _
    rw [if_neg hb, ea]
    have en : T.nx b = g.head?.or (some a) ∧ Lk T g (some a) := by
      cases g with
      | nil => exact ⟨w, True.intro⟩
      | cons c r => exact ⟨w.1, w.2⟩
    rw [en.1]
    exact wk_run g (f ++ [b]) k (ea ▸ nd) en.2 (List.mem_append_left _ ha) (by simpa using hk)
/-- a ring -/
structure Ring (T : Tb) (r : List Nat) : Prop where
  nd : r.Nodup
  lt : ∀ x ∈ r, x < T.n
  ne : r ≠ []
  lk : Lk T r r.head?
  hd : r.head? = some (mx r)
theorem ringAt_iff (W : T.Wf) (ha : a < T.n) {r : List Nat} : T.ringAt a = some r ↔ T.Ring r ∧ r.head? = some a := by
  constructor
  · intro h
    unfold ringAt at h
    split at h
    · rename_i q
      have er := Option.some.inj h
      obtain ⟨w1, w2, i, z, w3, w4⟩ := way_ok W ha
      have wl := wk_lk T.n [a] (T.nx a) (show Lk T [a] (T.nx a) from rfl) (by simp)
      have wl' : Lk T (T.way a).1 (T.way a).2 ∧ (T.way a).1.head? = some a := wl
      rw [er] at w1 w2 w3 wl' q
      rw [q.1] at wl'
      refine ⟨⟨w1, w2, by rw [w3]; simp, by rw [wl'.2]; exact wl'.1, by rw [wl'.2, q.2]⟩, wl'.2⟩
    · cases h
  · rintro ⟨R, e⟩
    cases r with
    | nil => cases e
    | cons x g =>
      have ex : x = a := Option.some.inj e
      subst ex
      have en : T.nx x = g.head?.or (some x) ∧ Lk T g (some x) := by
        have := R.lk
        cases g with
        | nil => exact ⟨this, True.intro⟩
        | cons c r => exact ⟨this.1, this.2⟩
      have hl := nodup_le R.nd R.lt
      have ew : T.way x = (x :: g, some x) := by
        show wk T T.n [x] (T.nx x) = _
        rw [en.1]
        exact wk_run g [x] T.n R.nd en.2 List.mem_cons_self (by rw [List.length_cons] at hl; omega)
      unfold ringAt
      rw [ew, if_pos ⟨rfl, by have := Option.some.inj R.hd; exact this.symm⟩]
theorem mem_rings (W : T.Wf) {r : List Nat} : r ∈ T.ringsT ↔ T.Ring r := by
  unfold ringsT
  rw [List.mem_filterMap]
  constructor
  · rintro ⟨a, h1, h2⟩
    exact ((ringAt_iff W (List.mem_range.mp h1)).mp h2).1
  · intro R
    have e : r.head? = some (mx r) := R.hd
    have hm : mx r < T.n := R.lt _ (mx_mem R.ne)
    exact ⟨mx r, List.mem_range.mpr hm, (ringAt_iff W hm).mpr ⟨R, e⟩⟩
/-! ### closed ways -/
theorem lk_fwd {C : Nat → Prop} (hC : ∀ z w, C z → T.nx z = some w → C w) : ∀ {r : List Nat} {x : Nat} {h : Option Nat}, Lk T (x :: r) h → C x → (∀ y ∈ x :: r, C y) ∧ ∀ b, h = some b → C b
  | [], x, h, w, c => ⟨fun y hy => by rw [List.mem_singleton.mp hy]; exact c, fun b e => hC x b c (w.trans e)⟩
  | y :: r, x, h, w, c => by
    obtain ⟨h1, h2⟩ := lk_fwd hC (r := r) (x := y) w.2 (hC x y c w.1)
    exact ⟨fun z hz => (List.mem_cons.mp hz).elim (fun e => e ▸ c) (h1 z), h2⟩
theorem lk_mem {C : Nat → Prop} (hC : ∀ z w, C z → T.nx z = some w → C w) : ∀ {r : List Nat} {x : Nat} {h : Option Nat}, Lk T r h → x ∈ r → C x → ∀ b, h = some b → C b
  | y :: r, x, h, w, hx, c, b, e => by
    rcases List.mem_cons.mp hx with q | q
    · exact (lk_fwd hC w (q ▸ c)).2 b e
    · cases r with
      | nil => cases q
      | cons z r => exact lk_mem hC (r := z :: r) w.2 q c b e
theorem Ring.all {r : List Nat} (R : T.Ring r) {C : Nat → Prop} (hC : ∀ z w, C z → T.nx z = some w → C w) {x : Nat} (hx : x ∈ r) (c : C x) : ∀ y ∈ r, C y := by
  have h1 := lk_mem hC R.lk hx c _ R.hd
  cases r with
  | nil => cases hx
  | cons y g =>
    have e : y = mx (y :: g) := Option.some.inj R.hd
    exact (lk_fwd hC R.lk (e ▸ h1)).1
theorem lk_next : ∀ {r : List Nat} {x : Nat} {h : Option Nat}, Lk T r h → x ∈ r → (∃ y ∈ r, T.nx x = some y) ∨ T.nx x = h
  | [y], x, h, w, hx => by rw [List.mem_singleton.mp hx]; exact .inr w
  | y :: z :: r, x, h, w, hx => by
    rcases List.mem_cons.mp hx with q | q
    · exact .inl ⟨z, by simp, q ▸ w.1⟩
    · rcases lk_next (r := z :: r) w.2 q with ⟨u, hu, e⟩ | e
      · exact .inl ⟨u, List.mem_cons_of_mem _ hu, e⟩
      · exact .inr e
theorem Ring.next {r : List Nat} (R : T.Ring r) {x : Nat} (hx : x ∈ r) : ∃ y ∈ r, T.nx x = some y := by
  rcases lk_next R.lk hx with h | h
  · exact h
  · exact ⟨mx r, mx_mem R.ne, h.trans R.hd⟩
theorem Ring.waits {r : List Nat} (R : T.Ring r) {x : Nat} (hx : x ∈ r) : T.wa x ≠ none := fun z => by
  obtain ⟨y, _, e⟩ := R.next hx
  unfold nx at e
  rw [z] at e
  cases e
/-- rings with a common agent are one -/
theorem Ring.one (W : T.Wf) {r s : List Nat} (R : T.Ring r) (S : T.Ring s) {x : Nat} (hr : x ∈ r) (hs : x ∈ s) : r = s := by
  have cl : ∀ {q : List Nat}, T.Ring q → ∀ z w, z ∈ q → T.nx z = some w → w ∈ q := fun Q z w hz e => by
    obtain ⟨y, hy, e2⟩ := Q.next hz
    rw [e] at e2
    rw [Option.some.inj e2]; exact hy
  have h1 := R.all (C := (· ∈ s)) (cl S) hr hs
  have h2 := S.all (C := (· ∈ r)) (cl R) hs hr
  have e : mx r = mx s := Nat.le_antisymm (le_mx (h1 _ (mx_mem R.ne))) (le_mx (h2 _ (mx_mem S.ne)))
  have hm : mx r < T.n := R.lt _ (mx_mem R.ne)
  have e1 := (ringAt_iff W hm).mpr ⟨R, R.hd⟩
  have e2 := (ringAt_iff W hm).mpr ⟨S, by rw [e]; exact S.hd⟩
  rw [e1] at e2
  exact Option.some.inj e2
theorem lk_move : ∀ {r : List Nat} {h : Option Nat}, Lk T r h → (∀ x ∈ r, T'.nx x = T.nx x) → Lk T' r h
  | [], _, _, _ => True.intro
  | [x], h, w, e => (e x List.mem_cons_self).trans w
  | x :: y :: r, h, w, e => ⟨(e x List.mem_cons_self).trans w.1, lk_move (r := y :: r) w.2 fun z hz => e z (List.mem_cons_of_mem _ hz)⟩
theorem Ring.move {r : List Nat} (R : T.Ring r) (hn : T'.n = T.n) (e : ∀ x ∈ r, T'.nx x = T.nx x) : T'.Ring r := ⟨R.nd, fun x hx => by rw [hn]; exact R.lt x hx, R.ne, lk_move R.lk e, R.hd⟩
theorem filterMap_congr' {α β : Type} {f g : α → Option β} : ∀ {xs : List α}, (∀ a ∈ xs, f a = g a) → xs.filterMap f = xs.filterMap g
  | [], _ => rfl
  | x :: r, h => by
    rw [List.filterMap_cons, List.filterMap_cons, h x List.mem_cons_self, filterMap_congr' (xs := r) fun a ha => h a (List.mem_cons_of_mem _ ha)]
/-- rings by rings -/
theorem rings_filter (W : T.Wf) (W' : T'.Wf) (hn : T'.n = T.n) (p : List Nat → Bool) (h : ∀ r, T'.Ring r ↔ T.Ring r ∧ p r = true) : T'.ringsT = T.ringsT.filter p := by
  have key : ∀ a, a < T.n → T'.ringAt a = (T.ringAt a).filter p := fun a ha => by
    have ha' : a < T'.n := by rw [hn]; exact ha
    apply Option.ext
    intro r
    rw [ringAt_iff W' ha', h r, Option.filter_eq_some_iff, ringAt_iff W ha]
    constructor
    · rintro ⟨⟨h1, h2⟩, h3⟩; exact ⟨⟨h1, h3⟩, h2⟩
    · rintro ⟨⟨h1, h3⟩, h2⟩; exact ⟨⟨h1, h2⟩, h3⟩
  unfold ringsT
  rw [hn, List.filter_filterMap]
  exact filterMap_congr' fun a ha => key a (List.mem_range.mp ha)
theorem rings_same (W : T.Wf) (W' : T'.Wf) (hn : T'.n = T.n) (h : ∀ r, T'.Ring r ↔ T.Ring r) : T'.ringsT = T.ringsT := by
  rw [rings_filter W W' hn (fun _ => true) (fun r => by rw [h r]; simp), List.filter_eq_self.mpr fun _ _ => rfl]
/-! ### no agent in two -/
theorem apart_of : ∀ {xs : List Nat} {f : Nat → Option (List Nat)} {R : List Nat → List Nat → Prop}, xs.Nodup → (∀ a b r s, a ∈ xs → b ∈ xs → a ≠ b → f a = some r → f b = some s → R r s) → (xs.filterMap f).Pairwise R
  | [], _, _, _, _ => List.Pairwise.nil
  | x :: xs, f, R, nd, h => by
    obtain ⟨n1, n2⟩ := List.nodup_cons.mp nd
    have ih := apart_of (f := f) (R := R) n2 fun a b r s ha hb => h a b r s (List.mem_cons_of_mem _ ha) (List.mem_cons_of_mem _ hb)
    cases e : f x with
    | none => rw [List.filterMap_cons, e]; exact ih
    | some r =>
      rw [List.filterMap_cons, e]
      refine List.pairwise_cons.mpr ⟨fun s hs => ?_, ih⟩
      obtain ⟨b, hb, eb⟩ := List.mem_filterMap.mp hs
      exact h x b r s List.mem_cons_self (List.mem_cons_of_mem _ hb) (fun z => n1 (z ▸ hb)) e eb
theorem rings_apart (W : T.Wf) : T.ringsT.Pairwise fun r s => ∀ x ∈ r, x ∉ s := by
  unfold ringsT
  refine apart_of List.nodup_range fun a b r s ha hb hab hr hs x hx hy => ?_
  obtain ⟨R, e1⟩ := (ringAt_iff W (List.mem_range.mp ha)).mp hr
  obtain ⟨S, e2⟩ := (ringAt_iff W (List.mem_range.mp hb)).mp hs
  have e := Ring.one W R S hx hy
  rw [e, e2] at e1
  exact hab (Option.some.inj e1).symm
theorem nd_flat : ∀ {xs : List (List Nat)}, (∀ r ∈ xs, r.Nodup) → xs.Pairwise (fun r s => ∀ x ∈ r, x ∉ s) → xs.flatten.Nodup
  | [], _, _ => by simp
  | r :: xs, h, p => by
    obtain ⟨p1, p2⟩ := List.pairwise_cons.mp p
    rw [List.flatten_cons, List.nodup_append]
    refine ⟨h r List.mem_cons_self, nd_flat (fun s hs => h s (List.mem_cons_of_mem _ hs)) p2, fun x hx y hy z => ?_⟩
    obtain ⟨s, hs, hys⟩ := List.mem_flatten.mp hy
    exact p1 s hs x hx (z ▸ hys)
theorem rings_flat (W : T.Wf) : T.ringsT.flatten.Nodup := nd_flat (fun r hr => ((mem_rings W).mp hr).nd) (rings_apart W)
theorem flat_waits (W : T.Wf) {x : Nat} (h : x ∈ T.ringsT.flatten) : x < T.n ∧ T.wa x ≠ none := by
  obtain ⟨r, hr, hx⟩ := List.mem_flatten.mp h
  have R := (mem_rings W).mp hr
  exact ⟨R.lt x hx, R.waits hx⟩
theorem rflat_len (W : T.Wf) : T.ringsT.flatten.length ≤ 8 := Nat.le_trans (nodup_le (rings_flat W) fun x hx => (flat_waits W hx).1) W.sz.n8
/-! ### the deeds -/
theorem nx_wa {x k : Nat} (h : T.wa x = some k) : T.nx x = T.ow k := by unfold nx; rw [h]
theorem nx_non {x : Nat} (h : T.wa x = none) : T.nx x = none := by unfold nx; rw [h]
theorem nx_some {x y : Nat} (h : T.nx x = some y) : ∃ k, T.wa x = some k ∧ T.ow k = some y := by
  cases e : T.wa x with
  | none => rw [nx_non e] at h; cases h
  | some k => rw [nx_wa e] at h; exact ⟨k, rfl, h⟩
/-- a lock of one that waits for none is given -/
theorem ring_pass (W : T.Wf) (hl : l < T.m) (ho : T.ow l = some a) (hw : T.wa a = none) (r : List Nat) : (T.pass l).Ring r ↔ T.Ring r := by
  have notA : ∀ {r : List Nat}, T.Ring r → a ∉ r := fun R z => R.waits z hw
  have nxT : ∀ {x : Nat}, T.wa x ≠ some l → (T.pass l).nx x = T.nx x := fun {x} hx => by
    have e : (T.pass l).wa x = T.wa x := by
      rw [pass_wa W, if_neg]
      intro z
      exact hx (W.lw l x (heir_mem z)).2
    unfold nx
    rw [e]
    cases q : T.wa x with
    | none => rfl
    | some k =>
      show (T.pass l).ow k = T.ow k
      rw [pass_ow hl, if_neg]
      intro z
      rw [← z] at q
      exact hx q
  constructor
  · intro R
    refine R.move pass_n.symm fun x hx => ?_
    refine (nxT fun hxl => ?_).symm
    obtain ⟨y, hy, e⟩ := R.next hx
    obtain ⟨k, e1, e2⟩ := nx_some e
    rw [pass_wa W] at e1
    split at e1
    · cases e1
    rename_i q
    rw [hxl] at e1
    have ek : l = k := Option.some.inj e1
    rw [← ek, pass_ow hl, if_pos rfl] at e2
    refine R.waits hy ?_
    rw [pass_wa W, if_pos e2]
  · intro R
    refine R.move pass_n fun x hx => nxT fun hxl => ?_
    obtain ⟨y, hy, e⟩ := R.next hx
    rw [nx_wa hxl, ho] at e
    have ey : a = y := Option.some.inj e
    exact notA R (ey ▸ hy)
theorem ring_passAll : ∀ (ls : List Nat) {T : Tb}, T.Wf → ls.Nodup → (∀ l ∈ ls, l < T.m ∧ T.ow l = some a) → T.wa a = none → ∀ r, (passAll ls T).2.Ring r ↔ T.Ring r
  | [], T, W, _, _, _, r => Iff.rfl
  | k :: ls, T, W, nd, h, hw, r => by
    obtain ⟨n1, n2⟩ := List.nodup_cons.mp nd
    obtain ⟨h1, h2⟩ := h k List.mem_cons_self
    refine (ring_passAll ls (W.pass h1) n2 (fun l hl => ?_) ?_ r).trans (ring_pass W h1 h2 hw r)
    · obtain ⟨q1, q2⟩ := h l (List.mem_cons_of_mem _ hl)
      refine ⟨by rw [pass_m]; exact q1, ?_⟩
      rw [pass_ow h1, if_neg (fun z : k = l => n1 (z ▸ hl))]
      exact q2
    · rw [pass_wa W]
      split
      · rfl
      · exact hw
theorem ring_unwait (W : T.Wf) (ha : a < T.n) (r : List Nat) : (T.unwait a).Ring r ↔ T.Ring r ∧ a ∉ r := by
  have nxT : ∀ {x : Nat}, x ≠ a → (T.unwait a).nx x = T.nx x := fun {x} hx => by
    unfold nx
    rw [unwait_wa ha, if_neg (fun z => hx z.symm)]
    cases T.wa x with
    | none => rfl
    | some k => exact unwait_ow
  constructor
  · intro R
    have na : a ∉ r := fun z => R.waits z (by rw [unwait_wa ha, if_pos rfl])
    exact ⟨R.move unwait_n.symm fun x hx => (nxT fun z => na (z ▸ hx)).symm, na⟩
  · rintro ⟨R, na⟩
    exact R.move unwait_n fun x hx => nxT fun z => na (z ▸ hx)
theorem ring_leave (W : T.Wf) (ha : a < T.n) (r : List Nat) : (T.leave a).2.Ring r ↔ T.Ring r ∧ a ∉ r := by
  unfold leave
  refine (ring_passAll (a := a) _ (W.unwait ha) held_nd (fun l hl => ⟨held_lt hl, mem_held.mp hl⟩) ?_ r).trans (ring_unwait W ha r)
  rw [unwait_wa ha, if_pos rfl]
/-- a leaving makes just its own ring none -/
theorem rings_leave (W : T.Wf) (ha : a < T.n) : (T.leave a).2.ringsT = T.ringsT.filter fun r => decide (a ∉ r) :=
  rings_filter W (W.leave ha) leave_n _ fun r => by rw [ring_leave W ha r, decide_eq_true_eq]
theorem rings_give (W : T.Wf) {x y : Int} : (T.giveR x y).2.ringsT = T.ringsT := by
  cases h : T.fault x y with
  | some w => rw [giveR_err h]
  | none =>
    obtain ⟨a, l, rfl, rfl, ha, hl⟩ := fault_none h
    rw [giveR_nat ha hl]
    split
    · rfl
    · rename_i q1
      split
      · rfl
      · rename_i q2
        exact rings_same W (W.pass hl) pass_n (ring_pass W hl (Decidable.not_not.mp q2) (Decidable.not_not.mp q1))
theorem ring_take (W : T.Wf) (ha : a < T.n) (hf : T.ow l = none) (r : List Nat) : (T.take a l).Ring r ↔ T.Ring r := by
  have e : ∀ x, (T.take a l).nx x = T.nx x := fun x => by
    unfold nx
    rw [take_wa]
    cases q : T.wa x with
    | none => rfl
    | some k =>
      show (T.take a l).ow k = T.ow k
      rw [take_ow, if_neg]
      rintro ⟨z, _⟩
      rw [← z] at q
      exact W.lo l (List.ne_nil_of_mem (W.wl x l q).2) hf
  exact ⟨fun R => R.move rfl fun x _ => (e x).symm, fun R => R.move rfl fun x _ => e x⟩
theorem nx_wait (ha : a < T.n) {x : Nat} (hx : x ≠ a) : (T.wait a l).nx x = T.nx x := by
  unfold nx
  rw [wait_wa, if_neg (fun z => hx z.1.symm)]
  cases T.wa x <;> rfl
theorem ring_wait (W : T.Wf) (ha : a < T.n) (hw : T.wa a = none) (r : List Nat) : T.Ring r ↔ (T.wait a l).Ring r ∧ a ∉ r := by
  constructor
  · intro R
    have na : a ∉ r := fun z => R.waits z hw
    exact ⟨R.move wait_n fun x hx => nx_wait ha fun z => na (z ▸ hx), na⟩
  · rintro ⟨R, na⟩
    exact R.move wait_n.symm fun x hx => (nx_wait ha fun z => na (z ▸ hx)).symm
/-- an asking makes no ring none, and one at the most, of which the asker is -/
theorem rings_ask (W : T.Wf) {x : Nat} {y : Int} : (∀ r ∈ T.ringsT, r ∈ (T.askR x y).2.ringsT) ∧ (∀ r ∈ (T.askR x y).2.ringsT, r ∉ T.ringsT → x ∈ r) := by
  have W' := W.askR (x := x) (y := y)
  have key : (∀ r, T.Ring r → (T.askR x y).2.Ring r) ∧ (∀ r, (T.askR x y).2.Ring r → ¬ T.Ring r → x ∈ r) := by
    clear W'
    cases h : T.fault x y with
    | some w => rw [askR_err h]; exact ⟨fun r R => R, fun r R N => absurd R N⟩
    | none =>
      obtain ⟨a, l, ea, rfl, ha, hl⟩ := fault_none h
      have ea' : x = a := by omega
      subst ea'
      rw [askR_nat ha hl]
      split
      · exact ⟨fun r R => R, fun r R N => absurd R N⟩
      · rename_i q1
        split
        · exact ⟨fun r R => R, fun r R N => absurd R N⟩
        · split
          · rename_i q3
            exact ⟨fun r R => (ring_take W ha q3 r).mpr R, fun r R N => absurd ((ring_take W ha q3 r).mp R) N⟩
          · have k := ring_wait (l := l) W ha (Decidable.not_not.mp q1)
            refine ⟨fun r R => ((k r).mp R).1, fun r R N => ?_⟩
            by_cases z : x ∈ r
            · exact z
            · exact absurd ((k r).mpr ⟨R, z⟩) N
  exact ⟨fun r hr => (mem_rings W').mpr (key.1 r ((mem_rings W).mp hr)), fun r hr hn => key.2 r ((mem_rings W').mp hr) fun z => hn ((mem_rings W).mpr z)⟩
/-- of rings with a common agent there is one -/
theorem rings_le_one (W : T.Wf) {p : List Nat → Bool} (h : ∀ r ∈ T.ringsT, p r = true → a ∈ r) : (T.ringsT.filter p).length ≤ 1 := by
  have hp := (rings_apart W).filter p
  cases e : T.ringsT.filter p with
  | nil => simp
  | cons r q =>
    cases q with
    | nil => simp
    | cons s q =>
      rw [e] at hp
      have m : ∀ t ∈ r :: s :: q, a ∈ t := fun t ht => by
        rw [← e] at ht
        obtain ⟨h1, h2⟩ := List.mem_filter.mp ht
        exact h t h1 h2
      exact absurd (m s (by simp)) ((List.pairwise_cons.mp hp).1 s (by simp) a (m r (by simp)))
end Tb
end AL

namespace AL
open PySem PySem.Spec PyProof.Rows L2
/-! # min of a list of pairs of ints -/
section
variable {prog : Program} {w : World} {A : Around} {R : Result → Shared → Prop} {I S : Addr} {fp wr : List Addr} {n : Nat} {P : Nat → Value → Prop} {St : Nat → Heap → Prop} {bt : Nat → Nat → Bool} {G : Heap → Prop}
/-- what is compared may lean on what stands -/
def CmpT (prog : Program) (w : World) (A : Around) (G : Heap → Prop) (P : Nat → Value → Prop) (bt : Nat → Nat → Bool) : Prop :=
  ∀ (i j : Nat) (x y : Value) (s : Shared) (Q E : Value → Shared → Prop), G s.heap → P i x → P j y → Q (.bool (bt i j)) s → wpAny (model prog w) A (richCompare .Lt x y) Q E s
def Stays (wr : List Addr) (S : Addr) (G : Heap → Prop) : Prop := ∀ g g' : Heap, (∀ b o, b ∉ wr → b ≠ S → g.get? b = some o → g'.get? b = some o) → G g → G g'
def boxO (x : List Value) (c : Nat) : Obj := { cls := .type "list", dict := none, data := .seq x.toArray c, slots := #[] }
theorem minT_loop (W : Walks prog w A.in1 I fp wr n P St) (hc : CmpT prog w A.in1 G P bt) (hG : Stays wr S G) (hS : S ∉ fp) : ∀ (k j : Nat) (s : Shared) (v : Value) (c : Nat), n = j + 1 + k → St (j + 1) s.heap → G s.heap → P (argBest bt j) v →
    s.heap.get? S = some (boxO [v, v] c) → (∀ z g tk, P (argBest bt (n - 1)) z → (∀ b o, b ∉ wr → b ≠ S → s.heap.get? b = some o → g.get? b = some o) → R (.ok (.ret z)) { s with heap := g, toks := tk }) →
    codeAny (model prog w) A (.builtin "min.loop" ⟨[.ref I, .none, .ref S], []⟩) R s := by
  have nS : S ∉ wr := fun z => hS (W.sub S z)
  have nm : (toString "min" ++ toString ".loop" : String) = "min.loop" := by decide
  intro k
  induction k with
  | zero =>
    intro j s v c hn hst hg hv hb hR
    refine (codeAny_builtin F.entry_min_loop ?_)
    rw [Around.under_plainId F.plain_min_loop]
    refine (wpAny_bind (wpAny_seqItems (o := boxO _ c) hb rfl ?_))
    show wpAny (model prog w) A.in1 (tryCatch (pyNext (Value.ref I)) _ >>= _) _ _ s
    refine (wpAny_bind (wpAny_tryCatch (W.done _ _ _ (show St n s.heap from by rw [hn]; exact hst) fun g tk hk => ?_)))
    show wpAny (model prog w) A.in1 (updateSeq S (fun _ => #[]) >>= _) _ _ _
    refine (wpAny_bind (wpAny_updateSeq (hk S _ nS hb) rfl (wpAny_bind (wpAny_letGo (wpAny_pure ?_)))))
    exact hR v _ tk (by rw [show n - 1 = j from by omega]; exact hv) fun b o h1 h2 e => (Heap.get?_update_other _ _ fun z => h2 z.symm).trans (hk b o h1 e)
  | succ k ih =>
    intro j s v c hn hst hg hv hb hR
    refine (codeAny_builtin F.entry_min_loop ?_)
    rw [Around.under_plainId F.plain_min_loop]
    refine (wpAny_bind (wpAny_seqItems (o := boxO _ c) hb rfl ?_))
    show wpAny (model prog w) A.in1 (tryCatch (pyNext (Value.ref I)) _ >>= _) _ _ s
    refine (wpAny_bind (wpAny_tryCatch (W.item (j + 1) _ _ _ (by omega) hst fun u g tk hu hst2 hk => ?_)))
    have hb2 := hk S _ nS hb
    have hg2 : G g := hG _ _ (fun b o h1 _ e => hk b o h1 e) hg
    show wpAny (model prog w) A.in1 (tryCatch (holding [u, u] (richCompare .Lt u v >>= _)) _ >>= _) _ _ _
    refine (wpAny_bind (wpAny_tryCatch (wpAny_holding (wpAny_bind (hc (j + 1) (argBest bt j) u v _ _ _ hg2 hu hv ?_)))))
    refine (wpAny_bind (wpAny_holding (wpAny_truthy_bool ?_)))
    refine (wpAny_bind (wpAny_letGo (wpAny_pure ?_)))
    have eb : argBest bt (j + 1) = if bt (j + 1) (argBest bt j) = true then j + 1 else argBest bt j := rfl
    cases q : bt (j + 1) (argBest bt j) with
    | true =>
      rw [q, if_pos rfl] at eb
      simp only [if_true]
      refine (wpAny_bind (wpAny_updateSeq hb2 rfl (wpAny_bind (wpAny_letGo ?_))))
      rw [nm]
      have old : ∀ (f : Obj → Obj) b o, b ≠ S → g.get? b = some o → (g.update S f).get? b = some o := fun f b o h2 e => (Heap.get?_update_other _ _ fun z => h2 z.symm).trans e
      refine wpAny_pure ⟨plainId_quiet F.plain_min_loop _, ih (j + 1) _ u _ (by omega) (W.frame _ _ _ hst2 fun b hbf o e => old _ b o (fun z => hS (z ▸ hbf)) e) (hG _ _ (fun b o _ h2 e => old _ b o h2 e) hg2) (by rw [eb]; exact hu) (Heap.get?_update_self _ hb2 rfl) fun z g' tk' hz hk' => ?_⟩
      exact hR z g' tk' hz fun b o h1 h2 e => hk' b o h1 h2 (old _ b o h2 (hk b o h1 e))
    | false =>
      rw [q, if_neg Bool.false_ne_true] at eb
      simp only [Bool.false_eq_true, if_false]
      refine (wpAny_bind (wpAny_letGo ?_))
      rw [nm]
      refine wpAny_pure ⟨plainId_quiet F.plain_min_loop _, ih (j + 1) _ v c (by omega) hst2 hg2 (by rw [eb]; exact hv) hb2 fun z g' tk' hz hk' => ?_⟩
      exact hR z g' tk' hz fun b o h1 h2 e => hk' b o h1 h2 (hk b o h1 e)
theorem minT_first (W : Walks prog w A.in1 I fp wr n P St) (hc : CmpT prog w A.in1 G P bt) (hG : Stays wr S G) (hS : S ∉ fp) (hn : 0 < n) {s : Shared} {c : Nat} (hst : St 0 s.heap) (hg : G s.heap) (hb : s.heap.get? S = some (boxO [] c))
    (hR : ∀ z g tk, P (argBest bt (n - 1)) z → (∀ b o, b ∉ wr → b ≠ S → s.heap.get? b = some o → g.get? b = some o) → R (.ok (.ret z)) { s with heap := g, toks := tk }) :
    codeAny (model prog w) A (.builtin "min.loop" ⟨[.ref I, .none, .ref S], []⟩) R s := by
  have nS : S ∉ wr := fun z => hS (W.sub S z)
  have nm : (toString "min" ++ toString ".loop" : String) = "min.loop" := by decide
  refine (codeAny_builtin F.entry_min_loop ?_)
  rw [Around.under_plainId F.plain_min_loop]
  refine (wpAny_bind (wpAny_seqItems (o := boxO _ c) hb rfl ?_))
  show wpAny (model prog w) A.in1 (tryCatch (pyNext (Value.ref I)) _ >>= _) _ _ s
  refine (wpAny_bind (wpAny_tryCatch (W.item 0 _ _ _ hn hst fun u g tk hu hst2 hk => ?_)))
  have hb2 := hk S _ nS hb
  have hg2 : G g := hG _ _ (fun b o h1 _ e => hk b o h1 e) hg
  show wpAny (model prog w) A.in1 (updateSeq S (fun _ => #[u, u]) >>= _) _ _ _
  refine (wpAny_bind (wpAny_updateSeq hb2 rfl ?_))
  rw [nm]
  have old : ∀ (f : Obj → Obj) b o, b ≠ S → g.get? b = some o → (g.update S f).get? b = some o := fun f b o h2 e => (Heap.get?_update_other _ _ fun z => h2 z.symm).trans e
  refine wpAny_pure ⟨plainId_quiet F.plain_min_loop _, minT_loop W hc hG hS (n - 1) 0 _ u _ (by omega) (W.frame _ _ _ hst2 fun b hbf o e => old _ b o (fun z => hS (z ▸ hbf)) e) (hG _ _ (fun b o _ h2 e => old _ b o h2 e) hg2) hu (Heap.get?_update_self _ hb2 rfl) fun z g' tk' hz hk' => ?_⟩
  exact hR z g' tk' hz fun b o h1 h2 e => hk' b o h1 h2 (old _ b o h2 (hk b o h1 e))
end
section
variable {prog : Program} {w : World} {A : Around} {E : Value → Shared → Prop} {s : Shared}
theorem call_minT {x : Value} {Q : Value → Shared → Prop}
    (h : wpAny (model prog w) A.in1 (pyIter x) (fun it s2 => ∃ I fp wr n P St bt, ∃ G : Heap → Prop, it = .ref I ∧ Walks prog w A.in1 I fp wr n P St ∧ St 0 s2.heap ∧ (∀ b ∈ fp, b < s2.heap.objs.size) ∧ 0 < n ∧ CmpT prog w A.in1 G P bt ∧ G s2.heap ∧ Stays wr s2.heap.objs.size G ∧
      ∀ v g tk, P (argBest bt (n - 1)) v → (∀ b o, b ∉ wr → s2.heap.get? b = some o → g.get? b = some o) → Q v { s2 with heap := g, toks := tk }) E s) :
    wpAny (model prog w) A (call (.builtin "min") [x]) Q E s := by
  have nm : (toString "min" ++ toString ".loop" : String) = "min.loop" := by decide
  refine call_function_tree F.kind_min F.plain_min F.entry_min (F.args_min1 _) ((?_))
  show wpAny (model prog w) A.in1 (Builtin.Builtins.bindParams "min" ["key", "default"] 0 ⟨[], []⟩ >>= _) _ _ s
  refine wpAny_bind (wpAny_of_eq (show Builtin.Builtins.bindParams "min" ["key", "default"] 0 ⟨[], []⟩ = pure [none, none] from rfl) ((?_)))
  refine (wpAny_bind (wpAny_pure ?_))
  refine (wpAny_bind (wpAny_mono h (fun it s2 h2 => ?_) fun _ _ z => z))
  obtain ⟨I, fp, wr, n, P, St, bt, G, rfl, W, hst, hfp, hn, hc, hg, hG, hQ⟩ := h2
  refine (wpAny_bind (wpAny_newObj_type ?_))
  have hS : s2.heap.objs.size ∉ fp := fun z => Nat.lt_irrefl _ (hfp _ z)
  rw [nm]
  have old : ∀ (o' : Obj) b o, s2.heap.get? b = some o → (s2.heap.push o').get? b = some o := fun o' b o e => Heap.get?_push_of_some _ e
  refine wpAny_pure ⟨plainId_quiet F.plain_min_loop _, minT_first W hc hG hS hn (W.frame _ _ _ hst fun b _ o e => old _ b o e) (hG _ _ (fun b o _ _ e => old _ b o e) hg) (Heap.get?_push_size _ rfl) fun v g tk hv hk => ?_⟩
  exact hQ v g tk hv fun b o h1 e => hk b o h1 (Nat.ne_of_lt (Heap.lt_size e)) (old _ b o e)
end
/-! ### the rule -/
def ltP (p q : Int × Int) : Bool := if p.1 = q.1 then decide (p.2 < q.2) else decide (p.1 < q.1)
def leP (p q : Int × Int) : Prop := p.1 < q.1 ∨ (p.1 = q.1 ∧ p.2 ≤ q.2)
theorem leP_refl (p : Int × Int) : leP p p := .inr ⟨rfl, Int.le_refl _⟩
theorem leP_trans {p q r : Int × Int} (h : leP p q) (g : leP q r) : leP p r := by
  unfold leP at *
  omega
theorem ltP_true {p q : Int × Int} (h : ltP p q = true) : leP p q := by
  unfold ltP at h
  unfold leP
  split at h
  · have := of_decide_eq_true h; omega
  · have := of_decide_eq_true h; omega
theorem ltP_false {p q : Int × Int} (h : ltP p q = false) : leP q p := by
  unfold ltP at h
  unfold leP
  split at h
  · have := of_decide_eq_false h; omega
  · have := of_decide_eq_false h; omega
theorem best_le (f : Nat → Int × Int) : ∀ k, argBest (fun i j => ltP (f i) (f j)) k ≤ k ∧ ∀ i, i ≤ k → leP (f (argBest (fun i j => ltP (f i) (f j)) k)) (f i)
  | 0 => ⟨Nat.le_refl _, fun i hi => by rw [Nat.le_zero.mp hi]; exact leP_refl _⟩
  | k + 1 => by
    obtain ⟨h1, h2⟩ := best_le f k
    have e : argBest (fun i j => ltP (f i) (f j)) (k + 1) = if ltP (f (k + 1)) (f (argBest (fun i j => ltP (f i) (f j)) k)) = true then k + 1 else argBest (fun i j => ltP (f i) (f j)) k := rfl
    rw [e]
    split
    · rename_i q
      refine ⟨Nat.le_refl _, fun i hi => ?_⟩
      by_cases z : i = k + 1
      · rw [z]; exact leP_refl _
      · exact leP_trans (ltP_true q) (h2 i (by omega))
    · rename_i q
      refine ⟨Nat.le_succ_of_le h1, fun i hi => ?_⟩
      by_cases z : i = k + 1
      · rw [z]; exact ltP_false (by simpa using q)
      · exact h2 i (by omega)
/-- what min of a list of pairs is to be told -/
def rMinP (K : PySem.W.Frag) : List V → Hp → VK → Prop := fun vs H Q => ∃ (a : Addr) (xs : List V) (ps : List (Int × Int)), vs = [.ref a] ∧ SqL K H a xs ∧ xs.length = ps.length ∧ ps ≠ [] ∧
  (∀ (i : Nat) x p, xs[i]? = some x → ps[i]? = some p → ∃ t, x = .ref t ∧ SqT K H t [.int p.1, .int p.2]) ∧ ∀ (i : Nat) x p, xs[i]? = some x → ps[i]? = some p → (∀ q ∈ ps, leP p q) → Q x H
theorem cr_minP {X : Cx} (hc : X.calm = true) (hu : X.A.units + 1 < cLine) : CallR X (.builtin "min") (rMinP X.K) := by
  intro pins s σ H vs us Q J r h
  obtain ⟨a, xs, ps, rfl, hs, hl, hne, hp, q⟩ := h
  obtain ⟨its, rv, hls, _⟩ := J.list hs
  rw [Vals.ref1 r]
  have el := rv.length
  have hpos : 0 < ps.length := List.length_pos_iff.mpr hne
  let f : Nat → Int × Int := fun i => ps.getD i (0, 0)
  have old : ∀ {g : Heap} {I : Addr}, I = s.heap.objs.size → (∀ b o, b ∉ [I] → (s.heap.push { cls := .type "list_iterator", data := .fields #[.ref a, .int 0 0] }).get? b = some o → g.get? b = some o) → ∀ b o, s.heap.get? b = some o → g.get? b = some o := fun {g I} eI hk b o e => by
    refine hk b o (fun z => ?_) (Heap.get?_push_of_some _ e)
    have := Heap.lt_size e
    rw [List.mem_singleton.mp z, eI] at this
    exact Nat.lt_irrefl _ this
  have hlt : a < s.heap.objs.size := by obtain ⟨_, e, _⟩ := hls.isList; exact Heap.lt_size e
  have hh : X.A.handled = none := J.ok.hd hc
  refine call_minT (wpAny_pyIter_list hls.isList ?_)
  refine ⟨s.heap.objs.size, _, _, _, _, _, fun i j => ltP (f i) (f j), fun g => ∀ b o, s.heap.get? b = some o → g.get? b = some o, rfl, Walks.list (A := X.A.in1) hh _ a (Nat.ne_of_lt hlt) its.toArray, ⟨⟨_, Heap.get?_push_size _ rfl, rfl, rfl⟩, hls.isList.push _⟩, fun b hb => ?_, ?_, ?_, fun b o e => Heap.get?_push_of_some _ e, ?_, fun v g tk hv hk => ?_⟩
  · show b < (s.heap.push _).objs.size
    rw [Heap.size_push]
    simp only [List.mem_cons, List.not_mem_nil, or_false] at hb
    rcases hb with e | e
    · rw [e]; exact Nat.lt_succ_self _
    · rw [e]; exact Nat.lt_succ_of_lt hlt
  · rw [List.size_toArray]; omega
  · intro i j x y s2 Q2 E2 hg hx hy hq
    have at_ : ∀ (i : Nat) (x : Value), its.toArray[i]? = some x → ∃ t its2, x = .ref t ∧ s2.heap.IsTuple t (List.toArray its2) ∧ Vals [.int (f i).1, .int (f i).2] its2 ∧ i < ps.length := fun i x hx => by
      rw [List.getElem?_toArray] at hx
      have hi : i < its.length := (List.getElem?_eq_some_iff.mp hx).1
      have hi2 : i < xs.length := by omega
      have hi3 : i < ps.length := by omega
      obtain ⟨t, et, ht⟩ := hp i xs[i] (f i) (List.getElem?_eq_getElem hi2) (getD_some hi3)
      obtain ⟨u, eu, ru⟩ := rv.get (List.getElem?_eq_getElem hi2)
      rw [hx] at eu
      cases eu
      rw [et] at ru
      cases ru
      obtain ⟨its2, r2, ⟨o, e1, e2⟩, _⟩ := J.tuple ht
      exact ⟨t, its2, rfl, ⟨o, hg _ _ e1, e2⟩, r2, hi3⟩
    obtain ⟨t1, i1, rfl, k1, r1, l1⟩ := at_ i x hx
    obtain ⟨t2, i2, rfl, k2, r2, l2⟩ := at_ j y hy
    obtain ⟨m1, m2, rfl⟩ := Vals.int2 r1
    obtain ⟨m3, m4, rfl⟩ := Vals.int2 r2
    have R := Ob.RcOp.tuples_lt (A := X.A.in1) (s := s2) (e := fun z => if z = 0 then (f i).1 == (f j).1 else (f i).2 == (f j).2) (r := fun z => if z = 0 then decide ((f i).1 < (f j).1) else decide ((f i).2 < (f j).2)) k1 k2 hu
      (fun z h1 h2 => by
        match z, h1, h2 with
        | 0, _, _ => exact SeqAt.EqAt.int_int _ _ _ _
        | 1, _, _ => exact SeqAt.EqAt.int_int _ _ _ _
        | z + 2, h1, _ => exact absurd h1 (by show ¬ z + 2 < 2; omega))
      (fun z h1 h2 _ => by
        match z, h1, h2 with
        | 0, _, _ => exact Ob.RcOp.lt_int _ _ _ _
        | 1, _, _ => exact Ob.RcOp.lt_int _ _ _ _
        | z + 2, h1, _ => exact absurd h1 (by show ¬ z + 2 < 2; omega))
    refine R _ _ E2 Q2 ?_
    have el : Ob.lexAt (fun z => if z = 0 then (f i).1 == (f j).1 else (f i).2 == (f j).2) (fun z => if z = 0 then decide ((f i).1 < (f j).1) else decide ((f i).2 < (f j).2)) (decide (2 < 2)) 0 (min 2 2) = ltP (f i) (f j) := by
      show Ob.lexAt _ _ _ 0 2 = _
      unfold ltP
      simp only [Ob.lexAt]
      by_cases z : (f i).1 = (f j).1
      · by_cases z2 : (f i).2 = (f j).2 <;> simp [z, z2]
      · simp [z]
    exact el.symm ▸ hq
  · intro g g' hk hg b o e
    have hb := Heap.lt_size e
    refine hk b o (fun z => ?_) (fun z => ?_) (hg b o e)
    · rw [List.mem_singleton.mp z] at hb
      exact Nat.lt_irrefl _ hb
    · have : b = (s.heap.push { cls := Value.type "list_iterator", data := .fields #[.ref a, .int 0 0] }).objs.size := z
      rw [Heap.size_push] at this
      rw [this] at hb
      exact absurd hb (Nat.not_lt_of_le (Nat.le_succ _))
  · have hk' := old rfl hk
    obtain ⟨h1, h2⟩ := best_le f (its.toArray.size - 1)
    have hlt2 : argBest (fun i j => ltP (f i) (f j)) (its.toArray.size - 1) < ps.length := by
      rw [List.size_toArray] at h1 ⊢
      omega
    have hx2 : argBest (fun i j => ltP (f i) (f j)) (its.toArray.size - 1) < xs.length := by omega
    obtain ⟨u, eu, ru⟩ := rv.get (List.getElem?_eq_getElem hx2)
    rw [List.getElem?_toArray, eu] at hv
    cases hv
    refine ⟨_, H, J.kept hk', ru, q _ _ _ (List.getElem?_eq_getElem hx2) (getD_some (d := (0, 0)) hlt2) fun p hpm => ?_⟩
    obtain ⟨i, hi, rfl⟩ := List.mem_iff_getElem.mp hpm
    have := h2 i (by rw [List.size_toArray]; omega)
    have e : f i = ps[i] := by
      show ps.getD i (0, 0) = _
      rw [List.getD_eq_getElem?_getD, List.getElem?_eq_getElem hi]
      rfl
    rw [e] at this
    exact this
theorem k_minP {X : Cx} {K : PySem.W.Frag} (hK : X.K = K) (hc : X.calm = true) (hu : X.A.units + 64 < cLine) : CallR X (.builtin "min") (rMinP K) := hK ▸ cr_minP hc (by omega)
end AL

namespace AL
open PySem PySem.Spec PyProof.Rows L2
/-! # l.extend(t) of a tuple -/
theorem ext_tup (l : Addr) (us : Array Value) (n : Nat) (b : Addr) (ws : Array Value) (k : Nat) (dd : Option Addr) (sl : Array (Option Value)) (h0 : ¬(!us.isEmpty && Builtin.List.listTooLong (us.size + ws.size)) = true) (h1 : us.size ≤ sizeLine) (h2 : us.size + ws.size ≤ sizeLine + 1) :
    Meets (Builtin.«list.extend» ⟨[.ref l, .ref b], []⟩) (fun _ R s => s.heap.get? l = some { cls := .type "list", dict := none, data := .seq us n, slots := #[] } ∧ s.heap.get? b = some { cls := .type "tuple", dict := dd, data := .seq ws k, slots := sl } ∧
      R (.ok (.ret Value.none)) { s with heap := s.heap.update l (Obj.mapSeq fun x => x ++ ws), toks := s.toks }) :=
  .of_wp fun prog w A R s h => by
    obtain ⟨hp, g, d, tk, os⟩ := s
    obtain ⟨hl, hb, h⟩ := h
    have f1 := AutoSeq1.idx_int
    have f2 := AutoSeq1.sub_tuple_tuple
    have f3 := AutoSeq1.sub_list_list
    have f4 := AutoSeq1.sub_tuple_list
    have f5 := AutoSeq1.sub_list_tuple
    have hz : (us ++ ws).size ≤ sizeLine + 1 := by
      rw [Array.size_append]
      exact h2
    wp_walk using (wpAny_updateSeq hl rfl (hz := h1) (_hz' := hz)), AutoSeq1.wpAny_loadPart' hl, AutoSeq1.wpAny_loadPart' hb
    exact ⟨_, rfl, h⟩
def rExtT (K : PySem.W.Frag) : V → List V → Hp → VK → Prop := fun x vs H Q => ∃ l b xs zs, x = .ref l ∧ vs = [.ref b] ∧ H l = some (.lst xs) ∧ SqT K H b zs ∧ xs.length + zs.length ≤ sizeLine ∧ Q .non (upd H l (.lst (xs ++ zs)))
theorem mt_extT {X : Cx} : MtR X "list.extend" (rExtT X.K) := by
  intro pins s σ H x vs v us Q J rx rv h
  obtain ⟨l, b, xs, zs, rfl, rfl, hH, hB, hz, q⟩ := h
  cases rx
  obtain ⟨u, rfl, ru⟩ := rv.one
  cases ru
  obtain ⟨z, its, n, r, hl, e⟩ := J.lstM hH
  obtain ⟨its2, r2, ⟨⟨c2, dd, d2, sl⟩, e2, ec, n2, ed⟩, _⟩ := J.tuple hB
  simp only at ec ed
  subst ec ed
  have el2 := r2.length
  have hsz : its.toArray.size + its2.toArray.size ≤ sizeLine := by
    rw [List.size_toArray, List.size_toArray]
    omega
  have h0 : ¬ (!its.toArray.isEmpty && Builtin.List.listTooLong (its.toArray.size + its2.toArray.size)) = true := by
    rw [notLongL hsz, Bool.and_false]
    decide
  refine call_meets F.slot_list_extend ⟨_, e, rfl⟩ F.entry_list_extend (F.args_list_extend_2 _ _) (ext_tup l its.toArray n b its2.toArray n2 dd sl h0 (by omega) (by omega)) ⟨e, e2, ?_⟩
  refine ⟨.non, _, J.lset (its' := its ++ its2) hH e (by simp) (r.append r2) (by rw [List.length_append]; omega), rfl, q⟩
theorem k_lenSet {X : Cx} {K : PySem.W.Frag} {a : Expr} {ta : TE} {p p2 q pos : Pos} (hK : X.K = K) (hc : X.calm = true) (hg : Gl X "len") (hm : X.mg "len" = none) (hg2 : Gl X "set") (hm2 : X.mg "set" = none) (ha : PE X a ta) (na : starEach [a] X.env = (false, eval a X.env) :: starEach [] X.env := by rfl) :
    PE X (.Call (.Name "len" p) [.Call (.Name "set" p2) [a] [] q] [] pos) (RZ.tLenSetI K ta) := hK ▸ RZ.pe_lenSetI hg hm hg2 hm2 ha hc na
def LenSetOn (K : PySem.W.Frag) (x : V) (H1 : Hp) (Q : VK) : Prop := ∃ (l : Addr) (ns : List Int), x = .ref l ∧ SqL K H1 l (ns.map V.int) ∧ ns.Nodup ∧ ns.length ≤ 4000 ∧ Q (.int (ns.length : Nat)) H1
theorem r_lenSet {K : PySem.W.Frag} {σ : L2.St} {H : Hp} {Q : VK} {te : TE} (h : te σ H fun x H1 => LenSetOn K x H1 Q) : RZ.tLenSetI K te σ H Q := h
/-! # what stays when a lambda is made -/
section
variable {H H' H1 : Hp} {S : Addr → Prop}
mutual
theorem Td.ext (e : LamX.ExtN H H') : ∀ {v : V} {d : PyData}, Td H v d → Td H' v d
  | _, _, .non => .non
  | _, _, .bl b => .bl b
  | _, _, .int i => .int i
  | _, _, .str x => .str x
  | _, _, .tup h r => .tup (e _ _ h (fun ps z => by cases z)) (TdAll.ext e r)
theorem TdAll.ext (e : LamX.ExtN H H') : ∀ {vs : List V} {ds : List PyData}, TdAll H vs ds → TdAll H' vs ds
  | _, _, .nil => .nil
  | _, _, .cons h r => .cons (Td.ext e h) (TdAll.ext e r)
end
theorem LsAt.ext {p : Addr} {ds : List PyData} (h : LsAt H p ds) (e : LamX.ExtN H H') : LsAt H' p ds := by
  obtain ⟨vs, h1, h2⟩ := h
  exact ⟨vs, e _ _ h1 (fun ps z => by cases z), h2.ext e⟩
theorem ext_fr (f : Fr No H H') : LamX.ExtN H H' := fun b o e _ => f.old b o e fun z => z
theorem ext_trans (a : LamX.ExtN H H1) (b : LamX.ExtN H1 H') : LamX.ExtN H H' := fun c o e n => b c o (a c o e n) n
theorem ext_refl : LamX.ExtN H H := fun _ _ e _ => e
/-- what is written was not there -/
theorem ext_mut (a : LamX.ExtN H H1) (f : Fr S H1 H') (h : ∀ b, S b → H b = none) : LamX.ExtN H H' := fun c o e n => f.old c o (a c o e n) fun z => by
  rw [h c z] at e
  cases e
end
/-- a frame of what is new, or may be written -/
theorem Fr.mutP {S S' : Addr → Prop} {H H1 H2 : Hp} (f : Fr S H H1) (g : Fr S' H1 H2) (h : ∀ b, S' b → S b ∨ H b = none) : Fr S H H2 := ⟨fun b o e n => g.old b o (f.old b o e n) (fun z => (h b z).elim n fun k => by rw [k] at e; cases e), fun b xs e => g.tup b xs (f.tup b xs e), fun b e => f.thr b (g.thr b e)⟩
/-- a statement's end by a word of one's own -/
theorem r_K {t : TS} {D : Ends} {σ : L2.St} {H : Hp} (J : L2.St → Hp → Prop) (hJ : ∀ σ' H', J σ' H' → D.nx σ' H') (h : ∀ D' : Ends, D'.rt = D.rt → (∀ σ' H', J σ' H' → D'.nx σ' H') → t D' σ H) : t D σ H := h D rfl hJ
/-! # tables behind some deeds -/
namespace Tb
def run (T : Tb) (ds : List Deed) : Tb := ds.foldl (fun T d => (T.deedR d).2) T
variable {T : Tb}
theorem run_snoc {ds : List Deed} {d : Deed} : T.run (ds ++ [d]) = ((T.run ds).deedR d).2 := by
  unfold run
  rw [List.foldl_append]
  rfl
theorem deedR_n (d : Deed) : (T.deedR d).2.n = T.n := by
  cases d with
  | ask a l => exact askR_n
  | give a l => exact giveR_n
  | leave a => exact leaveR_n
theorem deedR_m (d : Deed) : (T.deedR d).2.m = T.m := by
  cases d with
  | ask a l => exact askR_m
  | give a l => exact giveR_m
  | leave a => exact leaveR_m
theorem Wf.run (W : T.Wf) : ∀ ds : List Deed, (T.run ds).Wf := fun ds => by
  induction ds generalizing T with
  | nil => exact W
  | cons d r ih => exact ih (W.deedR d)
theorem run_n : ∀ ds : List Deed, (T.run ds).n = T.n := fun ds => by
  induction ds generalizing T with
  | nil => rfl
  | cons d r ih => exact ih.trans (deedR_n d)
theorem run_m : ∀ ds : List Deed, (T.run ds).m = T.m := fun ds => by
  induction ds generalizing T with
  | nil => rfl
  | cons d r ih => exact ih.trans (deedR_m d)
end Tb
/-- deeds in a list -/
structure DsAt (H : Hp) (p : Addr) (ds : List Deed) : Prop where
  ex : ∃ as : List Addr, H p = some (.lst (as.map V.ref)) ∧ as.length = ds.length ∧ ∀ (i : Nat) a d, as[i]? = some a → ds[i]? = some d → H a = some (.tup d.vs)
theorem DsAt.fr {S : Addr → Prop} {H H' : Hp} {p : Addr} {ds : List Deed} (h : DsAt H p ds) (f : Fr S H H') (n : ¬ S p) : DsAt H' p ds := by
  obtain ⟨as, h1, h2, h3⟩ := h
  exact ⟨as, f.old _ _ h1 n, h2, fun i a d e1 e2 => f.tup _ _ (h3 i a d e1 e2)⟩
theorem DsAt.ext {H H' : Hp} {p : Addr} {ds : List Deed} (h : DsAt H p ds) (e : LamX.ExtN H H') : DsAt H' p ds := by
  obtain ⟨as, h1, h2, h3⟩ := h
  exact ⟨as, e _ _ h1 (fun ps z => by cases z), h2, fun i a d e1 e2 => e _ _ (h3 i a d e1 e2) (fun ps z => by cases z)⟩
theorem DsAt.app {H : Hp} {p a : Addr} {ds : List Deed} {d : Deed} (h : DsAt H p ds) (ha : H a = some (.tup d.vs)) (hl : ds.length ≤ 2000) {QH : Hp → Prop} {Q : VK} (q : ∀ H', DsAt H' p (ds ++ [d]) → Fr (Only1 p) H H' → Q .non H') : rAppend (.ref p) [.ref a] H Q := by
  obtain ⟨as, h1, h2, h3⟩ := h
  refine r_append h1 (by rw [List.length_map, h2]; exact hl) ?_
  have f : Fr (Only1 p) H (upd H p (.lst (as.map V.ref ++ [V.ref a]))) := Fr.put h1 (fun xs z => by cases z)
  refine q _ ⟨as ++ [a], by rw [upd_same, List.map_append]; rfl, by rw [List.length_append, List.length_append, h2]; rfl, fun i b e k1 k2 => ?_⟩ f
  by_cases hi : i < as.length
  · rw [List.getElem?_append_left hi] at k1
    rw [List.getElem?_append_left (by rw [← h2]; exact hi)] at k2
    exact f.tup _ _ (h3 i b e k1 k2)
  · have hi2 := (List.getElem?_eq_some_iff.mp k1).1
    rw [List.length_append, List.length_singleton] at hi2
    have ei : i = as.length := by omega
    subst ei
    rw [List.getElem?_append_right (Nat.le_refl _), Nat.sub_self] at k1
    rw [h2, List.getElem?_append_right (Nat.le_refl _), Nat.sub_self] at k2
    cases k1
    cases k2
    exact f.tup _ _ ha
/-! # promises -/
abbrev sp_Ldeeds (K : PySem.W.Frag) : Sp := sp1 fun x H Q _ => ∃ st sc ns, x = .ref st ∧ StAt K H st sc ns ∧ ScF K sc ns (Only1 st) ∧
  ∀ (n m : Nat) (ds : List Deed) p pd (u : V) H', (Tb.new n m).Sz → ds.length ≤ 60 → H' p = some (.tup [.int (n : Int), .int (m : Int), .ref pd, u]) → DsAt H' pd ds → Fr (Only1 st) H H' → Q (.ref p) H'
abbrev sp_Lagain (Tl : List (Addr × Str)) (K : PySem.W.Frag) : Sp := sp3 fun x y z H Q _ => ∃ (n m : Nat) (pd : Addr) (ds : List Deed), x = .int (n : Int) ∧ y = .int (m : Int) ∧ z = .ref pd ∧ (Tb.new n m).Sz ∧ DsAt H pd ds ∧ LamX.Tabs Tl H ∧
  ∀ A H', TbK K H' A ((Tb.new n m).run ds) → LamX.ExtN H H' → LamX.Tabs Tl H' → (∀ b, A.has b → H b = none) → Q (.ref A.p) H'
/-- a table's method in the catcher -/
theorem r_kindGive {K : PySem.W.Frag} {A : TA} {T : Tb} {a l : Int} {i j k : Nat} {σ : L2.St} {H : Hp} {Q : VK} (hi : σ[i]? = some (some (.ref A.p))) (hj : σ[j]? = some (some (.int a))) (hk : σ[k]? = some (some (.int l))) (hT : TbK K H A T) (hW : T.Wf)
    (q : ∀ v H', TbK K H' A (T.giveR a l).2 → Fr A.foot H H' → Q v H') : TKind K (fun E H' Q' => tMeth (tbC K) "give" (sp_t_give K) [] E (tVar i) (tCons (tVar j) (tCons (tVar k) tNil)) σ H' Q') H Q := by
  refine r_meth ⟨_, hi, r_tmeth hT (by decide +kernel) ⟨_, hj, _, hk, ?_⟩⟩
  refine ⟨_, _, _, rfl, A, T, a, l, rfl, rfl, rfl, hT, hW, fun w T' e => ?_, fun b T' e H' hT' f => ?_⟩
  · refine ⟨rfl, w, rfl, fun H2 f => q _ H2 ?_ f.up⟩
    rw [e, Tb.giveR_same e]
    exact hT.fr0 f
  · refine q _ H' ?_ f
    rw [e]
    exact hT'
theorem r_kindAsk {K : PySem.W.Frag} {A : TA} {T : Tb} {a l : Int} {i j k : Nat} {σ : L2.St} {H : Hp} {Q : VK} (hi : σ[i]? = some (some (.ref A.p))) (hj : σ[j]? = some (some (.int a))) (hk : σ[k]? = some (some (.int l))) (hT : TbK K H A T) (hW : T.Wf)
    (q : ∀ v H', TbK K H' A (T.askR a l).2 → Fr A.foot H H' → Q v H') : TKind K (fun E H' Q' => tMeth (tbC K) "ask" (sp_t_ask K) [] E (tVar i) (tCons (tVar j) (tCons (tVar k) tNil)) σ H' Q') H Q := by
  refine r_meth ⟨_, hi, r_tmeth hT (by decide +kernel) ⟨_, hj, _, hk, ?_⟩⟩
  refine ⟨_, _, _, rfl, A, T, a, l, rfl, rfl, rfl, hT, hW, fun w T' e => ?_, fun b T' e H' hT' f => ?_⟩
  · refine ⟨rfl, w, rfl, fun H2 f => q _ H2 ?_ f.up⟩
    rw [e, Tb.askR_same e]
    exact hT.fr0 f
  · refine q _ H' ?_ f
    rw [e]
    exact hT'
/-! # comparing rings -/
theorem ringD_eqv (r : List Nat) : PyData.eqv (ringD r) (ringD r) = true := SeqAt.eqv_refl _ (ringD_cmp r).1
theorem rings_eqv (rs : List (List Nat)) : PyData.eqv (.list (rs.map ringD)) (.list (rs.map ringD)) = true := SeqAt.eqv_refl _ (by simp only [PyData.canLay0]; exact (rings_cmp rs).1)
theorem any_ring {rs : List (List Nat)} {r : List Nat} (h : r ∈ rs) : ((rs.map ringD).any fun e => PyData.eqv e (ringD r)) = true := List.any_eq_true.mpr ⟨ringD r, List.mem_map.mpr ⟨r, h, rfl⟩, ringD_eqv r⟩
theorem r_notInT {K : PySem.W.Frag} {H : Hp} {Q : VK} {p : Addr} {b : Nat} {f : List Nat} (e : H p = some (.tup (f.map nV))) (q : Q (.bl (decide (b ∉ f))) H) : rIn K true (.int (b : Int)) (.ref p) H Q := ⟨p, _, rfl, .inr (SqT.of e), rfl, nats_flat _, by
  have ei : inV (V.int (b : Int)) (f.map nV) = decide (b ∈ f) := inV_nats
  rw [if_pos rfl, ei, ← decide_not]
  exact q⟩
/-- a ring in a list of rings -/
theorem ring_at {H : Hp} {vs : List V} {rs : List (List Nat)} (h : TdAll H vs (rs.map ringD)) {i : Nat} {x : V} (hx : vs[i]? = some x) : ∃ (r : List Nat) (a : Addr), rs[i]? = some r ∧ x = .ref a ∧ H a = some (.tup (r.map nV)) := by
  have hi : i < rs.length := by
    have := (List.getElem?_eq_some_iff.mp hx).1
    rw [h.len, List.length_map] at this
    exact this
  obtain ⟨u, e2, t⟩ := h.at (i := i) (d := ringD rs[i]) (by rw [List.getElem?_map, List.getElem?_eq_getElem hi]; rfl)
  rw [hx] at e2
  cases e2
  cases t with
  | tup e a => exact ⟨_, _, List.getElem?_eq_getElem hi, rfl, by rw [e, td_ints_v a]⟩
/-- over a list that is reckoned -/
theorem r_lcLc {K : PySem.W.Frag} {σ : L2.St} {H : Hp} {Q : VK} {tt : TT} {te tl : TE} {g : TG} {vs : List Nat} (h : tl σ H fun x H1 => tLc (iList K (tC x)) g tt te vs σ H1 Q) : tLc (iList K tl) g tt te vs σ H Q := h
theorem notIn_false {rs : List (List Nat)} {p : List Nat → Bool} (h : ∀ r ∈ rs, p r = false) : rs.filter p = [] := List.filter_eq_nil_iff.mpr fun r hr => by rw [h r hr]; exact Bool.false_ne_true
theorem turns_none (n : Nat) (d : Nat → PyData) : turns (fun _ => false) d n = [] := by unfold turns; simp
end AL

namespace AL
open PySem PySem.Spec PyProof.Rows L2
/-! # the least to break (no program in sight) -/
namespace Tb
variable {T T' : Tb} {a b c l : Nat}
/-- how many locks an agent holds -/
def wt (T : Tb) (a : Nat) : Nat := (T.held a).length
def wtP (T : Tb) (a : Nat) : Int × Int := ((T.wt a : Int), (a : Int))
def wts (T : Tb) (as : List Nat) : Nat := (as.map T.wt).sum
/-- the lightest -/
def lightT (T : Tb) : List Nat → Nat
  | [] => 0
  | [a] => a
  | a :: b :: r => if leB (T.wtP a) (T.wtP (lightT T (b :: r))) = true then a else lightT T (b :: r)
where leB (p q : Int × Int) : Bool := decide (p.1 < q.1 ∨ (p.1 = q.1 ∧ p.2 ≤ q.2))
theorem leP_tot (p q : Int × Int) : leP p q ∨ leP q p := by unfold leP; omega
theorem light_ok : ∀ {r : List Nat}, r ≠ [] → T.lightT r ∈ r ∧ ∀ b ∈ r, leP (T.wtP (T.lightT r)) (T.wtP b)
  | [a], _ => ⟨List.mem_cons_self, fun b hb => by rw [List.mem_singleton.mp hb]; exact leP_refl _⟩
  | a :: b :: r, _ => by
    obtain ⟨h1, h2⟩ := light_ok (r := b :: r) (by simp)
    have e : T.lightT (a :: b :: r) = if lightT.leB (T.wtP a) (T.wtP (T.lightT (b :: r))) = true then a else T.lightT (b :: r) := rfl
    rw [e]
    split
    · rename_i q
      have q' : leP (T.wtP a) (T.wtP (T.lightT (b :: r))) := by
        unfold lightT.leB at q
        have q2 := of_decide_eq_true q
        exact q2
      refine ⟨List.mem_cons_self, fun c hc => ?_⟩
      rcases List.mem_cons.mp hc with z | z
      · rw [z]; exact leP_refl _
      · exact leP_trans q' (h2 c z)
    · rename_i q
      have q' : ¬ leP (T.wtP a) (T.wtP (T.lightT (b :: r))) := fun z => q (by
        unfold lightT.leB
        exact decide_eq_true z)
      refine ⟨List.mem_cons_of_mem _ h1, fun c hc => ?_⟩
      rcases List.mem_cons.mp hc with z | z
      · rw [z]; exact (leP_tot _ _).resolve_left q'
      · exact h2 c z
theorem light_one {r : List Nat} (ha : a ∈ r) (h : ∀ b ∈ r, leP (T.wtP a) (T.wtP b)) : T.lightT r = a := by
  obtain ⟨h1, h2⟩ := light_ok (T := T) (r := r) (List.ne_nil_of_mem ha)
  have p := h _ h1
  have q := h2 _ ha
  unfold leP wtP at p q
  simp only at p q
  omega
theorem light_wt {r : List Nat} (ha : a ∈ r) : T.wt (T.lightT r) ≤ T.wt a := by
  have q := (light_ok (T := T) (List.ne_nil_of_mem ha)).2 _ ha
  unfold leP wtP at q
  simp only at q
  omega
/-- all the lightest -/
def lights (T : Tb) : List Nat := T.ringsT.map T.lightT
theorem lights_len (W : T.Wf) : T.lights.length ≤ 8 := by
  unfold lights
  rw [List.length_map]
  exact (rings_len W).1
theorem lights_lt (W : T.Wf) : ∀ x ∈ T.lights, x < T.n := fun x hx => by
  obtain ⟨r, hr, rfl⟩ := List.mem_map.mp hx
  have R := (mem_rings W).mp hr
  exact R.lt _ (light_ok R.ne).1
/-! ### several leave -/
def leaveAll (T : Tb) : List Nat → Tb
  | [] => T
  | a :: r => leaveAll (T.leave a).2 r
theorem Wf.leaveAll : ∀ {as : List Nat} {T : Tb}, T.Wf → (∀ a ∈ as, a < T.n) → (T.leaveAll as).Wf ∧ (T.leaveAll as).n = T.n
  | [], T, W, _ => ⟨W, rfl⟩
  | a :: r, T, W, h => by
    have ha := h a List.mem_cons_self
    have k := Wf.leaveAll (as := r) (W.leave ha) (fun b hb => by rw [leave_n]; exact h b (List.mem_cons_of_mem _ hb))
    exact ⟨k.1, k.2.trans leave_n⟩
theorem ring_leaveAll : ∀ {as : List Nat} {T : Tb}, T.Wf → (∀ a ∈ as, a < T.n) → ∀ r, (T.leaveAll as).Ring r ↔ T.Ring r ∧ ∀ a ∈ as, a ∉ r
  | [], T, W, _, r => ⟨fun R => ⟨R, fun a ha => by cases ha⟩, fun R => R.1⟩
  | a :: as, T, W, h, r => by
    have ha := h a List.mem_cons_self
    have k := ring_leaveAll (as := as) (W.leave ha) (fun b hb => by rw [leave_n]; exact h b (List.mem_cons_of_mem _ hb)) r
    refine k.trans ?_
    rw [ring_leave W ha r]
    constructor
    · rintro ⟨⟨h1, h2⟩, h3⟩
      refine ⟨h1, fun b hb => ?_⟩
      rcases List.mem_cons.mp hb with z | z
      · rw [z]; exact h2
      · exact h3 b z
    · rintro ⟨h1, h2⟩
      exact ⟨⟨h1, h2 a List.mem_cons_self⟩, fun b hb => h2 b (List.mem_cons_of_mem _ hb)⟩
/-- where the lightest leave no ring is left -/
theorem lights_break (W : T.Wf) : (T.leaveAll T.lights).ringsT = [] := by
  obtain ⟨W', _⟩ := Wf.leaveAll W (lights_lt W)
  refine List.eq_nil_iff_forall_not_mem.mpr fun r hr => ?_
  obtain ⟨R, h⟩ := (ring_leaveAll W (lights_lt W) r).mp ((mem_rings W').mp hr)
  exact h (T.lightT r) (List.mem_map.mpr ⟨r, (mem_rings W).mpr R, rfl⟩) (light_ok R.ne).1
theorem sum_erase {f : Nat → Nat} : ∀ {as : List Nat}, a ∈ as → (as.map f).sum = f a + ((as.erase a).map f).sum
  | b :: r, h => by
    by_cases e : b = a
    · subst e
      rw [List.erase_cons_head]
      rfl
    · have hr : a ∈ r := (List.mem_cons.mp h).resolve_left fun z => e z.symm
      rw [List.erase_cons_tail (by simpa using e), List.map_cons, List.map_cons, List.sum_cons, List.sum_cons, sum_erase hr]
      omega
theorem light_sum : ∀ {rs : List (List Nat)} {as : List Nat}, rs.Pairwise (fun r s => ∀ x ∈ r, x ∉ s) → as.Nodup → (∀ r ∈ rs, ∃ a ∈ as, a ∈ r) → ((rs.map T.lightT).map T.wt).sum ≤ (as.map T.wt).sum
  | [], as, _, _, _ => Nat.zero_le _
  | r :: rs, as, p, nd, h => by
    obtain ⟨p1, p2⟩ := List.pairwise_cons.mp p
    obtain ⟨a, h1, h2⟩ := h r List.mem_cons_self
    have ih := light_sum (rs := rs) (as := as.erase a) p2 (nd.erase a) fun s hs => by
      obtain ⟨b, k1, k2⟩ := h s (List.mem_cons_of_mem _ hs)
      refine ⟨b, ?_, k2⟩
      exact (List.mem_erase_of_ne (fun z : b = a => p1 s hs a h2 (z ▸ k2))).mpr k1
    rw [sum_erase h1, List.map_cons, List.map_cons, List.sum_cons]
    have := light_wt (T := T) h2
    omega
/-- no others that break all weigh less -/
theorem lights_least (W : T.Wf) {as : List Nat} (nd : as.Nodup) (h : ∀ a ∈ as, a < T.n) (hb : (T.leaveAll as).ringsT = []) : T.wts T.lights ≤ T.wts as := by
  obtain ⟨W', _⟩ := Wf.leaveAll W h
  refine light_sum (rings_apart W) nd fun r hr => ?_
  refine Classical.byContradiction fun z => ?_
  have R : (T.leaveAll as).Ring r := (ring_leaveAll W h r).mpr ⟨(mem_rings W).mp hr, fun a ha hx => z ⟨a, ha, hx⟩⟩
  have := (mem_rings W').mpr R
  rw [hb] at this
  cases this
end Tb
/-! ### all sets -/
def setsT : Nat → List (List Nat)
  | 0 => [[]]
  | k + 1 => setsT k ++ (setsT k).map (· ++ [k])
theorem sets_ok : ∀ {k : Nat} {s : List Nat}, s ∈ setsT k → s.Nodup ∧ ∀ x ∈ s, x < k
  | 0, s, h => by
    rw [List.mem_singleton.mp h]
    exact ⟨List.nodup_nil, fun x hx => by cases hx⟩
  | k + 1, s, h => by
    rcases List.mem_append.mp h with q | q
    · obtain ⟨h1, h2⟩ := sets_ok q
      exact ⟨h1, fun x hx => Nat.lt_succ_of_lt (h2 x hx)⟩
    · obtain ⟨t, ht, rfl⟩ := List.mem_map.mp q
      obtain ⟨h1, h2⟩ := sets_ok ht
      refine ⟨?_, fun x hx => ?_⟩
      · show (t ++ [k]).Nodup
        rw [List.nodup_append]
        exact ⟨h1, by simp, fun x hx y hy z => by
          rw [List.mem_singleton.mp hy] at z
          exact Nat.lt_irrefl _ (z ▸ h2 x hx)⟩
      · rcases List.mem_append.mp hx with z | z
        · exact Nat.lt_succ_of_lt (h2 x z)
        · rw [List.mem_singleton.mp z]; exact Nat.lt_succ_self _
theorem sets_len : ∀ k : Nat, (setsT k).length = 2 ^ k
  | 0 => rfl
  | k + 1 => by
    show (setsT k ++ (setsT k).map (· ++ [k])).length = _
    rw [List.length_append, List.length_map, sets_len k]
    omega
theorem sets_le {k : Nat} (h : k ≤ 8) : (setsT k).length ≤ 256 := by
  rw [sets_len]
  exact Nat.pow_le_pow_right (by decide) h
theorem sets_mem_le {k : Nat} (h : k ≤ 8) {s : List Nat} (hs : s ∈ setsT k) : s.length ≤ 8 := by
  obtain ⟨h1, h2⟩ := sets_ok hs
  exact Nat.le_trans (Tb.nodup_le h1 h2) h
/-- rising lists of the same numbers are one -/
theorem perm_one : ∀ {xs ys : List Int}, xs.Perm ys → xs.Pairwise (· ≤ ·) → ys.Pairwise (· ≤ ·) → xs = ys
  | [], ys, p, _, _ => (List.Perm.nil_eq p)
  | x :: xs, [], p, _, _ => absurd p.length_eq (by simp)
  | x :: xs, y :: ys, p, h1, h2 => by
    obtain ⟨a1, a2⟩ := List.pairwise_cons.mp h1
    obtain ⟨b1, b2⟩ := List.pairwise_cons.mp h2
    have e : x = y := by
      have k1 : x ∈ y :: ys := p.subset List.mem_cons_self
      have k2 : y ∈ x :: xs := p.symm.subset List.mem_cons_self
      rcases List.mem_cons.mp k1 with z | z
      · exact z
      · rcases List.mem_cons.mp k2 with w | w
        · exact w.symm
        · exact Int.le_antisymm (a1 y w) (b1 x z)
    subst e
    rw [perm_one (List.Perm.cons_inv p) a2 b2]
end AL

namespace AL
open PySem PySem.Spec PyProof.Rows L2
/-! # over a list or a tuple -/
section
variable {X : Cx} {K : PySem.W.Frag}
def iSeq (K : PySem.W.Frag) (i : Nat) : TI := fun σ H R => iList K (tVar i) σ H R ∨ iTup K (tVar i) σ H R
theorem k_seqI {tg l : Expr} {i : Nat} (hK : X.K = K) (hl : PE X l (tVar i)) : PI X tg l (iSeq K i) := by
  subst hK
  refine ⟨fun pins s σ H R J h => ?_⟩
  rcases h with h | h
  · exact (pi_list hl).run pins s σ H R J h
  · exact (pi_tup hl).run pins s σ H R J h
end
section
variable {K : PySem.W.Frag} {σ : L2.St} {H : Hp} {Q : VK} {tt : TT} {te : TE} {g : TG} {vs : List Nat} {i : Nat}
theorem r_lcSL (h : tLc (iList K (tVar i)) g tt te vs σ H Q) : tLc (iSeq K i) g tt te vs σ H Q := Or.inl h
theorem r_lcST (h : tLc (iTup K (tVar i)) g tt te vs σ H Q) : tLc (iSeq K i) g tt te vs σ H Q := Or.inr h
theorem r_forSL {tb : TS} {D : Ends} (h : tFor (iList K (tVar i)) g tb D σ H) : tFor (iSeq K i) g tb D σ H := Or.inl h
theorem r_forST {tb : TS} {D : Ends} (h : tFor (iTup K (tVar i)) g tb D σ H) : tFor (iSeq K i) g tb D σ H := Or.inr h
theorem r_forT {tl : TE} {tb : TS} {D : Ends} {j : Nat} {a : Addr} {xs : List V} (ha : ∀ Q : VK, Q (.ref a) H → tl σ H Q) (hx : SqT K H a xs) (Pv : Nat → L2.St → Hp → Prop) (h0 : Pv 0 σ H) (hl : ∀ i σ' H', i ≤ xs.length → Pv i σ' H' → SqT K H' a xs)
    (hs : ∀ i x σ' H', xs[i]? = some x → Pv i σ' H' → tb { D with nx := Pv (i + 1), ct := Pv (i + 1), bk := D.nx } (σ'.set j (some x)) H') (hd : ∀ σ' H', Pv xs.length σ' H' → D.nx σ' H') : tFor (iTup K tl) (gName j) tb D σ H :=
  ha _ ⟨a, rfl, ⟨xs, hx⟩, for_tup Pv h0 hl hs hd⟩
end
/-- numbers in a list or a tuple -/
def NsAt (H : Hp) (y : V) (as : List Nat) : Prop := ∃ a, y = .ref a ∧ (H a = some (.lst (as.map nV)) ∨ H a = some (.tup (as.map nV)))
theorem nats_at {as : List Nat} {i : Nat} {x : V} (h : (as.map nV)[i]? = some x) : ∃ z : Nat, as[i]? = some z ∧ x = .int (z : Int) := by
  rw [List.getElem?_map] at h
  cases q : as[i]? with
  | none => rw [q] at h; cases h
  | some z => rw [q] at h; exact ⟨z, rfl, (Option.some.inj h).symm⟩
theorem sum_cast : ∀ xs : List Nat, (xs.map fun x : Nat => (x : Int)).sum = ((xs.sum : Nat) : Int)
  | [] => rfl
  | x :: r => by
    rw [List.map_cons, List.sum_cons, List.sum_cons, sum_cast r]
    omega
/-! # pairs -/
def pairD (p : Int × Int) : PyData := .tuple [.int p.1, .int p.2]
theorem pair_at {H : Hp} {p : Int × Int} {v : V} (h : Td H v (pairD p)) : ∃ t, v = .ref t ∧ H t = some (.tup [.int p.1, .int p.2]) := by
  cases h with
  | tup e a =>
    cases a with
    | cons a1 a2 =>
      cases a2 with
      | cons b1 b2 =>
        cases b2
        cases a1
        cases b1
        exact ⟨_, rfl, e⟩
theorem r_minPairs {K : PySem.W.Frag} {H : Hp} {Q : VK} {p : Addr} {ps : List (Int × Int)} (h : LsAt H p (ps.map pairD)) (h0 : ps ≠ []) (q : ∀ (m : Int × Int) t, m ∈ ps → (∀ q ∈ ps, leP m q) → H t = some (.tup [.int m.1, .int m.2]) → Q (.ref t) H) : rMinP K [.ref p] H Q := by
  obtain ⟨vs, e, a⟩ := h
  have at_ : ∀ (i : Nat) x m, vs[i]? = some x → ps[i]? = some m → ∃ t, x = .ref t ∧ H t = some (.tup [.int m.1, .int m.2]) := fun i x m hx hm => by
    obtain ⟨v, e2, t⟩ := a.at (i := i) (d := pairD m) (by rw [List.getElem?_map, hm]; rfl)
    rw [hx] at e2
    cases e2
    exact pair_at t
  refine ⟨p, vs, ps, rfl, SqL.of e, by rw [a.len, List.length_map], h0, fun i x m hx hm => ?_, fun i x m hx hm hq => ?_⟩
  · obtain ⟨t, e1, e2⟩ := at_ i x m hx hm
    exact ⟨t, e1, SqT.of e2⟩
  · obtain ⟨t, rfl, e2⟩ := at_ i x m hx hm
    exact q m t (List.mem_of_getElem? hm) hq e2
abbrev sp_lightest (K : PySem.W.Frag) : Sp := sp1 fun x H Q _ => ∃ p, ∃ ps : List (Int × Int), x = .ref p ∧ LsAt H p (ps.map pairD) ∧ ps ≠ [] ∧ ∀ m : Int × Int, m ∈ ps → (∀ q ∈ ps, leP m q) → Q (.int m.2) H
/-! # promises -/
abbrev sp_least (K : PySem.W.Frag) : Sp := sp1 fun x H Q _ => ∃ A T, x = .ref A.p ∧ TbK K H A T ∧ T.Wf ∧ ∀ p ps (zs : List Int) H', H' p = some (.tup [.int (T.wts T.lights : Int), .ref ps]) → H ps = none → H' ps = some (.lst (zs.map V.int)) →
  zs.Perm (T.lights.map fun x : Nat => (x : Int)) → zs.Pairwise (· ≤ ·) → Fr No H H' → Q (.ref p) H'
abbrev sp_Lcopy (K : PySem.W.Frag) : Sp := sp1 fun x H Q _ => ∃ D T, x = .ref D.d ∧ LdAt H D T ∧ ∀ D' H', LdAt H' D' T → Fr No H H' → (∀ b, D'.has b → H b = none) → Q (.ref D'.d) H'
abbrev sp_Lweight (K : PySem.W.Frag) : Sp := sp2 fun x y H Q _ => ∃ D T as, x = .ref D.d ∧ LdAt H D T ∧ NsAt H y as ∧ as.length ≤ 900 ∧ ∀ H', Fr No H H' → Q (.int (T.wts as : Int)) H'
abbrev sp_Lleft (K : PySem.W.Frag) : Sp := sp2 fun x y H Q _ => ∃ D T as, x = .ref D.d ∧ LdAt H D T ∧ T.Wf ∧ NsAt H y as ∧ (∀ a ∈ as, a < T.n) ∧ ∀ H', Fr No H H' → Q (.bl (!decide ((T.leaveAll as).ringsT = []))) H'
abbrev sp_Lsets (K : PySem.W.Frag) : Sp := sp1 fun x H Q _ => ∃ n : Nat, x = .int (n : Int) ∧ n ≤ 8 ∧ ∀ p H', H p = none → LsAt H' p ((setsT n).map ringD) → Fr No H H' → Q (.ref p) H'
namespace Tb
theorem leaveAll_snoc : ∀ {as : List Nat} {T : Tb} {a : Nat}, T.leaveAll (as ++ [a]) = ((T.leaveAll as).leave a).2
  | [], T, a => rfl
  | b :: as, T, a => leaveAll_snoc (as := as) (T := (T.leave b).2)
end Tb
/-- a lock is loosed -/
theorem fr_lock {H H' : Hp} {d : Addr} {od : Obj} {u : HO} (nt : ∀ xs, u ≠ .tup xs) (h : H d = some u) (f : Fr No (upd H d (.frz od u)) H') : Fr No H (upd H' d u) := by
  refine ⟨fun b o e _ => ?_, fun b xs e => ?_, fun b e => ?_⟩
  · by_cases z : b = d
    · rw [z, upd_same, ← h, ← z]; exact e
    · rw [upd_ne z]
      exact f.lst (by rw [upd_ne z]; exact e)
  · have z : b ≠ d := fun z => by
      rw [z, h] at e
      exact nt xs (Option.some.inj e)
    rw [upd_ne z]
    exact f.tup _ _ (by rw [upd_ne z]; exact e)
  · by_cases z : b = d
    · rw [z, upd_same] at e; cases e
    · rw [upd_ne z] at e
      have := f.thr b e
      rw [upd_ne z] at this
      exact this
section
variable {K : PySem.W.Frag} {σ : L2.St} {H : Hp} {Q : VK} {t td : TE}
theorem r_lockE {d : Addr} {u : HO} (h : H d = some u) (mu : Mut (some u)) (nt : ∀ xs, u ≠ .tup xs) (q : ∀ od, t σ (upd H d (.frz od u)) fun v H' => H' d = some (.frz od u) ∧ Q v (upd H' d u)) : tLockE t σ H Q := ⟨d, u, h, mu, q⟩
theorem r_keysI {R : It → Hp → Prop} (h : td σ H fun x H1 => ∃ d o, x = .ref d ∧ ((∃ kvs, H1 d = some (.frz o (.dK kvs)) ∧ R (Itk d o kvs) H1) ∨ ∃ kvs, H1 d = some (.frz o (.dT kvs)) ∧ R (Itkt d o kvs) H1)) : iKeys td σ H R := h
end
/-- sum of ints -/
theorem r_sumI {K : PySem.W.Frag} {H : Hp} {Q : VK} {p : Addr} {ns : List Int} (h : LsAt H p (ns.map PyData.int)) (q : Q (.int ns.sum) H) : rSum K [.ref p] H Q := ⟨p, ns, rfl, SqL.of h.ints, q⟩
/-- a tuple of numbers, one more -/
theorem r_catN {K : PySem.W.Frag} {H : Hp} {Q : VK} {a b : Addr} {s : List Nat} {k : Nat} (ha : H a = some (.tup (s.map nV))) (hb : H b = some (.tup [.int (k : Int)])) (hl : s.length ≤ 900) (q : ∀ v H', Td H' v (ringD (s ++ [k])) → Fr No H H' → Q v H') : rCatA K (.ref a) (.ref b) H Q := by
  have td : ∀ {p : Addr} {H' : Hp}, H' p = some (.tup ((s ++ [k]).map nV)) → Td H' (.ref p) (ringD (s ++ [k])) := fun e => .tup e (td_nats _ _)
  refine ⟨a, b, _, _, rfl, rfl, SqT.of ha, SqT.of hb, ?_, fun e => ?_, (fun _ e => by cases e), fun _ _ p hp => ?_⟩
  · rw [List.length_map]
    exact Nat.le_of_lt (small2000 (by show _ + 1 ≤ 2000; omega))
  · have es : s = [] := by simpa using e
    refine q _ H ?_ Fr.refl
    subst es
    exact td hb
  · refine q _ _ (td ?_) (Fr.new hp)
    rw [upd_same, List.map_append]
    rfl
def rDictP (K : PySem.W.Frag) : List V → Hp → VK → Prop := fun xs H Q => ∃ (a : Addr) (ps : List Addr) (kvs : List (Key × V)), xs = [.ref a] ∧ SqL K H a (ps.map V.ref) ∧ Paired (fun p kv => SqT K H p [kV kv.1, kv.2]) ps kvs ∧ ∀ p, H p = none → Q (.ref p) (upd H p (.dK (mergeK [] kvs)))
theorem k_dictP {X : Cx} {K : PySem.W.Frag} (hK : X.K = K) (hc : X.calm = true) : CallR X (.type "dict") (rDictP K) := hK ▸ call_dictP hc
theorem dd_ints {H : Hp} : ∀ xs : List Int, DdAll H (xs.map V.int) (xs.map PyData.int)
  | [] => .nil
  | x :: r => .cons (.int x) (dd_ints r)
end AL

namespace AL
open PySem PySem.Spec PyProof.Rows L2
/-! # halls, as plain data -/
/-- an agent of a path: its wait number, its weight -/
structure Pt where
  a : Nat
  w : Nat
  g : Nat
  deriving DecidableEq
abbrev Pth := List Pt
inductive Lt where
  | who (p : Pth) (l : Nat)
  | is (p : Pth) (a l h : Nat)
  | still (p : Pth) (i : Nat)
  | brk (a w : Nat)
  deriving DecidableEq
def Pt.d (x : Pt) : PyData := .tuple [.int (x.a : Int), .int (x.w : Int), .int (x.g : Int)]
def pathD (p : Pth) : PyData := .tuple (p.map Pt.d)
def Lt.d : Lt → PyData
  | .who p l => .tuple [.str "who", pathD p, .int (l : Int)]
  | .is p a l h => .tuple [.str "is", pathD p, .int (a : Int), .int (l : Int), .int (h : Int)]
  | .still p i => .tuple [.str "still", pathD p, .int (i : Int)]
  | .brk a w => .tuple [.str "break", .int (a : Int), .int (w : Int)]
structure Hl where
  t : Tb
  dn : List Bool
  rd : List Lt
  tl : List (Pth × Nat)
  br : List (Nat × Nat)
def tellD (r : Pth × Nat) : PyData := .tuple [pathD r.1, .int (r.2 : Int)]
def brokD (r : Nat × Nat) : PyData := .tuple [.int (r.1 : Int), .int (r.2 : Int)]
inductive Ho where
  | b (x : Bool)
  | o (x : Option Nat)
def Ho.v : Ho → V
  | .b x => .bl x
  | .o x => oV x
def Ho.d : Ho → PyData
  | .b x => .bool x
  | .o x => oD x
def hoV : Except Wd Ho → V
  | .error w => .str w.str
  | .ok o => o.v
def hoD : Except Wd Ho → PyData
  | .error w => .str w.str
  | .ok o => o.d
/-- the least of a path: (weight, agent) -/
def Pt.k (x : Pt) : Int × Int := ((x.g : Int), (x.a : Int))
def bestP : Pth → Pt
  | [] => ⟨0, 0, 0⟩
  | [x] => x
  | x :: y :: r => if leB x.k (bestP (y :: r)).k = true then x else bestP (y :: r)
where leB (p q : Int × Int) : Bool := decide (p.1 < q.1 ∨ (p.1 = q.1 ∧ p.2 ≤ q.2))
namespace Hl
def isDown (M : Hl) (k : Nat) : Bool := M.dn.getD (k % M.dn.length) false
def lay (M : Hl) (x : Lt) : Hl := { M with rd := M.rd ++ [x] }
def own (M : Hl) (a : Nat) : Pt := ⟨a, M.t.ro a, (M.t.held a).length⟩
def by_ (M : Hl) (a w : Nat) : Bool := decide (M.t.wa a ≠ none ∧ M.t.ro a = w)
def seek (M : Hl) (a : Nat) : Hl := match M.t.wa a with
  | none => M
  | some l => M.lay (.who [M.own a] l)
def upTo (M : Hl) : Nat → Hl
  | 0 => M
  | k + 1 => if M.t.wa k ≠ none ∧ M.isDown k = false then (M.upTo k).seek k else M.upTo k
def again (M : Hl) : Hl := M.upTo M.t.n
def home : Lt → Nat
  | .who _ l => l
  | .is _ a _ _ => a
  | .still p i => (p.getD i ⟨0, 0, 0⟩).a
  | .brk a _ => a
def who (M : Hl) (p : Pth) (l : Nat) : Hl := match M.t.ow l with
  | none => M
  | some a => M.lay (.is p a l (M.t.ti l))
def come (M : Hl) (p : Pth) (a l h : Nat) : Hl := match M.t.wa a with
  | none => M
  | some want => if M.t.ow l ≠ some a ∨ M.t.ti l ≠ h then M else
    if a = (p.headD ⟨0, 0, 0⟩).a then (if M.by_ a (p.headD ⟨0, 0, 0⟩).w = true then M.lay (.still p 1) else M) else
    if a < (p.headD ⟨0, 0, 0⟩).a ∧ a ∉ p.map Pt.a then M.lay (.who (p ++ [M.own a]) want) else M
/-- whether a ring with this path was told -/
def has (M : Hl) (p : Pth) : Bool := (M.tl.map fun r => pathD r.1).any fun e => PyData.eqv e (pathD p)
def tell (M : Hl) (p : Pth) : Hl := if M.has p = true then M else { M with tl := M.tl ++ [(p, (bestP p).a)] }
def still (M : Hl) (p : Pth) (i : Nat) : Hl := if M.by_ (p.getD i ⟨0, 0, 0⟩).a (p.getD i ⟨0, 0, 0⟩).w = true then
    (if 0 < i then M.lay (.still p ((i + 1) % p.length)) else (M.lay (.brk (bestP p).a (bestP p).w)).tell p) else M
def brk (M : Hl) (a w : Nat) : Hl := if M.by_ a w = true then { M with t := (M.t.leave a).2, br := M.br ++ [(a, w)] } else M
def read (M : Hl) : Lt → Hl
  | .who p l => M.who p l
  | .is p a l h => M.come p a l h
  | .still p i => M.still p i
  | .brk a w => M.brk a w
def drop (M : Hl) (i : Nat) : Hl := { M with rd := M.rd.eraseIdx i }
def carry (M : Hl) (i : Nat) : Hl := match M.rd[i]? with
  | none => M
  | some x => if M.isDown (home x) = true then M.drop i else (M.drop i).read x
def fresh (n m h : Nat) : Hl := ⟨Tb.new n m, List.replicate h false, [], [], []⟩
def isLt (M : Hl) (i : Int) : Prop := 0 ≤ i ∧ i < M.rd.length
def isHs (M : Hl) (i : Int) : Prop := 0 ≤ i ∧ i < M.dn.length
instance (M : Hl) (i : Int) : Decidable (M.isLt i) := by unfold isLt; infer_instance
instance (M : Hl) (i : Int) : Decidable (M.isHs i) := by unfold isHs; infer_instance
def askR (M : Hl) (a l : Int) : Except Wd Ho × Hl := match M.t.fault a l with
  | some w => (.error w, M)
  | none => if M.isDown a.toNat = true ∨ M.isDown l.toNat = true then (.error .stopped, M) else match M.t.askR a l with
    | (.error w, _) => (.error w, M)
    | (.ok true, T) => (.ok (.b true), { M with t := T })
    | (.ok false, T) => (.ok (.b false), ({ M with t := T } : Hl).seek a.toNat)
def giveR (M : Hl) (a l : Int) : Except Wd Ho × Hl := match M.t.fault a l with
  | some w => (.error w, M)
  | none => if M.isDown a.toNat = true ∨ M.isDown l.toNat = true then (.error .stopped, M) else match M.t.giveR a l with
    | (.error w, _) => (.error w, M)
    | (.ok o, T) => (.ok (.o o), { M with t := T })
def carryR (M : Hl) (i : Int) : Except Wd Ho × Hl := if M.isLt i then (.ok (.o none), M.carry i.toNat) else (.error .noLetter, M)
def loseR (M : Hl) (i : Int) : Except Wd Ho × Hl := if M.isLt i then (.ok (.o none), M.drop i.toNat) else (.error .noLetter, M)
def doubleR (M : Hl) (i : Int) : Except Wd Ho × Hl := if M.isLt i then (.ok (.o none), M.lay (M.rd.getD i.toNat (.brk 0 0))) else (.error .noLetter, M)
def set (M : Hl) (i : Nat) (b : Bool) : Hl := { M with dn := M.dn.set i b }
def stopR (M : Hl) (i : Int) : Except Wd Ho × Hl := if M.isHs i then (if M.dn.getD i.toNat false = true then (.error .stopped, M) else (.ok (.o none), M.set i.toNat true)) else (.error .noHouse, M)
def riseR (M : Hl) (i : Int) : Except Wd Ho × Hl := if M.isHs i then (if M.dn.getD i.toNat false = true then (.ok (.o none), M.set i.toNat false) else (.error .up, M)) else (.error .noHouse, M)
end Hl
inductive Hd where
  | ask (a l : Int)
  | give (a l : Int)
  | again
  | carry (i : Int)
  | lose (i : Int)
  | double (i : Int)
  | stop (i : Int)
  | rise (i : Int)
def Hd.vs : Hd → List V
  | .ask a l => [.str "ask", .int a, .int l]
  | .give a l => [.str "give", .int a, .int l]
  | .again => [.str "again"]
  | .carry i => [.str "carry", .int i]
  | .lose i => [.str "lose", .int i]
  | .double i => [.str "double", .int i]
  | .stop i => [.str "stop", .int i]
  | .rise i => [.str "rise", .int i]
def Hl.deedR (M : Hl) : Hd → Except Wd Ho × Hl
  | .ask a l => M.askR a l
  | .give a l => M.giveR a l
  | .again => (.ok (.o none), M.again)
  | .carry i => M.carryR i
  | .lose i => M.loseR i
  | .double i => M.doubleR i
  | .stop i => M.stopR i
  | .rise i => M.riseR i
/-! ### what holds of a hall between its deeds -/
structure POk (T : Tb) (p : Pth) : Prop where
  ne : p ≠ []
  lt : ∀ x ∈ p, x.a < T.n
  nd : (p.map Pt.a).Nodup
  le : ∀ x ∈ p, x.w ≤ T.ro x.a
/-- the last of a path waits for the lock, if it waits still -/
def Lst (T : Tb) (p : Pth) (l : Nat) : Prop := ∀ x, p.getLast? = some x → T.wa x.a ≠ none → T.ro x.a = x.w → T.wa x.a = some l
inductive LOk (T : Tb) : Lt → Prop
  | who {p : Pth} {l : Nat} : POk T p → l < T.m → Lst T p l → LOk T (.who p l)
  | is {p : Pth} {a l h : Nat} : POk T p → a < T.n → l < T.m → Lst T p l → LOk T (.is p a l h)
  | still {p : Pth} {i : Nat} : POk T p → i < p.length → LOk T (.still p i)
  | brk {a w : Nat} : a < T.n → LOk T (.brk a w)
structure Hl.Ok (M : Hl) : Prop where
  t : M.t.Wf
  h1 : 1 ≤ M.dn.length
  h4 : M.dn.length ≤ 4
  rd : ∀ x ∈ M.rd, LOk M.t x
  tl : ∀ r ∈ M.tl, r.1.length ≤ 8
/-! ### the table's steps leave the letters good -/
/-- later tables: no wait number falls; who waits by a number waited so, for the same lock -/
structure Tb.On (T T' : Tb) : Prop where
  n : T'.n = T.n
  m : T'.m = T.m
  ro : ∀ a, T.ro a ≤ T'.ro a
  wa : ∀ a, T'.wa a ≠ none → T'.ro a = T.ro a → T'.wa a = T.wa a
namespace Tb
variable {T T' : Tb}
theorem On.refl : T.On T := ⟨rfl, rfl, fun _ => Nat.le_refl _, fun _ _ _ => rfl⟩
theorem On.pok {p : Pth} (o : T.On T') (h : POk T p) : POk T' p := ⟨h.ne, fun x hx => by rw [o.n]; exact h.lt x hx, h.nd, fun x hx => Nat.le_trans (h.le x hx) (o.ro _)⟩
theorem On.lst {p : Pth} {l : Nat} (o : T.On T') (k : POk T p) (h : Lst T p l) : Lst T' p l := fun x hx hw hr => by
  have hm : x ∈ p := List.mem_of_getLast? hx
  have h1 := k.le x hm
  have h2 := o.ro x.a
  have e : T'.ro x.a = T.ro x.a := by omega
  have ew := o.wa x.a hw e
  rw [ew] at hw ⊢
  exact h x hx hw (by omega)
theorem On.lok {x : Lt} (o : T.On T') (h : LOk T x) : LOk T' x := by
  cases h with
  | who p hl s => exact .who (o.pok p) (by rw [o.m]; exact hl) (o.lst p s)
  | is p ha hl s => exact .is (o.pok p) (by rw [o.n]; exact ha) (by rw [o.m]; exact hl) (o.lst p s)
  | still p hi => exact .still (o.pok p) hi
  | brk ha => exact .brk (by rw [o.n]; exact ha)
theorem On.trans {T2 : Tb} (o : T.On T') (q : T'.On T2) : T.On T2 := ⟨q.n.trans o.n, q.m.trans o.m, fun a => Nat.le_trans (o.ro a) (q.ro a), fun a hw hr => by
  have h1 := o.ro a
  have h2 := q.ro a
  have e1 : T2.ro a = T'.ro a := by omega
  have e2 : T'.ro a = T.ro a := by omega
  have k := q.wa a hw e1
  rw [k] at hw ⊢
  exact o.wa a hw e2⟩
theorem On.pass {l : Nat} (W : T.Wf) : T.On (T.pass l) := ⟨pass_n, pass_m, fun a => by rw [pass_ro]; exact Nat.le_refl _, fun a hw _ => by
  rw [pass_wa W] at hw ⊢
  split at hw
  · exact absurd rfl hw
  · rename_i q
    rw [if_neg q]⟩
theorem On.passAll : ∀ {ls : List Nat} {T : Tb}, T.Wf → (∀ l ∈ ls, l < T.m) → T.On (Tb.passAll ls T).2
  | [], T, W, h => On.refl
  | k :: r, T, W, h => (On.pass W).trans (On.passAll (ls := r) (W.pass (h k List.mem_cons_self)) (fun l hl => by rw [pass_m]; exact h l (List.mem_cons_of_mem _ hl)))
theorem On.unwait {a : Nat} (ha : a < T.n) : T.On (T.unwait a) := ⟨unwait_n, unwait_m, fun b => by rw [unwait_ro]; exact Nat.le_refl _, fun b hw _ => by
  rw [unwait_wa ha] at hw ⊢
  split at hw
  · exact absurd rfl hw
  · rename_i q
    rw [if_neg q]⟩
theorem On.leave {a : Nat} (W : T.Wf) (ha : a < T.n) : T.On (T.leave a).2 := (On.unwait ha).trans (On.passAll (W.unwait ha) fun l hl => held_lt hl)
theorem On.take {a l : Nat} : T.On (T.take a l) := ⟨rfl, take_m, fun _ => Nat.le_refl _, fun _ _ _ => rfl⟩
theorem On.wait {a l : Nat} (W : T.Wf) (ha : a < T.n) : T.On (T.wait a l) := ⟨wait_n, rfl, fun b => by
  rw [wait_ro]
  split
  · rename_i q
    rw [← q.1]
    exact Nat.le_succ _
  · exact Nat.le_refl _, fun b _ hr => by
  have ha' : a < T.rou.length := by rw [W.sz.ro]; exact ha
  rw [wait_ro] at hr
  by_cases z : a = b
  · rw [if_pos ⟨z, ha'⟩, ← z] at hr
    omega
  · rw [wait_wa, if_neg (fun q => z q.1)]⟩
theorem On.askR (W : T.Wf) {a l : Int} : T.On (T.askR a l).2 := by
  cases h : T.fault a l with
  | some w => rw [askR_err h]; exact On.refl
  | none =>
    obtain ⟨a, l, rfl, rfl, ha, hl⟩ := fault_none h
    rw [askR_nat ha hl]
    split
    · exact On.refl
    · split
      · exact On.refl
      · split
        · exact On.take
        · exact On.wait W ha
theorem On.giveR (W : T.Wf) {a l : Int} : T.On (T.giveR a l).2 := by
  cases h : T.fault a l with
  | some w => rw [giveR_err h]; exact On.refl
  | none =>
    obtain ⟨a, l, rfl, rfl, ha, hl⟩ := fault_none h
    rw [giveR_nat ha hl]
    split
    · exact On.refl
    · split
      · exact On.refl
      · exact On.pass W
end Tb
theorem POk.len {T : Tb} {p : Pth} (W : T.Wf) (h : POk T p) : p.length ≤ 8 := by
  have := Tb.nodup_le h.nd (n := T.n) (fun x hx => by
    obtain ⟨y, hy, rfl⟩ := List.mem_map.mp hx
    exact h.lt y hy)
  rw [List.length_map] at this
  exact Nat.le_trans this W.sz.n8
theorem best_mem : ∀ {p : Pth}, p ≠ [] → bestP p ∈ p ∧ ∀ y ∈ p, leP (bestP p).k y.k
  | [x], _ => ⟨List.mem_cons_self, fun y hy => by rw [List.mem_singleton.mp hy]; exact leP_refl _⟩
  | x :: y :: r, _ => by
    obtain ⟨h1, h2⟩ := best_mem (p := y :: r) (by simp)
    have e : bestP (x :: y :: r) = if bestP.leB x.k (bestP (y :: r)).k = true then x else bestP (y :: r) := rfl
    rw [e]
    split
    · rename_i q
      have q' : leP x.k (bestP (y :: r)).k := by
        unfold bestP.leB at q
        have q2 := of_decide_eq_true q
        exact q2
      refine ⟨List.mem_cons_self, fun c hc => ?_⟩
      rcases List.mem_cons.mp hc with z | z
      · rw [z]; exact leP_refl _
      · exact leP_trans q' (h2 c z)
    · rename_i q
      have q' : ¬ leP x.k (bestP (y :: r)).k := fun z => q (by
        unfold bestP.leB
        exact decide_eq_true z)
      refine ⟨List.mem_cons_of_mem _ h1, fun c hc => ?_⟩
      rcases List.mem_cons.mp hc with z | z
      · rw [z]; exact (Tb.leP_tot _ _).resolve_left q'
      · exact h2 c z
theorem nd_inj : ∀ {p : Pth} {x y : Pt}, (p.map Pt.a).Nodup → x ∈ p → y ∈ p → x.a = y.a → x = y
  | z :: r, x, y, nd, hx, hy, e => by
    rw [List.map_cons, List.nodup_cons] at nd
    rcases List.mem_cons.mp hx with h1 | h1 <;> rcases List.mem_cons.mp hy with h2 | h2
    · rw [h1, h2]
    · exact absurd (List.mem_map.mpr ⟨y, h2, e.symm.trans (by rw [h1])⟩) nd.1
    · exact absurd (List.mem_map.mpr ⟨x, h1, e.trans (by rw [h2])⟩) nd.1
    · exact nd_inj nd.2 h1 h2 e
/-- the least is the one -/
theorem best_one {p : Pth} {x : Pt} (nd : (p.map Pt.a).Nodup) (hx : x ∈ p) (h : ∀ y ∈ p, leP x.k y.k) : bestP p = x := by
  obtain ⟨h1, h2⟩ := best_mem (List.ne_nil_of_mem hx)
  have k1 := h _ h1
  have k2 := h2 _ hx
  refine nd_inj nd h1 hx ?_
  unfold leP Pt.k at k1 k2
  simp only at k1 k2
  omega
namespace Hl
variable {M : Hl}
theorem Ok.lay {x : Lt} (O : M.Ok) (h : LOk M.t x) : (M.lay x).Ok := ⟨O.t, O.h1, O.h4, fun y hy => by
  rcases List.mem_append.mp hy with q | q
  · exact O.rd y q
  · rw [List.mem_singleton.mp q]; exact h, O.tl⟩
theorem Ok.on {T : Tb} (O : M.Ok) (W : T.Wf) (o : M.t.On T) : ({ M with t := T } : Hl).Ok := ⟨W, O.h1, O.h4, fun y hy => o.lok (O.rd y hy), O.tl⟩
theorem Ok.drop {i : Nat} (O : M.Ok) : (M.drop i).Ok := ⟨O.t, O.h1, O.h4, fun y hy => O.rd y (List.mem_of_mem_eraseIdx hy), O.tl⟩
theorem own_ok {a : Nat} (ha : a < M.t.n) : POk M.t [M.own a] := ⟨by simp, fun x hx => by rw [List.mem_singleton.mp hx]; exact ha, by simp, fun x hx => by rw [List.mem_singleton.mp hx]; exact Nat.le_refl _⟩
theorem Ok.seek {a : Nat} (O : M.Ok) : (M.seek a).Ok := by
  unfold Hl.seek
  cases h : M.t.wa a with
  | none => exact O
  | some l =>
    refine O.lay (.who (own_ok (Tb.wa_lt h)) (O.t.wl a l h).1 fun x hx _ _ => ?_)
    have e : M.own a = x := by simpa using hx
    rw [← e]
    exact h
theorem seek_t {a : Nat} : (M.seek a).t = M.t := by
  unfold Hl.seek
  split <;> rfl
theorem seek_dn {a : Nat} : (M.seek a).dn = M.dn := by
  unfold Hl.seek
  split <;> rfl
theorem upTo_same : ∀ k : Nat, (M.upTo k).t = M.t ∧ (M.upTo k).dn = M.dn
  | 0 => ⟨rfl, rfl⟩
  | k + 1 => by
    obtain ⟨h1, h2⟩ := upTo_same k
    show (if M.t.wa k ≠ none ∧ M.isDown k = false then (M.upTo k).seek k else M.upTo k).t = _ ∧ (if M.t.wa k ≠ none ∧ M.isDown k = false then (M.upTo k).seek k else M.upTo k).dn = _
    split
    · exact ⟨seek_t.trans h1, seek_dn.trans h2⟩
    · exact ⟨h1, h2⟩
theorem Ok.upTo (O : M.Ok) : ∀ k : Nat, (M.upTo k).Ok
  | 0 => O
  | k + 1 => by
    show (if M.t.wa k ≠ none ∧ M.isDown k = false then (M.upTo k).seek k else M.upTo k).Ok
    split
    · exact (Ok.upTo O k).seek
    · exact Ok.upTo O k
theorem Ok.who {p : Pth} {l : Nat} (O : M.Ok) (hp : POk M.t p) (hl : l < M.t.m) (hs : Lst M.t p l) : (M.who p l).Ok := by
  unfold Hl.who
  split
  · exact O
  · rename_i a h
    exact O.lay (.is hp (O.t.oh l a h) hl hs)
theorem Ok.come {p : Pth} {a l h : Nat} (O : M.Ok) (hp : POk M.t p) (ha : a < M.t.n) (hl : l < M.t.m) (hs : Lst M.t p l) : (M.come p a l h).Ok := by
  unfold Hl.come
  split
  · exact O
  · rename_i want hw
    split
    · exact O
    · rename_i q
      have q1 : M.t.ow l = some a := Classical.byContradiction fun z => q (.inl z)
      split
      · rename_i e
        split
        · rename_i b
          have b' := of_decide_eq_true b
          refine O.lay (.still hp ?_)
          cases p with
          | nil => exact absurd rfl hp.ne
          | cons x r =>
            cases r with
            | nil =>
              have e' : a = x.a := e
              have b2 : M.t.wa a ≠ none ∧ M.t.ro a = x.w := b'
              have := hs x rfl (by rw [← e']; exact b2.1) (by rw [← e']; exact b2.2)
              rw [← e'] at this
              exact absurd q1 (O.t.no a l this)
            | cons y r => exact Nat.succ_lt_succ (Nat.succ_pos _)
        · exact O
      · split
        · rename_i c
          refine O.lay (.who ⟨by simp, fun x hx => ?_, ?_, fun x hx => ?_⟩ (O.t.wl a want hw).1 fun x hx _ _ => ?_)
          · rcases List.mem_append.mp hx with z | z
            · exact hp.lt x z
            · rw [List.mem_singleton.mp z]; exact ha
          · rw [List.map_append, List.nodup_append]
            refine ⟨hp.nd, by simp, fun x hx y hy z => c.2 ?_⟩
            have : y = (M.own a).a := by simpa using hy
            have e2 : a = y := this.symm
            rw [e2, ← z]; exact hx
          · rcases List.mem_append.mp hx with z | z
            · exact hp.le x z
            · rw [List.mem_singleton.mp z]; exact Nat.le_refl _
          · rw [List.getLast?_append] at hx
            have e : M.own a = x := by simpa using hx
            rw [← e]
            exact hw
        · exact O
theorem Ok.tell {p : Pth} (O : M.Ok) (hp : p.length ≤ 8) : (M.tell p).Ok := by
  unfold Hl.tell
  split
  · exact O
  · exact ⟨O.t, O.h1, O.h4, O.rd, fun r hr => by
      rcases List.mem_append.mp hr with z | z
      · exact O.tl r z
      · rw [List.mem_singleton.mp z]; exact hp⟩
theorem Ok.still {p : Pth} {i : Nat} (O : M.Ok) (hp : POk M.t p) : (M.still p i).Ok := by
  unfold Hl.still
  have hl : 0 < p.length := List.length_pos_iff.mpr hp.ne
  split
  · split
    · exact O.lay (.still hp (Nat.mod_lt _ hl))
    · refine Ok.tell (O.lay (.brk (hp.lt _ (best_mem hp.ne).1))) (hp.len O.t)
  · exact O
theorem Ok.brk {a w : Nat} (O : M.Ok) (ha : a < M.t.n) : (M.brk a w).Ok := by
  unfold Hl.brk
  split
  · have := O.on (O.t.leave ha) (Tb.On.leave O.t ha)
    exact ⟨this.t, this.h1, this.h4, this.rd, this.tl⟩
  · exact O
theorem Ok.read {x : Lt} (O : M.Ok) (h : LOk M.t x) : (M.read x).Ok := by
  cases h with
  | who p hl s => exact O.who p hl s
  | is p ha hl s => exact O.come p ha hl s
  | still p hi => exact O.still p
  | brk ha => exact O.brk ha
theorem Ok.carry {i : Nat} (O : M.Ok) : (M.carry i).Ok := by
  unfold Hl.carry
  split
  · exact O
  · rename_i x h
    split
    · exact O.drop
    · exact O.drop.read (O.rd x (List.mem_of_getElem? h))
theorem Ok.deedR (O : M.Ok) (dd : Hd) : (M.deedR dd).2.Ok := by
  cases dd with
  | ask a l =>
    show (M.askR a l).2.Ok
    unfold Hl.askR
    split
    · exact O
    · split
      · exact O
      · have k := O.on (O.t.askR (x := a) (y := l)) (Tb.On.askR O.t)
        split
        · exact O
        · rename_i T e
          rw [e] at k
          exact k
        · rename_i T e
          rw [e] at k
          exact k.seek
  | give a l =>
    show (M.giveR a l).2.Ok
    unfold Hl.giveR
    split
    · exact O
    · split
      · exact O
      · have k := O.on (O.t.giveR (x := a) (y := l)) (Tb.On.giveR O.t)
        split
        · exact O
        · rename_i o T e
          rw [e] at k
          exact k
  | again => exact O.upTo _
  | carry i =>
    show (M.carryR i).2.Ok
    unfold Hl.carryR
    split
    · exact O.carry
    · exact O
  | lose i =>
    show (M.loseR i).2.Ok
    unfold Hl.loseR
    split
    · exact O.drop
    · exact O
  | double i =>
    show (M.doubleR i).2.Ok
    unfold Hl.doubleR
    split
    · rename_i q
      refine O.lay (O.rd _ ?_)
      have hi : i.toNat < M.rd.length := by have := q.1; have := q.2; omega
      exact List.mem_of_getElem? (getD_some hi)
    · exact O
  | stop i =>
    show (M.stopR i).2.Ok
    unfold Hl.stopR Hl.set
    split
    · split
      · exact O
      · exact ⟨O.t, by show 1 ≤ (M.dn.set _ _).length; rw [List.length_set]; exact O.h1, by show (M.dn.set _ _).length ≤ 4; rw [List.length_set]; exact O.h4, O.rd, O.tl⟩
    · exact O
  | rise i =>
    show (M.riseR i).2.Ok
    unfold Hl.riseR Hl.set
    split
    · split
      · exact ⟨O.t, by show 1 ≤ (M.dn.set _ _).length; rw [List.length_set]; exact O.h1, by show (M.dn.set _ _).length ≤ 4; rw [List.length_set]; exact O.h4, O.rd, O.tl⟩
      · exact O
    · exact O
theorem Ok.new {n m h : Nat} (s : (Tb.new n m).Sz) (h1 : 1 ≤ h) (h4 : h ≤ 4) : (fresh n m h).Ok := ⟨Tb.Wf.new s, by show 1 ≤ (List.replicate h false).length; rw [List.length_replicate]; exact h1, by show (List.replicate h false).length ≤ 4; rw [List.length_replicate]; exact h4, (fun x hx => by cases hx), (fun x hx => by cases hx)⟩
end Hl
end AL

namespace AL
open PySem PySem.Spec PyProof.Rows L2
/-! # where a hall stands -/
section
variable {K : PySem.W.Frag} {H H' : Hp} {Q : VK} {v : V} {S : Addr → Prop}
/-! ### letters, paths -/
theorem td_ref {ds : List PyData} (h : Td H v (.tuple ds)) : ∃ a vs, v = .ref a ∧ H a = some (.tup vs) ∧ TdAll H vs ds := by
  cases h with
  | tup e a => exact ⟨_, _, rfl, e, a⟩
theorem td_int {i : Int} (h : Td H v (.int i)) : v = .int i := by cases h; rfl
theorem td_str {x : Str} (h : Td H v (.str x)) : v = .str x := by cases h; rfl
theorem td_c {vs : List V} {d : PyData} {ds : List PyData} (h : TdAll H vs (d :: ds)) : ∃ v r, vs = v :: r ∧ Td H v d ∧ TdAll H r ds := by
  cases h with
  | cons a b => exact ⟨_, _, rfl, a, b⟩
theorem td_n {vs : List V} (h : TdAll H vs []) : vs = [] := by cases h; rfl
theorem pt_at {x : Pt} (h : Td H v x.d) : ∃ a, v = .ref a ∧ H a = some (.tup [.int (x.a : Int), .int (x.w : Int), .int (x.g : Int)]) := by
  obtain ⟨a, vs, rfl, e, h⟩ := td_ref h
  obtain ⟨v1, r1, rfl, t1, h⟩ := td_c h
  obtain ⟨v2, r2, rfl, t2, h⟩ := td_c h
  obtain ⟨v3, r3, rfl, t3, h⟩ := td_c h
  rw [td_n h, td_int t1, td_int t2, td_int t3] at e
  exact ⟨a, rfl, e⟩
theorem who_at {p : Pth} {l : Nat} (h : Td H v (Lt.who p l).d) : ∃ a pv, v = .ref a ∧ H a = some (.tup [.str "who", pv, .int (l : Int)]) ∧ Td H pv (pathD p) := by
  obtain ⟨a, vs, rfl, e, h⟩ := td_ref h
  obtain ⟨v1, r1, rfl, t1, h⟩ := td_c h
  obtain ⟨v2, r2, rfl, t2, h⟩ := td_c h
  obtain ⟨v3, r3, rfl, t3, h⟩ := td_c h
  rw [td_n h, td_str t1, td_int t3] at e
  exact ⟨a, v2, rfl, e, t2⟩
theorem is_at {p : Pth} {b l k : Nat} (h : Td H v (Lt.is p b l k).d) : ∃ a pv, v = .ref a ∧ H a = some (.tup [.str "is", pv, .int (b : Int), .int (l : Int), .int (k : Int)]) ∧ Td H pv (pathD p) := by
  obtain ⟨a, vs, rfl, e, h⟩ := td_ref h
  obtain ⟨v1, r1, rfl, t1, h⟩ := td_c h
  obtain ⟨v2, r2, rfl, t2, h⟩ := td_c h
  obtain ⟨v3, r3, rfl, t3, h⟩ := td_c h
  obtain ⟨v4, r4, rfl, t4, h⟩ := td_c h
  obtain ⟨v5, r5, rfl, t5, h⟩ := td_c h
  rw [td_n h, td_str t1, td_int t3, td_int t4, td_int t5] at e
  exact ⟨a, v2, rfl, e, t2⟩
theorem still_at {p : Pth} {l : Nat} (h : Td H v (Lt.still p l).d) : ∃ a pv, v = .ref a ∧ H a = some (.tup [.str "still", pv, .int (l : Int)]) ∧ Td H pv (pathD p) := by
  obtain ⟨a, vs, rfl, e, h⟩ := td_ref h
  obtain ⟨v1, r1, rfl, t1, h⟩ := td_c h
  obtain ⟨v2, r2, rfl, t2, h⟩ := td_c h
  obtain ⟨v3, r3, rfl, t3, h⟩ := td_c h
  rw [td_n h, td_str t1, td_int t3] at e
  exact ⟨a, v2, rfl, e, t2⟩
theorem brk_at {b w : Nat} (h : Td H v (Lt.brk b w).d) : ∃ a, v = .ref a ∧ H a = some (.tup [.str "break", .int (b : Int), .int (w : Int)]) := by
  obtain ⟨a, vs, rfl, e, h⟩ := td_ref h
  obtain ⟨v1, r1, rfl, t1, h⟩ := td_c h
  obtain ⟨v2, r2, rfl, t2, h⟩ := td_c h
  obtain ⟨v3, r3, rfl, t3, h⟩ := td_c h
  rw [td_n h, td_str t1, td_int t2, td_int t3] at e
  exact ⟨a, rfl, e⟩
theorem path_at {p : Pth} (h : Td H v (pathD p)) : ∃ a vs, v = .ref a ∧ H a = some (.tup vs) ∧ TdAll H vs (p.map Pt.d) := td_ref h
theorem path_ix {p : Pth} {vs : List V} (h : TdAll H vs (p.map Pt.d)) {i : Nat} (hi : i < p.length) : ∃ a, vs[i]? = some (.ref a) ∧ H a = some (.tup [.int ((p.getD i ⟨0, 0, 0⟩).a : Int), .int ((p.getD i ⟨0, 0, 0⟩).w : Int), .int ((p.getD i ⟨0, 0, 0⟩).g : Int)]) := by
  obtain ⟨v, e, t⟩ := h.at (i := i) (d := (p.getD i ⟨0, 0, 0⟩).d) (by rw [List.getElem?_map, getD_some hi]; rfl)
  obtain ⟨a, rfl, ea⟩ := pt_at t
  exact ⟨a, e, ea⟩
/-! ### lists of such data -/
theorem TdAll.erase : ∀ {vs : List V} {ds : List PyData} {i : Nat}, TdAll H vs ds → TdAll H (vs.eraseIdx i) (ds.eraseIdx i)
  | [], [], _, h => h
  | v :: vs, d :: ds, 0, h => by cases h with | cons a b => exact b
  | v :: vs, d :: ds, i + 1, h => by
    cases h with
    | cons a b =>
      rw [List.eraseIdx_cons_succ, List.eraseIdx_cons_succ]
      exact .cons a (TdAll.erase b)
theorem r_appLs {p : Addr} {ds : List PyData} {d : PyData} (h : LsAt H p ds) (hv : Td H v d) (hl : ds.length ≤ 2000) (q : ∀ H', LsAt H' p (ds ++ [d]) → Fr (Only1 p) H H' → Q .non H') : rAppend (.ref p) [v] H Q := by
  obtain ⟨vs, e, a⟩ := h
  refine r_append e (by rw [a.len]; exact hl) ?_
  have f : Fr (Only1 p) H (upd H p (.lst (vs ++ [v]))) := Fr.put e (fun xs z => by cases z)
  exact q _ ⟨_, upd_same, (a.fr f).app (TdAll.one (hv.fr f))⟩ f
theorem r_popLs {p : Addr} {ds : List PyData} {d : PyData} {i : Nat} (h : LsAt H p ds) (hi : ds[i]? = some d) (hs : i < 100000) (q : ∀ v H', Td H' v d → LsAt H' p (ds.eraseIdx i) → Fr (Only1 p) H H' → Q v H') : rPopAt (.ref p) [.int (i : Int)] H Q := by
  obtain ⟨vs, e, a⟩ := h
  obtain ⟨v, ev, t⟩ := a.at hi
  have f : Fr (Only1 p) H (upd H p (.lst (vs.eraseIdx i))) := Fr.put e (fun xs z => by cases z)
  exact r_popAt e ev hs (q v _ (t.fr f) ⟨_, upd_same, (a.fr f).erase⟩ f)
theorem ls_ix {p : Addr} {ds : List PyData} {d : PyData} {i : Nat} (h : LsAt H p ds) (hi : ds[i]? = some d) (q : ∀ v, Td H v d → Q v H) : rIxL K (.ref p) (.int (i : Int)) H Q := by
  obtain ⟨vs, e, a⟩ := h
  obtain ⟨v, ev, t⟩ := a.at hi
  exact r_ixl e ev (q v t)
theorem ls_len {p : Addr} {ds : List PyData} (h : LsAt H p ds) (q : Q (.int (ds.length : Int)) H) : rLenQ K [.ref p] H Q := by
  obtain ⟨vs, e, a⟩ := h
  refine r_lenS e ?_
  rw [a.len]
  exact q
theorem ls_copy {p : Addr} {ds : List PyData} (h : LsAt H p ds) (q : ∀ c H', H c = none → LsAt H' c ds → Fr No H H' → Q (.ref c) H') : rListQ K [.ref p] H Q := by
  obtain ⟨vs, e, a⟩ := h
  exact r_listOf e fun c H' hc ec f => q c H' hc ⟨vs, ec, a.fr f⟩ f
end
/-! ### the program's hall -/
abbrev hlC (K : PySem.W.Frag) : Addr := He.ga K "Hall"
structure HlA where
  p : Addr
  dx : Addr
  dn : Addr
  le : Addr
  te : Addr
  br : Addr
  t : TA
def HlA.own (A : HlA) : List Addr := [A.p, A.dn, A.le, A.te, A.br]
def HlA.foot (A : HlA) : Addr → Prop := fun b => A.t.foot b ∨ b ∈ [A.dn, A.le, A.te, A.br]
def HlA.has (A : HlA) : Addr → Prop := fun b => A.t.has b ∨ b ∈ A.own
def HlA.fs (A : HlA) : List (Str × V) := [("main", .ref A.t.p), ("down", .ref A.dn), ("letters", .ref A.le), ("tellings", .ref A.te), ("breakings", .ref A.br)]
structure HlAt (K : PySem.W.Frag) (H : Hp) (A : HlA) (M : Hl) : Prop where
  ins : H A.p = some (.ins (hlC K) A.dx A.fs)
  tb : TbK K H A.t M.t
  dn : H A.dn = some (.lst (M.dn.map V.bl))
  le : LsAt H A.le (M.rd.map Lt.d)
  te : LsAt H A.te (M.tl.map tellD)
  br : LsAt H A.br (M.br.map brokD)
  nd : A.own.Nodup
  ap : ∀ b ∈ A.own, ¬ A.t.has b
theorem lk_main {A : HlA} : A.fs.lookup ("main" : Str) = some (V.ref A.t.p) := by rfl
theorem lk_down {A : HlA} : A.fs.lookup ("down" : Str) = some (V.ref A.dn) := by rfl
theorem lk_letters {A : HlA} : A.fs.lookup ("letters" : Str) = some (V.ref A.le) := by rfl
theorem lk_tellings {A : HlA} : A.fs.lookup ("tellings" : Str) = some (V.ref A.te) := by rfl
theorem lk_breakings {A : HlA} : A.fs.lookup ("breakings" : Str) = some (V.ref A.br) := by rfl
theorem hk_not {A : HlA} {m : Str} (h : ([("main" : Str), "down", "letters", "tellings", "breakings"].contains m) = false) : A.fs.lookup m = none := by
  unfold HlA.fs
  simp only [List.contains_cons, List.contains_nil, Bool.or_eq_false_iff, Bool.or_false] at h
  obtain ⟨h1, h2, h3, h4, h5⟩ := h
  simp only [List.lookup, h1, h2, h3, h4, h5]
structure HlTxt (K : PySem.W.Frag) : Prop where
  c : Cls K (hlC K)
  m : NoAttr K (hlC K) "main"
  d : NoAttr K (hlC K) "down"
  l : NoAttr K (hlC K) "letters"
  t : NoAttr K (hlC K) "tellings"
  b : NoAttr K (hlC K) "breakings"
section
variable {K : PySem.W.Frag} {H H' : Hp} {Q : VK} {A : HlA} {M : Hl} {S : Addr → Prop} {v : V}
theorem r_main (X : HlTxt K) (h : HlAt K H A M) (q : Q (.ref A.t.p) H) : FldOn K "main" (.ref A.p) H Q := r_fldOn h.ins X.c X.m lk_main q
theorem r_down (X : HlTxt K) (h : HlAt K H A M) (q : Q (.ref A.dn) H) : FldOn K "down" (.ref A.p) H Q := r_fldOn h.ins X.c X.d lk_down q
theorem r_letters (X : HlTxt K) (h : HlAt K H A M) (q : Q (.ref A.le) H) : FldOn K "letters" (.ref A.p) H Q := r_fldOn h.ins X.c X.l lk_letters q
theorem r_tellings (X : HlTxt K) (h : HlAt K H A M) (q : Q (.ref A.te) H) : FldOn K "tellings" (.ref A.p) H Q := r_fldOn h.ins X.c X.t lk_tellings q
theorem r_breakings (X : HlTxt K) (h : HlAt K H A M) (q : Q (.ref A.br) H) : FldOn K "breakings" (.ref A.p) H Q := r_fldOn h.ins X.c X.b lk_breakings q
theorem r_hmeth {m : Str} {G : Prop} (h : HlAt K H A M) (hm : ([("main" : Str), "down", "letters", "tellings", "breakings"].contains m) = false) (g : G) : MethOn (hlC K) m (.ref A.p) H G := r_methOn h.ins (hk_not hm) g
theorem HlAt.fr (h : HlAt K H A M) (f : Fr S H H') (d : ∀ b, A.has b → ¬ S b) : HlAt K H' A M := by
  have o : ∀ {b : Addr}, b ∈ A.own → ¬ S b := fun hb => d _ (.inr hb)
  exact ⟨f.old _ _ h.ins (o (by simp [HlA.own])), h.tb.fr f fun b hb => d b (.inl hb), f.old _ _ h.dn (o (by simp [HlA.own])), h.le.fr f (o (by simp [HlA.own])), h.te.fr f (o (by simp [HlA.own])), h.br.fr f (o (by simp [HlA.own])), h.nd, h.ap⟩
theorem HlAt.fr0 (h : HlAt K H A M) (f : Fr No H H') : HlAt K H' A M := h.fr f fun _ _ z => z
theorem HlAt.ext (h : HlAt K H A M) (e : LamX.ExtN H H') : HlAt K H' A M := ⟨e _ _ h.ins (fun ps z => by cases z), h.tb.ext e, e _ _ h.dn (fun ps z => by cases z), h.le.ext e, h.te.ext e, h.br.ext e, h.nd, h.ap⟩
theorem HlAt.ne (h : HlAt K H A M) : (A.p ≠ A.dn ∧ A.p ≠ A.le ∧ A.p ≠ A.te ∧ A.p ≠ A.br) ∧ (A.dn ≠ A.le ∧ A.dn ≠ A.te ∧ A.dn ≠ A.br) ∧ (A.le ≠ A.te ∧ A.le ≠ A.br) ∧ A.te ≠ A.br := by
  have nd := h.nd
  unfold HlA.own at nd
  simp only [List.nodup_cons, List.mem_cons, not_or, List.not_mem_nil, or_false, not_false_eq_true, true_and, List.nodup_nil, and_true] at nd
  obtain ⟨⟨p1, p2, p3, p4⟩, ⟨l1, l2, l3⟩, ⟨o1, o2⟩, t1⟩ := nd
  exact ⟨⟨p1, p2, p3, p4⟩, ⟨l1, l2, l3⟩, ⟨o1, o2⟩, t1⟩
theorem HlAt.old (h : HlAt K H A M) {b : Addr} (hb : A.has b) : ∃ o, H b = some o ∧ (∀ xs, o ≠ .tup xs) ∧ ∀ ps, o ≠ .tbl ps := by
  rcases hb with hb | hb
  · obtain ⟨o, e, n⟩ := h.tb.old hb
    obtain ⟨o2, e2, n2⟩ := Lw.bad_t h.tb hb
    rw [e] at e2
    cases e2
    exact ⟨o, e, n, n2⟩
  · unfold HlA.own at hb
    simp only [List.mem_cons, List.not_mem_nil, or_false] at hb
    obtain ⟨v1, e1, _⟩ := h.le
    obtain ⟨v2, e2, _⟩ := h.te
    obtain ⟨v3, e3, _⟩ := h.br
    rcases hb with e | e | e | e | e
    · rw [e]; exact ⟨_, h.ins, (fun xs z => by cases z), fun xs z => by cases z⟩
    · rw [e]; exact ⟨_, h.dn, (fun xs z => by cases z), fun xs z => by cases z⟩
    · rw [e]; exact ⟨_, e1, (fun xs z => by cases z), fun xs z => by cases z⟩
    · rw [e]; exact ⟨_, e2, (fun xs z => by cases z), fun xs z => by cases z⟩
    · rw [e]; exact ⟨_, e3, (fun xs z => by cases z), fun xs z => by cases z⟩
theorem HlAt.fresh (h : HlAt K H A M) {b : Addr} (hb : H b = none) : ¬ A.has b := fun z => by
  obtain ⟨o, e, _⟩ := h.old z
  rw [hb] at e
  cases e
theorem HlA.has_foot {b : Addr} (h : A.foot b) : A.has b := by
  rcases h with h | h
  · exact .inl (TA.has_foot h)
  · exact .inr (List.mem_cons_of_mem _ h)
theorem hl_old_foot (h : HlAt K H A M) : OldL A.foot H := fun b hb => by
  rcases hb with hb | hb
  · exact old_foot h.tb b hb
  · simp only [List.mem_cons, List.not_mem_nil, or_false] at hb
    obtain ⟨v1, e1, _⟩ := h.le
    obtain ⟨v2, e2, _⟩ := h.te
    obtain ⟨v3, e3, _⟩ := h.br
    rcases hb with e | e | e | e
    · rw [e]; exact ⟨_, h.dn⟩
    · rw [e]; exact ⟨_, e1⟩
    · rw [e]; exact ⟨_, e2⟩
    · rw [e]; exact ⟨_, e3⟩
/-- the table is another one -/
theorem HlAt.tab {T : Tb} (h : HlAt K H A M) (f : Fr A.t.foot H H') (ht : TbK K H' A.t T) : HlAt K H' A { M with t := T } := by
  have o : ∀ {b : Addr}, b ∈ A.own → ¬ A.t.foot b := fun hb z => h.ap _ hb (TA.has_foot z)
  exact ⟨f.old _ _ h.ins (o (by simp [HlA.own])), ht, f.old _ _ h.dn (o (by simp [HlA.own])), h.le.fr f (o (by simp [HlA.own])), h.te.fr f (o (by simp [HlA.own])), h.br.fr f (o (by simp [HlA.own])), h.nd, h.ap⟩
theorem HlA.foot_t : ∀ b, A.t.foot b → A.foot b := fun _ hb => .inl hb
theorem HlA.foot_1 {c : Addr} (hc : c ∈ [A.dn, A.le, A.te, A.br]) : ∀ b, Only1 c b → A.foot b := fun b hb => .inr (by rw [show b = c from hb]; exact hc)
theorem HlAt.tb1 {c : Addr} (h : HlAt K H A M) (f : Fr (Only1 c) H H') (hc : c ∈ A.own) : TbK K H' A.t M.t := h.tb.fr f fun b hb z => h.ap c hc (by rw [← show b = c from z]; exact hb)
theorem HlAt.uLe {r : List Lt} (h : HlAt K H A M) (f : Fr (Only1 A.le) H H') (hl : LsAt H' A.le (r.map Lt.d)) : HlAt K H' A { M with rd := r } := by
  obtain ⟨⟨p1, p2, p3, p4⟩, ⟨l1, l2, l3⟩, ⟨o1, o2⟩, t1⟩ := h.ne
  exact ⟨f.old _ _ h.ins p2, h.tb1 f (by simp [HlA.own]), f.old _ _ h.dn l1, hl, h.te.fr f o1.symm, h.br.fr f o2.symm, h.nd, h.ap⟩
theorem HlAt.uTe {r : List (Pth × Nat)} (h : HlAt K H A M) (f : Fr (Only1 A.te) H H') (hl : LsAt H' A.te (r.map tellD)) : HlAt K H' A { M with tl := r } := by
  obtain ⟨⟨p1, p2, p3, p4⟩, ⟨l1, l2, l3⟩, ⟨o1, o2⟩, t1⟩ := h.ne
  exact ⟨f.old _ _ h.ins p3, h.tb1 f (by simp [HlA.own]), f.old _ _ h.dn l2, h.le.fr f o1, hl, h.br.fr f t1.symm, h.nd, h.ap⟩
theorem HlAt.uBr {r : List (Nat × Nat)} (h : HlAt K H A M) (f : Fr (Only1 A.br) H H') (hl : LsAt H' A.br (r.map brokD)) : HlAt K H' A { M with br := r } := by
  obtain ⟨⟨p1, p2, p3, p4⟩, ⟨l1, l2, l3⟩, ⟨o1, o2⟩, t1⟩ := h.ne
  exact ⟨f.old _ _ h.ins p4, h.tb1 f (by simp [HlA.own]), f.old _ _ h.dn l3, h.le.fr f o2, h.te.fr f t1, hl, h.nd, h.ap⟩
theorem HlAt.uDn {r : List Bool} (h : HlAt K H A M) (f : Fr (Only1 A.dn) H H') (hl : H' A.dn = some (.lst (r.map V.bl))) : HlAt K H' A { M with dn := r } := by
  obtain ⟨⟨p1, p2, p3, p4⟩, ⟨l1, l2, l3⟩, ⟨o1, o2⟩, t1⟩ := h.ne
  exact ⟨f.old _ _ h.ins p1, h.tb1 f (by simp [HlA.own]), hl, h.le.fr f l1.symm, h.te.fr f l2.symm, h.br.fr f l3.symm, h.nd, h.ap⟩
/-- a letter is laid -/
theorem h_lay {x : Lt} (h : HlAt K H A M) (hv : Td H v x.d) (hl : M.rd.length ≤ 2000) (q : ∀ H', HlAt K H' A (M.lay x) → Fr A.foot H H' → Q .non H') : rAppend (.ref A.le) [v] H Q := by
  refine r_appLs h.le hv (by rw [List.length_map]; exact hl) fun H' hl' f => q H' (h.uLe f ?_) (f.mono (HlA.foot_1 (by simp)))
  rw [List.map_append]
  exact hl'
theorem h_pop {i : Nat} {x : Lt} (h : HlAt K H A M) (hi : M.rd[i]? = some x) (hl : M.rd.length ≤ 2000) (q : ∀ v H', Td H' v x.d → HlAt K H' A (M.drop i) → Fr A.foot H H' → Q v H') : rPopAt (.ref A.le) [.int (i : Int)] H Q := by
  have hi2 := (List.getElem?_eq_some_iff.mp hi).1
  refine r_popLs h.le (by rw [List.getElem?_map, hi]; rfl) (by omega) fun v H' t hl' f => q v H' t (h.uLe f ?_) (f.mono (HlA.foot_1 (by simp)))
  rw [← map_eraseIdx]
  exact hl'
theorem h_lenDn (h : HlAt K H A M) (q : Q (.int (M.dn.length : Int)) H) : rLenQ K [.ref A.dn] H Q := r_lenS h.dn (by rw [List.length_map]; exact q)
theorem h_lenLe (h : HlAt K H A M) (q : Q (.int (M.rd.length : Int)) H) : rLenQ K [.ref A.le] H Q := ls_len h.le (by rw [List.length_map]; exact q)
theorem h_ixDn {i : Nat} (h : HlAt K H A M) (hi : i < M.dn.length) (q : Q (.bl (M.dn.getD i false)) H) : rIxL K (.ref A.dn) (.int (i : Int)) H Q := r_ixl h.dn (map_at hi) q
theorem h_setDn {i : Nat} {b : Bool} {QH : Hp → Prop} (h : HlAt K H A M) (hi : i < M.dn.length) (q : ∀ H', HlAt K H' A (M.set i b) → Fr A.foot H H' → QH H') : rSetL (.ref A.dn) (.int (i : Int)) (.bl b) H QH := by
  have f : Fr (Only1 A.dn) H (upd H A.dn (.lst ((M.dn.map V.bl).set i (.bl b)))) := Fr.put h.dn (fun xs z => by cases z)
  refine r_setl h.dn (by rw [List.length_map]; exact hi) (q _ (h.uDn f ?_) (f.mono (HlA.foot_1 (by simp))))
  rw [upd_same, map_set]
end
/-! ### the law's hall -/
structure HmA where
  d : Addr
  dn : Addr
  ro : Addr
  to : Addr
  br : Addr
  t : LA
def HmA.own (B : HmA) : List Addr := [B.d, B.dn, B.ro, B.to, B.br]
def HmA.foot (B : HmA) : Addr → Prop := fun b => B.t.foot b ∨ b ∈ [B.dn, B.ro, B.to, B.br]
def HmA.has (B : HmA) : Addr → Prop := fun b => B.t.has b ∨ b ∈ B.own
def HmA.kvs (B : HmA) : List (Key × V) := [(.inr "t", .ref B.t.d), (.inr "down", .ref B.dn), (.inr "road", .ref B.ro), (.inr "told", .ref B.to), (.inr "broken", .ref B.br)]
structure HmAt (H : Hp) (B : HmA) (M : Hl) : Prop where
  dic : H B.d = some (.dK B.kvs)
  td : LdAt H B.t M.t
  dn : H B.dn = some (.lst (M.dn.map V.bl))
  ro : LsAt H B.ro (M.rd.map Lt.d)
  to : LsAt H B.to (M.tl.map tellD)
  br : LsAt H B.br (M.br.map brokD)
  nd : B.own.Nodup
  ap : ∀ b ∈ B.own, ¬ B.t.has b
  bd : ∀ b ∈ B.own, B.t.bad b
section
variable {K : PySem.W.Frag} {H H' : Hp} {Q : VK} {B : HmA} {M : Hl} {S : Addr → Prop} {v : V}
theorem r_dgT (h : HmAt H B M) (q : Q (.ref B.t.d) H) : DgOn (.ref B.d) (.str "t") H Q := ⟨B.d, _, rfl, DGet.k (k := .inr "t") h.dic, q⟩
theorem r_dgDn (h : HmAt H B M) (q : Q (.ref B.dn) H) : DgOn (.ref B.d) (.str "down") H Q := ⟨B.d, _, rfl, DGet.k (k := .inr "down") h.dic, q⟩
theorem r_dgRo (h : HmAt H B M) (q : Q (.ref B.ro) H) : DgOn (.ref B.d) (.str "road") H Q := ⟨B.d, _, rfl, DGet.k (k := .inr "road") h.dic, q⟩
theorem r_dgTo (h : HmAt H B M) (q : Q (.ref B.to) H) : DgOn (.ref B.d) (.str "told") H Q := ⟨B.d, _, rfl, DGet.k (k := .inr "told") h.dic, q⟩
theorem r_dgBr (h : HmAt H B M) (q : Q (.ref B.br) H) : DgOn (.ref B.d) (.str "broken") H Q := ⟨B.d, _, rfl, DGet.k (k := .inr "broken") h.dic, q⟩
theorem HmAt.fr (h : HmAt H B M) (f : Fr S H H') (h1 : ∀ b, S b → B.t.bad b) (d : ∀ b, B.has b → ¬ S b) : HmAt H' B M := by
  have o : ∀ {b : Addr}, b ∈ B.own → ¬ S b := fun hb => d _ (.inr hb)
  exact ⟨f.old _ _ h.dic (o (by simp [HmA.own])), h.td.fr f h1 fun b hb => d b (.inl hb), f.old _ _ h.dn (o (by simp [HmA.own])), h.ro.fr f (o (by simp [HmA.own])), h.to.fr f (o (by simp [HmA.own])), h.br.fr f (o (by simp [HmA.own])), h.nd, h.ap, h.bd⟩
theorem HmAt.fr0 (h : HmAt H B M) (f : Fr No H H') : HmAt H' B M := h.fr f (fun _ z => z.elim) fun _ _ z => z
theorem HmAt.ext (h : HmAt H B M) (e : LamX.ExtN H H') (hb : ∀ b, B.t.bad b → ∃ o, H b = some o ∧ ∀ ps, o ≠ .tbl ps) : HmAt H' B M := ⟨e _ _ h.dic (fun ps z => by cases z), h.td.ext e hb, e _ _ h.dn (fun ps z => by cases z), h.ro.ext e, h.to.ext e, h.br.ext e, h.nd, h.ap, h.bd⟩
theorem HmAt.ne (h : HmAt H B M) : (B.d ≠ B.dn ∧ B.d ≠ B.ro ∧ B.d ≠ B.to ∧ B.d ≠ B.br) ∧ (B.dn ≠ B.ro ∧ B.dn ≠ B.to ∧ B.dn ≠ B.br) ∧ (B.ro ≠ B.to ∧ B.ro ≠ B.br) ∧ B.to ≠ B.br := by
  have nd := h.nd
  unfold HmA.own at nd
  simp only [List.nodup_cons, List.mem_cons, not_or, List.not_mem_nil, or_false, not_false_eq_true, true_and, List.nodup_nil, and_true] at nd
  obtain ⟨⟨p1, p2, p3, p4⟩, ⟨l1, l2, l3⟩, ⟨o1, o2⟩, t1⟩ := nd
  exact ⟨⟨p1, p2, p3, p4⟩, ⟨l1, l2, l3⟩, ⟨o1, o2⟩, t1⟩
theorem HmAt.old (h : HmAt H B M) {b : Addr} (hb : B.has b) : ∃ o, H b = some o ∧ (∀ xs, o ≠ .tup xs) ∧ ∀ ps, o ≠ .tbl ps := by
  rcases hb with hb | hb
  · obtain ⟨o, e, n⟩ := h.td.has_old hb
    obtain ⟨o2, e2, n2⟩ := Lw.bad_l h.td hb
    rw [e] at e2
    cases e2
    exact ⟨o, e, n, n2⟩
  · unfold HmA.own at hb
    simp only [List.mem_cons, List.not_mem_nil, or_false] at hb
    obtain ⟨v1, e1, _⟩ := h.ro
    obtain ⟨v2, e2, _⟩ := h.to
    obtain ⟨v3, e3, _⟩ := h.br
    rcases hb with e | e | e | e | e
    · rw [e]; exact ⟨_, h.dic, (fun xs z => by cases z), fun xs z => by cases z⟩
    · rw [e]; exact ⟨_, h.dn, (fun xs z => by cases z), fun xs z => by cases z⟩
    · rw [e]; exact ⟨_, e1, (fun xs z => by cases z), fun xs z => by cases z⟩
    · rw [e]; exact ⟨_, e2, (fun xs z => by cases z), fun xs z => by cases z⟩
    · rw [e]; exact ⟨_, e3, (fun xs z => by cases z), fun xs z => by cases z⟩
theorem HmA.has_foot {b : Addr} (h : B.foot b) : B.has b := by
  rcases h with h | h
  · exact .inl (LA.has_foot h)
  · exact .inr (List.mem_cons_of_mem _ h)
theorem hm_old_foot (h : HmAt H B M) : OldL B.foot H := fun b hb => by
  rcases hb with hb | hb
  · exact old_lfoot h.td b hb
  · simp only [List.mem_cons, List.not_mem_nil, or_false] at hb
    obtain ⟨v1, e1, _⟩ := h.ro
    obtain ⟨v2, e2, _⟩ := h.to
    obtain ⟨v3, e3, _⟩ := h.br
    rcases hb with e | e | e | e
    · rw [e]; exact ⟨_, h.dn⟩
    · rw [e]; exact ⟨_, e1⟩
    · rw [e]; exact ⟨_, e2⟩
    · rw [e]; exact ⟨_, e3⟩
theorem HmAt.tab {T : Tb} (h : HmAt H B M) (f : Fr B.t.foot H H') (ht : LdAt H' B.t T) : HmAt H' B { M with t := T } := by
  have o : ∀ {b : Addr}, b ∈ B.own → ¬ B.t.foot b := fun hb z => h.ap _ hb (LA.has_foot z)
  exact ⟨f.old _ _ h.dic (o (by simp [HmA.own])), ht, f.old _ _ h.dn (o (by simp [HmA.own])), h.ro.fr f (o (by simp [HmA.own])), h.to.fr f (o (by simp [HmA.own])), h.br.fr f (o (by simp [HmA.own])), h.nd, h.ap, h.bd⟩
theorem HmA.foot_t : ∀ b, B.t.foot b → B.foot b := fun _ hb => .inl hb
theorem HmA.foot_1 {c : Addr} (hc : c ∈ [B.dn, B.ro, B.to, B.br]) : ∀ b, Only1 c b → B.foot b := fun b hb => .inr (by rw [show b = c from hb]; exact hc)
theorem HmAt.td1 {c : Addr} (h : HmAt H B M) (f : Fr (Only1 c) H H') (hc : c ∈ B.own) : LdAt H' B.t M.t := h.td.fr f (fun b hb => by rw [show b = c from hb]; exact h.bd c hc) fun b hb z => h.ap c hc (by rw [← show b = c from z]; exact hb)
theorem HmAt.uRo {r : List Lt} (h : HmAt H B M) (f : Fr (Only1 B.ro) H H') (hl : LsAt H' B.ro (r.map Lt.d)) : HmAt H' B { M with rd := r } := by
  obtain ⟨⟨p1, p2, p3, p4⟩, ⟨l1, l2, l3⟩, ⟨o1, o2⟩, t1⟩ := h.ne
  exact ⟨f.old _ _ h.dic p2, h.td1 f (by simp [HmA.own]), f.old _ _ h.dn l1, hl, h.to.fr f o1.symm, h.br.fr f o2.symm, h.nd, h.ap, h.bd⟩
theorem HmAt.uTo {r : List (Pth × Nat)} (h : HmAt H B M) (f : Fr (Only1 B.to) H H') (hl : LsAt H' B.to (r.map tellD)) : HmAt H' B { M with tl := r } := by
  obtain ⟨⟨p1, p2, p3, p4⟩, ⟨l1, l2, l3⟩, ⟨o1, o2⟩, t1⟩ := h.ne
  exact ⟨f.old _ _ h.dic p3, h.td1 f (by simp [HmA.own]), f.old _ _ h.dn l2, h.ro.fr f o1, hl, h.br.fr f t1.symm, h.nd, h.ap, h.bd⟩
theorem HmAt.uBr {r : List (Nat × Nat)} (h : HmAt H B M) (f : Fr (Only1 B.br) H H') (hl : LsAt H' B.br (r.map brokD)) : HmAt H' B { M with br := r } := by
  obtain ⟨⟨p1, p2, p3, p4⟩, ⟨l1, l2, l3⟩, ⟨o1, o2⟩, t1⟩ := h.ne
  exact ⟨f.old _ _ h.dic p4, h.td1 f (by simp [HmA.own]), f.old _ _ h.dn l3, h.ro.fr f o2, h.to.fr f t1, hl, h.nd, h.ap, h.bd⟩
theorem HmAt.uDn {r : List Bool} (h : HmAt H B M) (f : Fr (Only1 B.dn) H H') (hl : H' B.dn = some (.lst (r.map V.bl))) : HmAt H' B { M with dn := r } := by
  obtain ⟨⟨p1, p2, p3, p4⟩, ⟨l1, l2, l3⟩, ⟨o1, o2⟩, t1⟩ := h.ne
  exact ⟨f.old _ _ h.dic p1, h.td1 f (by simp [HmA.own]), hl, h.ro.fr f l1.symm, h.to.fr f l2.symm, h.br.fr f l3.symm, h.nd, h.ap, h.bd⟩
theorem m_lay {x : Lt} (h : HmAt H B M) (hv : Td H v x.d) (hl : M.rd.length ≤ 2000) (q : ∀ H', HmAt H' B (M.lay x) → Fr B.foot H H' → Q .non H') : rAppend (.ref B.ro) [v] H Q := by
  refine r_appLs h.ro hv (by rw [List.length_map]; exact hl) fun H' hl' f => q H' (h.uRo f ?_) (f.mono (HmA.foot_1 (by simp)))
  rw [List.map_append]
  exact hl'
theorem m_pop {i : Nat} {x : Lt} (h : HmAt H B M) (hi : M.rd[i]? = some x) (hl : M.rd.length ≤ 2000) (q : ∀ v H', Td H' v x.d → HmAt H' B (M.drop i) → Fr B.foot H H' → Q v H') : rPopAt (.ref B.ro) [.int (i : Int)] H Q := by
  have hi2 := (List.getElem?_eq_some_iff.mp hi).1
  refine r_popLs h.ro (by rw [List.getElem?_map, hi]; rfl) (by omega) fun v H' t hl' f => q v H' t (h.uRo f ?_) (f.mono (HmA.foot_1 (by simp)))
  rw [← map_eraseIdx]
  exact hl'
theorem m_lenDn (h : HmAt H B M) (q : Q (.int (M.dn.length : Int)) H) : rLenQ K [.ref B.dn] H Q := r_lenS h.dn (by rw [List.length_map]; exact q)
theorem m_lenRo (h : HmAt H B M) (q : Q (.int (M.rd.length : Int)) H) : rLenQ K [.ref B.ro] H Q := ls_len h.ro (by rw [List.length_map]; exact q)
theorem m_ixDn {i : Nat} (h : HmAt H B M) (hi : i < M.dn.length) (q : Q (.bl (M.dn.getD i false)) H) : rIxL K (.ref B.dn) (.int (i : Int)) H Q := r_ixl h.dn (map_at hi) q
theorem m_setDn {i : Nat} {b : Bool} {QH : Hp → Prop} (h : HmAt H B M) (hi : i < M.dn.length) (q : ∀ H', HmAt H' B (M.set i b) → Fr B.foot H H' → QH H') : rSetL (.ref B.dn) (.int (i : Int)) (.bl b) H QH := by
  have f : Fr (Only1 B.dn) H (upd H B.dn (.lst ((M.dn.map V.bl).set i (.bl b)))) := Fr.put h.dn (fun xs z => by cases z)
  refine r_setl h.dn (by rw [List.length_map]; exact hi) (q _ (h.uDn f ?_) (f.mono (HmA.foot_1 (by simp))))
  rw [upd_same, map_set]
end
end AL

namespace AL
open PySem PySem.Spec PyProof.Rows L2
/-! # the promises of a hall's methods -/
structure Hl.Few (M : Hl) : Prop where
  rd : M.rd.length ≤ 1980
  tl : M.tl.length ≤ 1980
  br : M.br.length ≤ 1980
abbrev sp_h_is_down (K : PySem.W.Frag) : Sp := sp2 fun x y H Q _ => ∃ A M, ∃ k : Nat, x = .ref A.p ∧ y = .int (k : Int) ∧ HlAt K H A M ∧ M.Ok ∧ Q (.bl (M.isDown k)) H
abbrev sp_h_need_up (K : PySem.W.Frag) : Sp := sp3 fun x y z H Q E => ∃ A M a l, x = .ref A.p ∧ y = .int a ∧ z = .int l ∧ HlAt K H A M ∧ M.Ok ∧ (∀ w, M.t.fault a l = some w → eW K w E H) ∧
  (M.t.fault a l = none → (M.isDown a.toNat = true ∨ M.isDown l.toNat = true) → eW K .stopped E H) ∧ (M.t.fault a l = none → ¬ (M.isDown a.toNat = true ∨ M.isDown l.toNat = true) → Q .non H)
abbrev sp_h_own (K : PySem.W.Frag) : Sp := sp2 fun x y H Q _ => ∃ A M, ∃ a : Nat, x = .ref A.p ∧ y = .int (a : Int) ∧ HlAt K H A M ∧ M.Ok ∧ a < M.t.n ∧ ∀ v H', Td H' v (M.own a).d → Fr No H H' → Q v H'
abbrev sp_h_seek (K : PySem.W.Frag) : Sp := sp2 fun x y H Q _ => ∃ A M, ∃ a : Nat, x = .ref A.p ∧ y = .int (a : Int) ∧ HlAt K H A M ∧ M.Ok ∧ a < M.t.n ∧ M.t.wa a ≠ none ∧ M.rd.length ≤ 2000 ∧ ∀ H', HlAt K H' A (M.seek a) → Fr A.foot H H' → Q .non H'
abbrev sp_h_ask (K : PySem.W.Frag) : Sp := sp3 fun x y z H Q E => ∃ A M a l, x = .ref A.p ∧ y = .int a ∧ z = .int l ∧ HlAt K H A M ∧ M.Ok ∧ M.rd.length ≤ 2000 ∧ (∀ w, (M.askR a l).1 = .error w → eW K w E H) ∧
  ∀ o H', (M.askR a l).1 = .ok o → HlAt K H' A (M.askR a l).2 → Fr A.foot H H' → Q o.v H'
abbrev sp_h_give (K : PySem.W.Frag) : Sp := sp3 fun x y z H Q E => ∃ A M a l, x = .ref A.p ∧ y = .int a ∧ z = .int l ∧ HlAt K H A M ∧ M.Ok ∧ (∀ w, (M.giveR a l).1 = .error w → eW K w E H) ∧
  ∀ o H', (M.giveR a l).1 = .ok o → HlAt K H' A (M.giveR a l).2 → Fr A.foot H H' → Q o.v H'
abbrev sp_h_again (K : PySem.W.Frag) : Sp := sp1 fun x H Q _ => ∃ A M, x = .ref A.p ∧ HlAt K H A M ∧ M.Ok ∧ M.rd.length ≤ 1990 ∧ ∀ H', HlAt K H' A M.again → Fr A.foot H H' → Q .non H'
abbrev sp_h_waits_by (K : PySem.W.Frag) : Sp := sp3 fun x y z H Q _ => ∃ A M, ∃ a w : Nat, x = .ref A.p ∧ y = .int (a : Int) ∧ z = .int (w : Int) ∧ HlAt K H A M ∧ a < M.t.n ∧ Q (.bl (M.by_ a w)) H
abbrev sp_h_house_number (K : PySem.W.Frag) : Sp := sp2 fun x y H Q _ => ∃ A M X, x = .ref A.p ∧ HlAt K H A M ∧ Td H y (Lt.d X) ∧ LOk M.t X ∧ ∀ H', Fr No H H' → Q (.int (Hl.home X : Int)) H'
abbrev sp_h_who (K : PySem.W.Frag) : Sp := sp3 fun x y z H Q _ => ∃ A M p, ∃ l : Nat, x = .ref A.p ∧ z = .int (l : Int) ∧ HlAt K H A M ∧ M.Ok ∧ Td H y (pathD p) ∧ l < M.t.m ∧ M.rd.length ≤ 2000 ∧ ∀ H', HlAt K H' A (M.who p l) → Fr A.foot H H' → Q .non H'
abbrev sp_h_come (K : PySem.W.Frag) : Sp := sp5 fun x y z u v H Q _ => ∃ A M p, ∃ a l h : Nat, x = .ref A.p ∧ z = .int (a : Int) ∧ u = .int (l : Int) ∧ v = .int (h : Int) ∧ HlAt K H A M ∧ M.Ok ∧ Td H y (pathD p) ∧ POk M.t p ∧ a < M.t.n ∧ l < M.t.m ∧ M.rd.length ≤ 2000 ∧
  ∀ H', HlAt K H' A (M.come p a l h) → Fr A.foot H H' → Q .non H'
abbrev sp_h_still (K : PySem.W.Frag) : Sp := sp3 fun x y z H Q _ => ∃ A M p, ∃ i : Nat, x = .ref A.p ∧ z = .int (i : Int) ∧ HlAt K H A M ∧ M.Ok ∧ Td H y (pathD p) ∧ POk M.t p ∧ i < p.length ∧ M.rd.length ≤ 2000 ∧ M.tl.length ≤ 2000 ∧
  ∀ H', HlAt K H' A (M.still p i) → Fr A.foot H H' → Q .non H'
abbrev sp_h_need_letter (K : PySem.W.Frag) : Sp := sp2 fun x y H Q E => ∃ A M i, x = .ref A.p ∧ y = .int i ∧ HlAt K H A M ∧ (M.isLt i → Q .non H) ∧ (¬ M.isLt i → eW K .noLetter E H)
abbrev sp_h_carry (K : PySem.W.Frag) : Sp := sp2 fun x y H Q E => ∃ A M i, x = .ref A.p ∧ y = .int i ∧ HlAt K H A M ∧ M.Ok ∧ M.Few ∧ (¬ M.isLt i → eW K .noLetter E H) ∧ (M.isLt i → ∀ H', HlAt K H' A (M.carry i.toNat) → Fr A.foot H H' → Q .non H')
abbrev sp_h_lose (K : PySem.W.Frag) : Sp := sp2 fun x y H Q E => ∃ A M i, x = .ref A.p ∧ y = .int i ∧ HlAt K H A M ∧ M.Few ∧ (¬ M.isLt i → eW K .noLetter E H) ∧ (M.isLt i → ∀ H', HlAt K H' A (M.drop i.toNat) → Fr A.foot H H' → Q .non H')
abbrev sp_h_double (K : PySem.W.Frag) : Sp := sp2 fun x y H Q E => ∃ A M i, x = .ref A.p ∧ y = .int i ∧ HlAt K H A M ∧ M.Few ∧ (¬ M.isLt i → eW K .noLetter E H) ∧ (M.isLt i → ∀ H', HlAt K H' A (M.lay (M.rd.getD i.toNat (.brk 0 0))) → Fr A.foot H H' → Q .non H')
abbrev sp_h_need_house (K : PySem.W.Frag) : Sp := sp2 fun x y H Q E => ∃ A M i, x = .ref A.p ∧ y = .int i ∧ HlAt K H A M ∧ (M.isHs i → Q .non H) ∧ (¬ M.isHs i → eW K .noHouse E H)
abbrev sp_h_stop (K : PySem.W.Frag) : Sp := sp2 fun x y H Q E => ∃ A M i, x = .ref A.p ∧ y = .int i ∧ HlAt K H A M ∧ (∀ w, (M.stopR i).1 = .error w → eW K w E H) ∧ ∀ o H', (M.stopR i).1 = .ok o → HlAt K H' A (M.stopR i).2 → Fr A.foot H H' → Q o.v H'
abbrev sp_h_rise (K : PySem.W.Frag) : Sp := sp2 fun x y H Q E => ∃ A M i, x = .ref A.p ∧ y = .int i ∧ HlAt K H A M ∧ (∀ w, (M.riseR i).1 = .error w → eW K w E H) ∧ ∀ o H', (M.riseR i).1 = .ok o → HlAt K H' A (M.riseR i).2 → Fr A.foot H H' → Q o.v H'
abbrev sp_h_road (K : PySem.W.Frag) : Sp := sp1 fun x H Q _ => ∃ A M, x = .ref A.p ∧ HlAt K H A M ∧ ∀ c H', H c = none → LsAt H' c (M.rd.map Lt.d) → Fr No H H' → Q (.ref c) H'
abbrev sp_h_told (K : PySem.W.Frag) : Sp := sp1 fun x H Q _ => ∃ A M, x = .ref A.p ∧ HlAt K H A M ∧ ∀ c H', H c = none → LsAt H' c (M.tl.map tellD) → Fr No H H' → Q (.ref c) H'
abbrev sp_h_broken (K : PySem.W.Frag) : Sp := sp1 fun x H Q _ => ∃ A M, x = .ref A.p ∧ HlAt K H A M ∧ ∀ c H', H c = none → LsAt H' c (M.br.map brokD) → Fr No H H' → Q (.ref c) H'
abbrev sp_h_table (K : PySem.W.Frag) : Sp := sp1 fun x H Q _ => ∃ A M, x = .ref A.p ∧ HlAt K H A M ∧ ∀ C H', TbK K H' C M.t → Fr No H H' → (∀ b, C.has b → H b = none) → Q (.ref C.p) H'
abbrev sp_made_table (K : PySem.W.Frag) : Sp := sp2 fun x y H Q E => ∃ a l, x = .int a ∧ y = .int l ∧ (¬ TbOk a l → ∀ H', Fr No H H' → eW K .noHall E H') ∧
  (TbOk a l → ∀ A H', TbK K H' A (Tb.new a.toNat l.toNat) → Fr No H H' → (∀ b, A.has b → H b = none) → Q (.ref A.p) H')
def HlOk (a l h : Int) : Prop := TbOk a l ∧ 1 ≤ h ∧ h ≤ 4
abbrev sp_h_init (K : PySem.W.Frag) : Sp := sp4 fun x y z u H Q E => ∃ p dx a l h, x = .ref p ∧ y = .int a ∧ z = .int l ∧ u = .int h ∧ H p = some (.ins (hlC K) dx []) ∧ (¬ HlOk a l h → ∀ H', Fr (Only1 p) H H' → eW K .noHall E H') ∧
  (HlOk a l h → ∀ A H', A.p = p → HlAt K H' A (Hl.fresh a.toNat l.toNat h.toNat) → Fr (Only1 p) H H' → (∀ b, A.has b → b ≠ p → H b = none) → Q .non H')
/-! ### steps -/
section
variable {K : PySem.W.Frag} {H : Hp} {Q : VK} {A : HlA} {M : Hl}
theorem h_modDn (h : HlAt K H A M) (O : M.Ok) {k : Nat} (q : Q (.bl (M.isDown k)) H) : rIxL K (.ref A.dn) (.int ((k : Int) % (M.dn.length : Int))) H Q := by
  have e : (k : Int) % (M.dn.length : Int) = ((k % M.dn.length : Nat) : Int) := by omega
  rw [e]
  exact h_ixDn h (Nat.mod_lt _ O.h1) q
end
namespace Hl
variable {M : Hl}
theorem own_d (a : Nat) : (M.own a).d = .tuple [.int (a : Int), .int (M.t.ro a : Int), .int ((M.t.held a).length : Int)] := rfl
theorem seek_some {a l : Nat} (h : M.t.wa a = some l) : M.seek a = M.lay (.who [M.own a] l) := by
  unfold Hl.seek
  rw [h]
end Hl
end AL

namespace AL
open PySem PySem.Spec PyProof.Rows L2
/-! # paths: what the letters' readings need -/
section
variable {K : PySem.W.Frag} {H : Hp} {Q : VK}
theorem r_catP {a b : Addr} {vs : List V} {v : V} {p : Pth} {x : Pt} (ea : H a = some (.tup vs)) (av : TdAll H vs (p.map Pt.d)) (hp : p ≠ []) (eb : H b = some (.tup [v])) (tv : Td H v x.d) (hl : p.length ≤ 900) (q : ∀ u H', Td H' u (pathD (p ++ [x])) → Fr No H H' → Q u H') : rCatA K (.ref a) (.ref b) H Q := by
  have el : vs.length = p.length := by rw [av.len, List.length_map]
  refine ⟨a, b, _, _, rfl, rfl, SqT.of ea, SqT.of eb, ?_, fun e => ?_, (fun _ e => by cases e), fun _ _ c hc => ?_⟩
  · rw [el]
    exact Nat.le_of_lt (small2000 (by show _ + 1 ≤ 2000; omega))
  · rw [e] at el
    exact absurd (List.eq_nil_of_length_eq_zero el.symm) hp
  · have f : Fr No H (upd H c (.tup (vs ++ [v]))) := Fr.new hc
    refine q _ _ ?_ f
    show Td _ _ (.tuple ((p ++ [x]).map Pt.d))
    rw [List.map_append]
    exact .tup upd_same ((av.fr f).app (TdAll.one (tv.fr f)))
end
theorem head_getD (p : Pth) : p.getD 0 ⟨0, 0, 0⟩ = p.headD ⟨0, 0, 0⟩ := by cases p <;> rfl
theorem filter_one : ∀ {p : Pth} {x : Pt}, (p.map Pt.a).Nodup → x ∈ p → p.filter (fun y => decide (y.a = x.a)) = [x]
  | z :: r, x, nd, hx => by
    rw [List.map_cons, List.nodup_cons] at nd
    rcases List.mem_cons.mp hx with e | e
    · subst e
      rw [List.filter_cons, if_pos (by simp)]
      congr 1
      refine List.filter_eq_nil_iff.mpr fun y hy q => nd.1 ?_
      have := of_decide_eq_true q
      exact List.mem_map.mpr ⟨y, hy, this⟩
    · rw [List.filter_cons, if_neg (fun q => nd.1 (List.mem_map.mpr ⟨x, e, (of_decide_eq_true q).symm⟩))]
      exact filter_one nd.2 e
theorem pt_cmp (x : Pt) : x.d.canLay0 = true ∧ x.d.depth = 1 := by
  unfold Pt.d
  refine ⟨by simp [PyData.canLay0, PyData.canLayAll0], ?_⟩
  simp only [PyData.depth, PyData.depthAll]
  decide
theorem pts_all : ∀ p : Pth, PyData.canLayAll0 (p.map Pt.d) = true ∧ PyData.depthAll (p.map Pt.d) ≤ 1
  | [] => by simp [PyData.canLayAll0, PyData.depthAll]
  | x :: r => by
    obtain ⟨h1, h2⟩ := pts_all r
    obtain ⟨g1, g2⟩ := pt_cmp x
    refine ⟨by simp only [List.map_cons, PyData.canLayAll0, g1, h1, Bool.and_self], ?_⟩
    simp only [List.map_cons, PyData.depthAll, g2]
    omega
theorem path_cmp (p : Pth) : (pathD p).canLay0 = true ∧ (pathD p).depth ≤ 2 := by
  obtain ⟨h1, h2⟩ := pts_all p
  unfold pathD
  refine ⟨by simp only [PyData.canLay0]; exact h1, ?_⟩
  simp only [PyData.depth]
  omega
theorem path_shaped (p : Pth) : SeqAt.shaped (pathD p) = true := (show Cmp (pathD p) from ⟨(path_cmp p).1, Nat.le_trans (path_cmp p).2 (by decide)⟩).shaped
theorem tells_shaped (rs : List (Pth × Nat)) : SeqAt.shaped (.list (rs.map fun r => pathD r.1)) = true := (CmpAll.of fun d hd => by
  obtain ⟨r, _, rfl⟩ := List.mem_map.mp hd
  exact ⟨(path_cmp _).1, Nat.le_trans (path_cmp _).2 (by decide)⟩).shaped
/-- a told row -/
theorem tell_at {H : Hp} {v : V} {r : Pth × Nat} (h : Td H v (tellD r)) : ∃ a pv, v = .ref a ∧ H a = some (.tup [pv, .int (r.2 : Int)]) ∧ Td H pv (pathD r.1) := by
  obtain ⟨a, vs, rfl, e, h⟩ := td_ref h
  obtain ⟨v1, r1, rfl, t1, h⟩ := td_c h
  obtain ⟨v2, r2, rfl, t2, h⟩ := td_c h
  rw [td_n h, td_int t2] at e
  exact ⟨a, v1, rfl, e, t1⟩
end AL

namespace AL
open PySem PySem.Spec PyProof.Rows L2
/-! # exceptions that bear no other one -/
structure OkN (P : Program) (w : World) (K : PySem.W.Frag) (mg : Str → Option Value) (base : Heap) (k : Nat) (f : Addr) (ps : List Str) (sp : Sp) : Prop where
  ex : ∃ fd, FnOk P w K mg base (L2N.CX P w) k f fd ps sp ∧ Binds K fd ps []
  kp : PySem.W.keepIn K (.ref f) = true
theorem okN {P : Program} {w : World} {K : PySem.W.Frag} {mg : Str → Option Value} {base : Heap} {x qual : Str} {st : Stmt} {f : Addr} {N ps : List Str} {k : Nat} {sp : Sp} (F : DefAt K x qual st f) (S : FnScope N ps (defScope st))
    (hbi : ∀ (kV doc pm : Value) (an : Option Addr) (cdv ct : Value) (us : List Value), us.length = ps.length → bindArgs (PySem.W.fnOf x qual (defArgs st) (defBody st) (defScope st) .none kV doc pm an cdv ct) ⟨us, []⟩ = pure (ps.zip us))
    (len : ∀ vs H Q E, sp vs H Q E → vs.length = ps.length)
    (hbody : ∀ (cdv : Value) (A : Around) (outer : List Env) (s : Shared) (H : Hp) (vs : List V) (Q : VK) (E : XK), Room k (A.deeper (envOfC qual (defScope st) s.heap.objs.size f cdv)) → sp vs H Q E →
      ∃ t, PSs (cxOf (L2N.CX P w) P w K mg base N qual (defScope st) f cdv A outer s H E) (defBody st) t ∧ t { nx := fun _ H' => Q .non H', rt := Q } (start N vs) H) : OkN P w K mg base (k + 1) f ps sp := by
  obtain ⟨fd, F⟩ := F
  exact ⟨⟨fd, F.ok S len hbody, F.bindsN hbi⟩, F.kp⟩
theorem cx_n {P : Program} {w : World} {outer : List Env} {H : Hp} {s s' : Shared} {E : XK} {u : Value} (c : L2N.CX P w outer H s E u s') : L2.CX P w outer H s E u s' := by
  obtain ⟨a, B, H', cls, d, e, fl, hok, ub, na, os, ag, q⟩ := c
  exact ⟨a, B, H', cls, d, e, L2H.flyingZ_imp (fun o z => z.zc) fl, hok, ub, na, os, ag, q⟩
theorem pN {X : Cx} {E : XK} (h : Passes (L2.CX X.prog X.w) X E) : Passes (L2N.CX X.prog X.w) X E := fun pins σ H s e s' I c => h pins σ H s e s' I (cx_n c)
end AL

namespace AL
open PySem PySem.Spec PyProof.Rows L2
/-! # the promises of the law's own hall -/
abbrev sp_Lhall (K : PySem.W.Frag) : Sp := sp3 fun x y z H Q _ => ∃ n m k : Nat, x = .int (n : Int) ∧ y = .int (m : Int) ∧ z = .int (k : Int) ∧ (Tb.new n m).Sz ∧ k ≤ 4 ∧ ∃ bad : Addr → Prop, (∀ b, bad b → H b ≠ none) ∧
  ∀ B H', HmAt H' B (Hl.fresh n m k) → Fr No H H' → (∀ b, B.has b → H b = none) → (∀ b, B.t.bad b ↔ (B.has b ∨ bad b)) → Q (.ref B.d) H'
abbrev sp_Ldown (K : PySem.W.Frag) : Sp := sp2 fun x y H Q _ => ∃ B M, ∃ k : Nat, x = .ref B.d ∧ y = .int (k : Int) ∧ HmAt H B M ∧ M.Ok ∧ Q (.bl (M.isDown k)) H
abbrev sp_Lown (K : PySem.W.Frag) : Sp := sp2 fun x y H Q _ => ∃ B M, ∃ a : Nat, x = .ref B.d ∧ y = .int (a : Int) ∧ HmAt H B M ∧ M.Ok ∧ a < M.t.n ∧ ∀ v H', Td H' v (M.own a).d → Fr No H H' → Q v H'
abbrev sp_Lseek (K : PySem.W.Frag) : Sp := sp2 fun x y H Q _ => ∃ B M, ∃ a : Nat, x = .ref B.d ∧ y = .int (a : Int) ∧ HmAt H B M ∧ M.Ok ∧ a < M.t.n ∧ M.t.wa a ≠ none ∧ M.rd.length ≤ 2000 ∧ ∀ H', HmAt H' B (M.seek a) → Fr B.foot H H' → Q .non H'
abbrev sp_Lwaits_by (K : PySem.W.Frag) : Sp := sp3 fun x y z H Q _ => ∃ B M, ∃ a w : Nat, x = .ref B.d ∧ y = .int (a : Int) ∧ z = .int (w : Int) ∧ HmAt H B M ∧ a < M.t.n ∧ Q (.bl (M.by_ a w)) H
abbrev sp_Lcome (K : PySem.W.Frag) : Sp := sp2 fun x y H Q _ => ∃ B M p, ∃ a l h : Nat, x = .ref B.d ∧ HmAt H B M ∧ M.Ok ∧ Td H y (Lt.is p a l h).d ∧ POk M.t p ∧ a < M.t.n ∧ l < M.t.m ∧ M.rd.length ≤ 2000 ∧ ∀ H', HmAt H' B (M.come p a l h) → Fr B.foot H H' → Q .non H'
abbrev sp_Lstill (K : PySem.W.Frag) : Sp := sp3 fun x y z H Q _ => ∃ B M p, ∃ i : Nat, x = .ref B.d ∧ z = .int (i : Int) ∧ HmAt H B M ∧ M.Ok ∧ Td H y (pathD p) ∧ POk M.t p ∧ i < p.length ∧ M.rd.length ≤ 2000 ∧ M.tl.length ≤ 2000 ∧ ∀ H', HmAt H' B (M.still p i) → Fr B.foot H H' → Q .non H'
abbrev sp_Lhome (K : PySem.W.Frag) : Sp := sp1 fun y H Q _ => ∃ T X, Td H y (Lt.d X) ∧ LOk T X ∧ Q (.int (Hl.home X : Int)) H
abbrev sp_Lcarry (K : PySem.W.Frag) : Sp := sp2 fun x y H Q _ => ∃ B M, ∃ i : Nat, x = .ref B.d ∧ y = .int (i : Int) ∧ HmAt H B M ∧ M.Ok ∧ M.Few ∧ i < M.rd.length ∧ ∀ H', HmAt H' B (M.carry i) → Fr B.foot H H' → Q .non H'
abbrev sp_Lof_table (K : PySem.W.Frag) : Sp := sp2 fun x y H Q _ => ∃ B M p, ∃ dd : Hd, ∃ a l : Int, x = .ref B.d ∧ y = .ref p ∧ HmAt H B M ∧ M.Ok ∧ M.rd.length ≤ 2000 ∧ H p = some (.tup dd.vs) ∧ (dd = .ask a l ∨ dd = .give a l) ∧ ∀ H', HmAt H' B (M.deedR dd).2 → Fr B.foot H H' → Q (hoV (M.deedR dd).1) H'
abbrev sp_Lof_houses (K : PySem.W.Frag) : Sp := sp3 fun x y z H Q _ => ∃ B M, ∃ s : Bool, ∃ i : Int, x = .ref B.d ∧ y = .str (if s = true then "stop" else "rise") ∧ z = .int i ∧ HmAt H B M ∧ ∀ H', HmAt H' B (M.deedR (if s = true then .stop i else .rise i)).2 → Fr B.foot H H' → Q (hoV (M.deedR (if s = true then .stop i else .rise i)).1) H'
abbrev sp_Lhdue (K : PySem.W.Frag) : Sp := sp2 fun x y H Q _ => ∃ B M p, ∃ dd : Hd, x = .ref B.d ∧ y = .ref p ∧ HmAt H B M ∧ M.Ok ∧ M.Few ∧ H p = some (.tup dd.vs) ∧ ∀ H', HmAt H' B (M.deedR dd).2 → Fr B.foot H H' → Q (hoV (M.deedR dd).1) H'
abbrev sp_Lhdoes (K : PySem.W.Frag) : Sp := sp2 fun x y H Q E => ∃ A M p, ∃ dd : Hd, x = .ref A.p ∧ y = .ref p ∧ HlAt K H A M ∧ M.Ok ∧ M.Few ∧ H p = some (.tup dd.vs) ∧ (∀ w, (M.deedR dd).1 = .error w → eW K w E H) ∧
  ∀ o H', (M.deedR dd).1 = .ok o → HlAt K H' A (M.deedR dd).2 → Fr A.foot H H' → Q o.v H'
section
variable {K : PySem.W.Frag} {H : Hp} {Q : VK} {B : HmA} {M : Hl}
theorem m_modDn (h : HmAt H B M) (O : M.Ok) {k : Nat} (q : Q (.bl (M.isDown k)) H) : rIxL K (.ref B.dn) (.int ((k : Int) % (M.dn.length : Int))) H Q := by
  have e : (k : Int) % (M.dn.length : Int) = ((k % M.dn.length : Nat) : Int) := by omega
  rw [e]
  exact m_ixDn h (Nat.mod_lt _ O.h1) q
end
end AL

namespace AL
open PySem PySem.Spec PyProof.Rows L2
/-! # sorted of triples: the first one -/
def rSort3 (K : PySem.W.Frag) : List V → Hp → VK → Prop := fun vs H Q => ∃ B, rSortU K 3 B vs H Q
theorem k_sort3 {X : Cx} {K : PySem.W.Frag} (hK : X.K = K) : CallR X (.builtin "sorted") (rSort3 K) := by
  subst hK
  intro pins s σ H vs us Q J r h
  obtain ⟨B, h⟩ := h
  exact cr_sortT (by decide) pins s σ H vs us Q J r h
def keyD (x : Pt) : PyData := .tuple [.int (x.g : Int), .int (x.a : Int), .int (x.w : Int)]
theorem code3 (B x y z : Int) : TS.code B [x, y, z] = x * (B * B) + y * B + z := by
  have e2 : B ^ 2 = B * B := by rw [Int.pow_succ, Int.pow_succ, Int.pow_zero, Int.one_mul]
  have e1 : B ^ 1 = B := by rw [Int.pow_succ, Int.pow_zero, Int.one_mul]
  have e0 : B ^ 0 = 1 := Int.pow_zero B
  show x * B ^ 2 + (y * B ^ 1 + (z * B ^ 0 + 0)) = _
  rw [e2, e1, e0]
  omega
theorem code3_le {B g a w g' a' w' : Int} (h : g * (B * B) + a * B + w ≤ g' * (B * B) + a' * B + w') (a0 : 0 ≤ a) (w0 : 0 ≤ w) (b1 : a' < B) (b2 : w' < B) (b3 : 0 ≤ a') : g < g' ∨ (g = g' ∧ a ≤ a') := by
  have hB : 0 < B := by omega
  have hP : 0 ≤ B * B := Int.mul_nonneg (by omega) (by omega)
  have aB : 0 ≤ a * B := Int.mul_nonneg a0 (by omega)
  have a'B : a' * B ≤ B * B - B := by
    have := Int.mul_le_mul_of_nonneg_right (show a' ≤ B - 1 by omega) (show 0 ≤ B by omega)
    rw [Int.sub_mul, Int.one_mul] at this
    exact this
  rcases Int.lt_trichotomy g g' with z | z | z
  · exact .inl z
  · refine .inr ⟨z, ?_⟩
    subst z
    refine Int.le_of_not_gt fun k => ?_
    have := Int.mul_le_mul_of_nonneg_right (show a' + 1 ≤ a by omega) (show 0 ≤ B by omega)
    rw [Int.add_mul, Int.one_mul] at this
    omega
  · have := Int.mul_le_mul_of_nonneg_right (show g' + 1 ≤ g by omega) hP
    rw [Int.add_mul, Int.one_mul] at this
    omega
theorem key_at {H : Hp} {v : V} {x : Pt} (h : Td H v (keyD x)) : ∃ t, v = .ref t ∧ H t = some (.tup [.int (x.g : Int), .int (x.a : Int), .int (x.w : Int)]) := by
  obtain ⟨a, vs, rfl, e, h⟩ := td_ref h
  obtain ⟨v1, r1, rfl, t1, h⟩ := td_c h
  obtain ⟨v2, r2, rfl, t2, h⟩ := td_c h
  obtain ⟨v3, r3, rfl, t3, h⟩ := td_c h
  rw [td_n h, td_int t1, td_int t2, td_int t3] at e
  exact ⟨a, rfl, e⟩
theorem big_of : ∀ p : Pth, ∃ B : Nat, ∀ x ∈ p, x.g < B ∧ x.a < B ∧ x.w < B
  | [] => ⟨0, fun x hx => by cases hx⟩
  | x :: r => by
    obtain ⟨B, h⟩ := big_of r
    refine ⟨B + x.g + x.a + x.w + 1, fun y hy => ?_⟩
    rcases List.mem_cons.mp hy with e | e
    · rw [e]; omega
    · have := h y e; omega
/-- the tuple of ints at t is one -/
theorem tupI_one {K : PySem.W.Frag} {H : Hp} {t : Addr} {xs : List Int} {ns : List Int} (e : H t = some (.tup (xs.map V.int))) : TupI K H (.ref t) xs := ⟨t, rfl, SqT.of e⟩
theorem r_sortBest {K : PySem.W.Frag} {H : Hp} {Q : VK} {a : Addr} {p : Pth} (h : LsAt H a (p.map keyD)) (nd : (p.map Pt.a).Nodup) (hp : p ≠ []) (hl : p.length ≤ 8)
    (q : ∀ c H' ys t, H c = none → H' c = some (.lst (.ref t :: ys)) → H' t = some (.tup [.int ((bestP p).g : Int), .int ((bestP p).a : Int), .int ((bestP p).w : Int)]) → Fr No H H' → Q (.ref c) H') : rSort3 K [.ref a] H Q := by
  obtain ⟨B, hB⟩ := big_of p
  obtain ⟨vs, e, av⟩ := h
  have hvl : vs.length = p.length := by rw [av.len, List.length_map]
  have back : ∀ v ∈ vs, ∃ x ∈ p, ∃ t, v = .ref t ∧ H t = some (.tup [.int (x.g : Int), .int (x.a : Int), .int (x.w : Int)]) := fun v hv => by
    obtain ⟨i, hi, ei⟩ := List.mem_iff_getElem.mp hv
    have hi2 : i < p.length := by omega
    obtain ⟨u, eu, tu⟩ := av.at (i := i) (d := keyD p[i]) (by rw [List.getElem?_map, List.getElem?_eq_getElem hi2]; rfl)
    rw [List.getElem?_eq_getElem hi, ei] at eu
    cases eu
    obtain ⟨t, h1, h2⟩ := key_at tu
    exact ⟨p[i], List.getElem_mem hi2, t, h1, h2⟩
  have forth : ∀ x ∈ p, ∃ t, V.ref t ∈ vs ∧ H t = some (.tup [.int (x.g : Int), .int (x.a : Int), .int (x.w : Int)]) := fun x hx => by
    obtain ⟨i, hi, ei⟩ := List.mem_iff_getElem.mp hx
    obtain ⟨u, eu, tu⟩ := av.at (i := i) (d := keyD x) (by rw [List.getElem?_map, List.getElem?_eq_getElem hi, ei]; rfl)
    obtain ⟨t, rfl, h2⟩ := key_at tu
    exact ⟨t, List.mem_of_getElem? eu, h2⟩
  refine ⟨(B : Int), a, vs, rfl, SqL.of e, by omega, fun v hv => ?_, fun ys c perm pw hc => ?_⟩
  · obtain ⟨x, hx, t, rfl, et⟩ := back v hv
    obtain ⟨b1, b2, b3⟩ := hB x hx
    refine ⟨[(x.g : Int), (x.a : Int), (x.w : Int)], tupI_one (xs := [(x.g : Int), (x.a : Int), (x.w : Int)]) (ns := []) et, rfl, fun z hz => ?_⟩
    simp only [List.mem_cons, List.not_mem_nil, or_false] at hz
    rcases hz with e | e | e <;> rw [e] <;> constructor <;> omega
  · cases ys with
    | nil =>
      have := perm.length_eq
      rw [hvl] at this
      exact absurd (List.eq_nil_of_length_eq_zero this.symm) hp
    | cons y0 ys =>
      obtain ⟨x0, hx0, t0, rfl, et0⟩ := back y0 (perm.subset List.mem_cons_self)
      have le : ∀ z ∈ p, leP x0.k z.k := fun z hz => by
        obtain ⟨t, ht, et⟩ := forth z hz
        rcases List.mem_cons.mp (perm.symm.subset ht) with e1 | e1
        · have e2 : t = t0 := V.ref.inj e1
          rw [e2, et0] at et
          have e3 := Option.some.inj et
          injection e3 with e4
          simp only [List.cons.injEq, V.int.injEq, and_true] at e4
          unfold leP Pt.k
          simp only
          omega
        · have k := (List.pairwise_cons.mp pw).1 _ e1 _ _ (tupI_one (xs := [(x0.g : Int), (x0.a : Int), (x0.w : Int)]) (ns := []) et0) (tupI_one (xs := [(z.g : Int), (z.a : Int), (z.w : Int)]) (ns := []) et)
          rw [code3, code3] at k
          obtain ⟨b1, b2, b3⟩ := hB z hz
          have r := code3_le k (show (0 : Int) ≤ (x0.a : Int) by omega) (show (0 : Int) ≤ (x0.w : Int) by omega) (show (z.a : Int) < (B : Int) by omega) (show (z.w : Int) < (B : Int) by omega) (show (0 : Int) ≤ (z.a : Int) by omega)
          exact r
      have eb := best_one nd hx0 le
      refine q c _ ys t0 hc upd_same ?_ (Fr.new hc)
      rw [eb]
      exact (Fr.new hc : Fr No H _).tup _ _ et0
theorem tell_cmp (r : Pth × Nat) : (tellD r).canLay0 = true ∧ (tellD r).depth ≤ 3 := by
  obtain ⟨h1, h2⟩ := path_cmp r.1
  unfold tellD
  refine ⟨by simp [PyData.canLay0, PyData.canLayAll0, h1], ?_⟩
  simp only [PyData.depth, PyData.depthAll]
  omega
theorem tells_cmp (rs : List (Pth × Nat)) : CmpAll (rs.map tellD) := CmpAll.of fun d hd => by
  obtain ⟨r, _, rfl⟩ := List.mem_map.mp hd
  exact ⟨(tell_cmp r).1, Nat.le_trans (tell_cmp r).2 (by decide)⟩
end AL

namespace AL
open PySem PySem.Spec PyProof.Rows L2
/-! # the law's hall: drawing deeds, holding halls together -/
/-- the deed's numbers are small -/
def Hd.Sm (n m r h : Nat) : Hd → Prop
  | .ask a l => ∃ x y : Nat, a = (x : Int) ∧ l = (y : Int) ∧ x < n ∧ y < m
  | .give a l => ∃ x y : Nat, a = (x : Int) ∧ l = (y : Int) ∧ x < n ∧ y < m
  | .again => True
  | .carry i => ∃ x : Nat, i = (x : Int) ∧ x < max 1 r
  | .lose i => ∃ x : Nat, i = (x : Int) ∧ x < max 1 r
  | .double i => ∃ x : Nat, i = (x : Int) ∧ x < max 1 r
  | .stop i => ∃ x : Nat, i = (x : Int) ∧ x < h
  | .rise i => ∃ x : Nat, i = (x : Int) ∧ x < h
abbrev Hl.Sm (M : Hl) (dd : Hd) : Prop := dd.Sm M.t.n M.t.m M.rd.length M.dn.length
abbrev sp_Lasks (K : PySem.W.Frag) : Sp := sp2 fun x y H Q _ => ∃ st sc ns B M, x = .ref st ∧ y = .ref B.d ∧ StAt K H st sc ns ∧ ScF K sc ns (Only1 st) ∧ HmAt H B M ∧ B.t.bad st ∧ ¬ B.has st ∧
  ∀ p (dd : Hd) H', (∃ a l, dd = .ask a l ∨ dd = .give a l) → M.Sm dd → H p = none → H' p = some (.tup dd.vs) → StAt K H' st sc ns → Fr (Only1 st) H H' → Q (.ref p) H'
abbrev sp_Lhdeed (K : PySem.W.Frag) : Sp := sp2 fun x y H Q _ => ∃ st sc ns B M, x = .ref st ∧ y = .ref B.d ∧ StAt K H st sc ns ∧ ScF K sc ns (Only1 st) ∧ HmAt H B M ∧ M.Ok ∧ M.Few ∧ B.t.bad st ∧ ¬ B.has st ∧
  ∀ p (dd : Hd) H', M.Sm dd → H p = none → H' p = some (.tup dd.vs) → StAt K H' st sc ns → Fr (Only1 st) H H' → Q (.ref p) H'
abbrev sp_Lis_hall (K : PySem.W.Frag) : Sp := sp2 fun x y H Q _ => ∃ A B M, x = .ref A.p ∧ y = .ref B.d ∧ HlAt K H A M ∧ HmAt H B M ∧ M.Ok ∧ M.Few ∧ ∀ H', Fr No H H' → Q (.bl true) H'
abbrev sp_Lsizes (K : PySem.W.Frag) : Sp := sp1 fun x H Q _ => ∃ st sc ns, x = .ref st ∧ StAt K H st sc ns ∧ ScF K sc ns (Only1 st) ∧
  ∀ p (n m h : Nat) H', HlOk (n : Int) (m : Int) (h : Int) → H p = none → H' p = some (.tup [.int (n : Int), .int (m : Int), .int (h : Int)]) → StAt K H' st sc ns → Fr (Only1 st) H H' → Q (.ref p) H'
/-! ### the data of letters -/
section
variable {H : Hp} {v : V}
theorem dd_pt {x : Pt} (h : Td H v x.d) : Dd H v x.d := by
  obtain ⟨a, rfl, e⟩ := pt_at h
  exact .tup e (by show 3 ≤ 2000; decide) (.cons (.int _) (.cons (.int _) (.cons (.int _) .nil)))
theorem dd_pts : ∀ {p : Pth} {vs : List V}, TdAll H vs (p.map Pt.d) → DdAll H vs (p.map Pt.d)
  | [], _, h => by cases h; exact .nil
  | x :: r, _, h => by
    cases h with
    | cons a b => exact .cons (dd_pt a) (dd_pts b)
theorem dd_path {p : Pth} (h : Td H v (pathD p)) (hl : p.length ≤ 2000) : Dd H v (pathD p) := by
  obtain ⟨a, vs, rfl, e, t⟩ := path_at h
  exact .tup e (by rw [t.len, List.length_map]; exact hl) (dd_pts t)
theorem dd_lt {T : Tb} {X : Lt} (W : T.Wf) (k : LOk T X) (h : Td H v X.d) : Dd H v X.d := by
  cases k with
  | @who p l hp hl hs =>
    obtain ⟨a, pv, rfl, e, tp⟩ := who_at h
    exact .tup e (by show 3 ≤ 2000; decide) (.cons (.str _) (.cons (dd_path tp (by have := hp.len W; omega)) (.cons (.int _) .nil)))
  | @is p b l k hp hb hl hs =>
    obtain ⟨a, pv, rfl, e, tp⟩ := is_at h
    exact .tup e (by show 5 ≤ 2000; decide) (.cons (.str _) (.cons (dd_path tp (by have := hp.len W; omega)) (.cons (.int _) (.cons (.int _) (.cons (.int _) .nil)))))
  | @still p i hp hi =>
    obtain ⟨a, pv, rfl, e, tp⟩ := still_at h
    exact .tup e (by show 3 ≤ 2000; decide) (.cons (.str _) (.cons (dd_path tp (by have := hp.len W; omega)) (.cons (.int _) .nil)))
  | @brk b w hb =>
    obtain ⟨a, rfl, e⟩ := brk_at h
    exact .tup e (by show 3 ≤ 2000; decide) (.cons (.str _) (.cons (.int _) (.cons (.int _) .nil)))
theorem dd_tell {r : Pth × Nat} (h : Td H v (tellD r)) (hl : r.1.length ≤ 2000) : Dd H v (tellD r) := by
  obtain ⟨a, pv, rfl, e, tp⟩ := tell_at h
  exact .tup e (by show 2 ≤ 2000; decide) (.cons (dd_path tp hl) (.cons (.int _) .nil))
theorem brok_at {r : Nat × Nat} (h : Td H v (brokD r)) : ∃ a, v = .ref a ∧ H a = some (.tup [.int (r.1 : Int), .int (r.2 : Int)]) := by
  obtain ⟨a, vs, rfl, e, h⟩ := td_ref h
  obtain ⟨v1, r1, rfl, t1, h⟩ := td_c h
  obtain ⟨v2, r2, rfl, t2, h⟩ := td_c h
  rw [td_n h, td_int t1, td_int t2] at e
  exact ⟨a, rfl, e⟩
theorem dd_brok {r : Nat × Nat} (h : Td H v (brokD r)) : Dd H v (brokD r) := by
  obtain ⟨a, rfl, e⟩ := brok_at h
  exact .tup e (by show 2 ≤ 2000; decide) (.cons (.int _) (.cons (.int _) .nil))
theorem dd_all {α : Type} {f : α → PyData} : ∀ {xs : List α} {vs : List V}, (∀ x ∈ xs, ∀ v, Td H v (f x) → Dd H v (f x)) → TdAll H vs (xs.map f) → DdAll H vs (xs.map f)
  | [], _, _, h => by cases h; exact .nil
  | x :: r, _, k, h => by
    cases h with
    | cons a b => exact .cons (k x List.mem_cons_self _ a) (dd_all (fun y hy => k y (List.mem_cons_of_mem _ hy)) b)
theorem dd_road {p : Addr} {M : Hl} (O : M.Ok) (hl : M.rd.length ≤ 2000) (h : LsAt H p (M.rd.map Lt.d)) : Dd H (.ref p) (.list (M.rd.map Lt.d)) := by
  obtain ⟨vs, e, t⟩ := h
  exact .lst e (by rw [t.len, List.length_map]; exact hl) (dd_all (fun x hx v => dd_lt O.t (O.rd x hx)) t)
theorem dd_tells {p : Addr} {M : Hl} (O : M.Ok) (hl : M.tl.length ≤ 2000) (h : LsAt H p (M.tl.map tellD)) : Dd H (.ref p) (.list (M.tl.map tellD)) := by
  obtain ⟨vs, e, t⟩ := h
  exact .lst e (by rw [t.len, List.length_map]; exact hl) (dd_all (fun x hx v h => dd_tell h (by have := O.tl x hx; omega)) t)
theorem dd_broks {p : Addr} {rs : List (Nat × Nat)} (hl : rs.length ≤ 2000) (h : LsAt H p (rs.map brokD)) : Dd H (.ref p) (.list (rs.map brokD)) := by
  obtain ⟨vs, e, t⟩ := h
  exact .lst e (by rw [t.len, List.length_map]; exact hl) (dd_all (fun x hx v h => dd_brok h) t)
end
theorem depth_all {α : Type} {f : α → PyData} {k : Nat} : ∀ {xs : List α}, (∀ x ∈ xs, (f x).depth ≤ k) → PyData.depthAll (xs.map f) ≤ k
  | [], _ => by simp [PyData.depthAll]
  | x :: r, h => by
    have h1 := h x List.mem_cons_self
    have h2 := depth_all (xs := r) (f := f) (k := k) fun y hy => h y (List.mem_cons_of_mem _ hy)
    simp only [List.map_cons, PyData.depthAll]
    omega
theorem lt_depth (X : Lt) : X.d.depth ≤ 3 := by
  have key : ∀ p : Pth, (pathD p).depth ≤ 2 := fun p => (path_cmp p).2
  cases X with
  | who p l => have := key p; simp only [Lt.d, PyData.depth, PyData.depthAll]; omega
  | is p a l h => have := key p; simp only [Lt.d, PyData.depth, PyData.depthAll]; omega
  | still p i => have := key p; simp only [Lt.d, PyData.depth, PyData.depthAll]; omega
  | brk a w => simp only [Lt.d, PyData.depth, PyData.depthAll]; omega
theorem brok_depth (r : Nat × Nat) : (brokD r).depth ≤ 1 := by
  simp only [brokD, PyData.depth, PyData.depthAll]; omega
theorem hall_depth (M : Hl) : PyData.depth (.list [.list (M.rd.map Lt.d), .list (M.tl.map tellD), .list (M.br.map brokD)]) < 8 := by
  have h1 := depth_all (f := Lt.d) (k := 3) (xs := M.rd) fun x _ => lt_depth x
  have h2 := depth_all (f := tellD) (k := 3) (xs := M.tl) fun x _ => (tell_cmp x).2
  have h3 := depth_all (f := brokD) (k := 1) (xs := M.br) fun x _ => brok_depth x
  simp only [PyData.depth, PyData.depthAll]
  omega
theorem r_notInO {K : PySem.W.Frag} {H : Hp} {Q : VK} {p : Addr} {o : Option Nat} {a : Nat} (e : H p = some (.lst [.non, .int (a : Int)])) (q : Q (.bl (decide (o ≠ none ∧ o ≠ some a))) H) : rIn K true (oV o) (.ref p) H Q := by
  refine ⟨p, _, rfl, .inl (SqL.of e), flat_o o, rfl, ?_⟩
  have e2 : (!inV (oV o) [.non, .int (a : Int)]) = decide (o ≠ none ∧ o ≠ some a) := by
    cases o with
    | none => simp [oV, inV, eqV]
    | some n =>
      by_cases h : n = a
      · subst h
        simp [oV, inV, eqV]
      · have h3 : ¬ (a : Int) = (n : Int) := by omega
        simp [oV, inV, eqV, h, h3]
  rw [if_pos rfl, e2]
  exact q
theorem max_one (b : Nat) : (if (b : Int) > 1 then (b : Int) else 1) = ((max 1 b : Nat) : Int) := by split <;> omega
/-! ### results -/
theorem hoV_dd {H : Hp} (r : Except Wd Ho) : Dd H (hoV r) (hoD r) := by
  cases r with
  | error w => exact .str _
  | ok o =>
    cases o with
    | b x => exact .bl x
    | o x => exact dd_o x
theorem hoD_depth (r : Except Wd Ho) : (hoD r).depth < 8 := by
  cases r with
  | error w => exact Nat.lt_of_le_of_lt (Nat.le_refl 0) (by decide)
  | ok o =>
    cases o with
    | b x => exact Nat.lt_of_le_of_lt (Nat.le_refl 0) (by decide)
    | o x => cases x <;> exact Nat.lt_of_le_of_lt (Nat.le_refl 0) (by decide)
namespace Hl
theorem deedR_same {M : Hl} {dd : Hd} {w : Wd} (h : (M.deedR dd).1 = .error w) : (M.deedR dd).2 = M := by
  cases dd with
  | ask a l =>
    have h : (M.askR a l).1 = .error w := h
    show (M.askR a l).2 = M
    unfold Hl.askR at h ⊢
    split at h
    · rfl
    · split at h
      · rename_i q; rw [if_pos q]
      · rename_i q
        rw [if_neg q]
        split at h
        · rfl
        · cases h
        · cases h
  | give a l =>
    have h : (M.giveR a l).1 = .error w := h
    show (M.giveR a l).2 = M
    unfold Hl.giveR at h ⊢
    split at h
    · rfl
    · split at h
      · rename_i q; rw [if_pos q]
      · rename_i q
        rw [if_neg q]
        split at h
        · rfl
        · cases h
  | again => cases h
  | carry i =>
    have h : (M.carryR i).1 = .error w := h
    show (M.carryR i).2 = M
    unfold Hl.carryR at h ⊢
    split at h
    · cases h
    · rename_i q; rw [if_neg q]
  | lose i =>
    have h : (M.loseR i).1 = .error w := h
    show (M.loseR i).2 = M
    unfold Hl.loseR at h ⊢
    split at h
    · cases h
    · rename_i q; rw [if_neg q]
  | double i =>
    have h : (M.doubleR i).1 = .error w := h
    show (M.doubleR i).2 = M
    unfold Hl.doubleR at h ⊢
    split at h
    · cases h
    · rename_i q; rw [if_neg q]
  | stop i =>
    have h : (M.stopR i).1 = .error w := h
    show (M.stopR i).2 = M
    unfold Hl.stopR at h ⊢
    split at h
    · rename_i q
      rw [if_pos q]
      split at h
      · rename_i q2; rw [if_pos q2]
      · cases h
    · rename_i q; rw [if_neg q]
  | rise i =>
    have h : (M.riseR i).1 = .error w := h
    show (M.riseR i).2 = M
    unfold Hl.riseR at h ⊢
    split at h
    · rename_i q
      rw [if_pos q]
      split at h
      · cases h
      · rename_i q2; rw [if_neg q2]
    · rename_i q; rw [if_neg q]
/-! ### how many letters, tellings, breakings -/
theorem upTo_len {M : Hl} : ∀ k : Nat, (M.upTo k).rd.length ≤ M.rd.length + k ∧ (M.upTo k).tl = M.tl ∧ (M.upTo k).br = M.br
  | 0 => ⟨Nat.le_refl _, rfl, rfl⟩
  | k + 1 => by
    obtain ⟨h1, h2, h3⟩ := upTo_len (M := M) k
    show (if M.t.wa k ≠ none ∧ M.isDown k = false then (M.upTo k).seek k else M.upTo k).rd.length ≤ _ ∧ (if M.t.wa k ≠ none ∧ M.isDown k = false then (M.upTo k).seek k else M.upTo k).tl = _ ∧ (if M.t.wa k ≠ none ∧ M.isDown k = false then (M.upTo k).seek k else M.upTo k).br = _
    split
    · unfold Hl.seek
      split
      · exact ⟨by omega, h2, h3⟩
      · refine ⟨?_, h2, h3⟩
        show ((M.upTo k).rd ++ [_]).length ≤ _
        rw [List.length_append]
        show _ + 1 ≤ _
        omega
    · exact ⟨by omega, h2, h3⟩
structure Le (M M' : Hl) (k : Nat) : Prop where
  rd : M'.rd.length ≤ M.rd.length + k
  tl : M'.tl.length ≤ M.tl.length + 1
  br : M'.br.length ≤ M.br.length + 1
theorem Le.refl {M : Hl} {k : Nat} : M.Le M k := ⟨Nat.le_add_right _ _, Nat.le_succ _, Nat.le_succ _⟩
theorem Le.lay {M : Hl} {x : Lt} : M.Le (M.lay x) 1 := ⟨by show (M.rd ++ [x]).length ≤ _; rw [List.length_append]; exact Nat.le_refl _, Nat.le_succ _, Nat.le_succ _⟩
theorem Le.seek {M : Hl} {a : Nat} : M.Le (M.seek a) 1 := by
  unfold Hl.seek
  split
  · exact Le.refl
  · exact Le.lay
theorem Le.read {M : Hl} (x : Lt) : M.Le (M.read x) 1 := by
  cases x with
  | who p l =>
    show M.Le (M.who p l) 1
    unfold Hl.who
    split
    · exact Le.refl
    · exact Le.lay
  | is p a l h =>
    show M.Le (M.come p a l h) 1
    unfold Hl.come
    split
    · exact Le.refl
    · split
      · exact Le.refl
      · split
        · split
          · exact Le.lay
          · exact Le.refl
        · split
          · exact Le.lay
          · exact Le.refl
  | still p i =>
    show M.Le (M.still p i) 1
    unfold Hl.still
    split
    · split
      · exact Le.lay
      · unfold Hl.tell
        split
        · exact Le.lay
        · have := (Le.lay (M := M) (x := .brk (bestP p).a (bestP p).w))
          refine ⟨this.rd, ?_, this.br⟩
          show (M.tl ++ [_]).length ≤ _
          rw [List.length_append]
          exact Nat.le_refl _
    · exact Le.refl
  | brk a w =>
    show M.Le (M.brk a w) 1
    unfold Hl.brk
    split
    · refine ⟨Nat.le_succ _, Nat.le_succ _, ?_⟩
      show (M.br ++ [_]).length ≤ _
      rw [List.length_append]
      exact Nat.le_refl _
    · exact Le.refl
theorem Le.carry {M : Hl} {i : Nat} (h : i < M.rd.length) : M.Le (M.carry i) 0 := by
  have hd : (M.drop i).rd.length + 1 = M.rd.length := by
    show (M.rd.eraseIdx i).length + 1 = _
    rw [List.length_eraseIdx, if_pos h]
    omega
  have d0 : M.Le (M.drop i) 0 := ⟨by omega, Nat.le_succ _, Nat.le_succ _⟩
  unfold Hl.carry
  split
  · exact Le.refl
  · split
    · exact d0
    · rename_i x _ _
      have k := Le.read (M := M.drop i) x
      refine ⟨by have := k.rd; omega, k.tl, k.br⟩
theorem Le.deedR {M : Hl} (hn : M.t.n ≤ 8) (dd : Hd) : M.Le (M.deedR dd).2 8 := by
  have up : ∀ {M' : Hl} {j : Nat}, M.Le M' j → j ≤ 8 → M.Le M' 8 := fun h hj => ⟨by have := h.rd; omega, h.tl, h.br⟩
  have dr : ∀ i, M.Le (M.drop i) 8 := fun i => ⟨by have := List.length_eraseIdx_le M.rd i; show (M.rd.eraseIdx i).length ≤ _; omega, Nat.le_succ _, Nat.le_succ _⟩
  cases dd with
  | ask a l =>
    show M.Le (M.askR a l).2 8
    unfold Hl.askR
    split
    · exact Le.refl
    · split
      · exact Le.refl
      · split
        · exact Le.refl
        · exact ⟨Nat.le_add_right _ _, Nat.le_succ _, Nat.le_succ _⟩
        · rename_i T _
          have k := Le.seek (M := { M with t := T }) (a := a.toNat)
          exact up (M' := ({ M with t := T } : Hl).seek a.toNat) (j := 1) ⟨k.rd, k.tl, k.br⟩ (by omega)
  | give a l =>
    show M.Le (M.giveR a l).2 8
    unfold Hl.giveR
    split
    · exact Le.refl
    · split
      · exact Le.refl
      · split
        · exact Le.refl
        · exact ⟨Nat.le_add_right _ _, Nat.le_succ _, Nat.le_succ _⟩
  | again =>
    show M.Le (M.upTo M.t.n) 8
    obtain ⟨h1, h2, h3⟩ := upTo_len (M := M) M.t.n
    exact ⟨by omega, by rw [h2]; omega, by rw [h3]; omega⟩
  | carry i =>
    show M.Le (M.carryR i).2 8
    unfold Hl.carryR
    split
    · rename_i q
      exact up (Le.carry (by have := q.1; have := q.2; omega)) (by omega)
    · exact Le.refl
  | lose i =>
    show M.Le (M.loseR i).2 8
    unfold Hl.loseR
    split
    · exact dr _
    · exact Le.refl
  | double i =>
    show M.Le (M.doubleR i).2 8
    unfold Hl.doubleR
    split
    · exact up Le.lay (by omega)
    · exact Le.refl
  | stop i =>
    show M.Le (M.stopR i).2 8
    unfold Hl.stopR Hl.set
    split
    · split
      · exact Le.refl
      · exact ⟨Nat.le_add_right _ _, Nat.le_succ _, Nat.le_succ _⟩
    · exact Le.refl
  | rise i =>
    show M.Le (M.riseR i).2 8
    unfold Hl.riseR Hl.set
    split
    · split
      · exact ⟨Nat.le_add_right _ _, Nat.le_succ _, Nat.le_succ _⟩
      · exact Le.refl
    · exact Le.refl
end Hl
end AL

namespace AL
open PySem PySem.Spec PyProof.Rows L2
/-! # the hall laws' loop: the hall, the law's own, the state of drawing -/
structure HwS (K : PySem.W.Frag) (A : HlA) (B : HmA) (st sc : Addr) (ns : List Int) : Prop where
  ad : ∀ b, A.has b → ¬ B.has b
  ab : ∀ b, A.has b → B.t.bad b
  sb : B.t.bad st
  sd : ¬ B.has st
  sa : ¬ A.has st
  ob : ∀ b, B.has b → B.t.bad b
  bo : ∀ b, B.t.bad b → B.has b ∨ A.has b ∨ b = st
  fa : ScF K sc ns A.foot
  fd : ScF K sc ns B.foot
  fs : ScF K sc ns (Only1 st)
structure Hw (K : PySem.W.Frag) (A : HlA) (B : HmA) (st sc : Addr) (ns : List Int) (Ts : List (Addr × Str)) (M N : Hl) (H : Hp) : Prop where
  hl : HlAt K H A M
  hm : HmAt H B N
  st : StAt K H st sc ns
  ts : LamX.Tabs Ts H
section
variable {K : PySem.W.Frag} {A : HlA} {B : HmA} {st sc : Addr} {ns : List Int} {Ts : List (Addr × Str)} {M M' N N' : Hl} {H H' : Hp}
theorem Hw.fr0 (h : Hw K A B st sc ns Ts M N H) (f : Fr No H H') : Hw K A B st sc ns Ts M N H' := ⟨h.hl.fr0 f, h.hm.fr0 f, h.st.fr0 f, tabs_fr h.ts f old_no⟩
theorem Hw.frS (s : HwS K A B st sc ns) (h : Hw K A B st sc ns Ts M N H) (f : Fr (Only1 st) H H') (hs : StAt K H' st sc ns) : Hw K A B st sc ns Ts M N H' := by
  obtain ⟨xs, e⟩ := h.st.lst
  exact ⟨h.hl.fr f fun b hb z => s.sa (z ▸ hb), h.hm.fr f (fun b hb => hb ▸ s.sb) (fun b hb z => s.sd (z ▸ hb)), hs, tabs_fr h.ts f (old_one e)⟩
theorem Hw.bad (s : HwS K A B st sc ns) (h : Hw K A B st sc ns Ts M N H) : ∀ b, B.t.bad b → ∃ o, H b = some o ∧ ∀ ps, o ≠ .tbl ps := fun b hb => by
  rcases s.bo b hb with z | z | z
  · obtain ⟨o, e, _, n⟩ := h.hm.old z
    exact ⟨o, e, n⟩
  · obtain ⟨o, e, _, n⟩ := h.hl.old z
    exact ⟨o, e, n⟩
  · rw [z]
    obtain ⟨xs, e⟩ := h.st.lst
    exact ⟨_, e, fun xs z => by cases z⟩
theorem Hw.ext (s : HwS K A B st sc ns) (h : Hw K A B st sc ns Ts M N H) (e : LamX.ExtN H H') (t : LamX.Tabs Ts H') : Hw K A B st sc ns Ts M N H' := ⟨h.hl.ext e, h.hm.ext e (h.bad s), h.st.ext e, t⟩
/-- the law's hall is another one -/
theorem Hw.due (s : HwS K A B st sc ns) (h : Hw K A B st sc ns Ts M N H) (f : Fr B.foot H H') (hm : HmAt H' B N') : Hw K A B st sc ns Ts M N' H' :=
  ⟨h.hl.fr f (fun b hb z => s.ad b hb (HmA.has_foot z)), hm, h.st.fr f (fun z => s.sd (HmA.has_foot z)) s.fd, tabs_fr h.ts f (hm_old_foot h.hm)⟩
/-- the program's hall is another one -/
theorem Hw.done (s : HwS K A B st sc ns) (h : Hw K A B st sc ns Ts M N H) (f : Fr A.foot H H') (hl : HlAt K H' A M') : Hw K A B st sc ns Ts M' N H' :=
  ⟨hl, h.hm.fr f (fun b hb => s.ab _ (HlA.has_foot hb)) (fun b hb z => s.ad b (HlA.has_foot z) hb), h.st.fr f (fun z => s.sa (HlA.has_foot z)) s.fa, tabs_fr h.ts f (hl_old_foot h.hl)⟩
end
theorem r_kindHDoes {K : PySem.W.Frag} {A : HlA} {M : Hl} {p : Addr} {dd : Hd} {i j : Nat} {σ : L2.St} {H : Hp} {Q : VK} (hi : σ[i]? = some (some (.ref A.p))) (hj : σ[j]? = some (some (.ref p))) (hA : HlAt K H A M) (hO : M.Ok) (hF : M.Few) (hp : H p = some (.tup dd.vs))
    (q : ∀ H', HlAt K H' A (M.deedR dd).2 → Fr A.foot H H' → Q (hoV (M.deedR dd).1) H') : TKind K (fun E H' Q' => tCall (sp_Lhdoes K) [] E (tCons (tVar i) (tCons (tVar j) tNil)) σ H' Q') H Q := by
  refine ⟨_, hi, _, hj, ?_⟩
  refine ⟨_, _, rfl, A, M, p, dd, rfl, rfl, hA, hO, hF, hp, fun w ew => ?_, fun o H' eo hA' f => ?_⟩
  · refine ⟨rfl, w, rfl, fun H2 f => ?_⟩
    have k := q H2 (by rw [Hl.deedR_same ew]; exact hA.fr0 f) f.up
    rw [ew] at k
    exact k
  · have k := q H' hA' f
    rw [eo] at k
    exact k
/-! ### law k07 -/
abbrev sp_Lfar (K : PySem.W.Frag) : Sp := sp2 fun x y H Q _ => ∃ st sc ns, ∃ m : Int, x = .ref st ∧ y = .int m ∧ StAt K H st sc ns ∧ ScF K sc ns (Only1 st) ∧ ∀ (r : Int) H', (r < 0 ∨ m < r) → StAt K H' st sc ns → Fr (Only1 st) H H' → Q (.int r) H'
abbrev sp_Lodd (K : PySem.W.Frag) : Sp := sp2 fun x y H Q _ => ∃ st sc ns B M, x = .ref st ∧ y = .ref B.d ∧ StAt K H st sc ns ∧ ScF K sc ns (Only1 st) ∧ HmAt H B M ∧ M.Ok ∧ M.Few ∧ B.t.bad st ∧ ¬ B.has st ∧
  ∀ p (dd : Hd) H', H' p = some (.tup dd.vs) → StAt K H' st sc ns → Fr (Only1 st) H H' → Q (.ref p) H'
/-- what a told list is, and may become -/
theorem Hl.Few.of {M : Hl} {a : Nat} (h : M.rd.length ≤ a ∧ M.tl.length ≤ a ∧ M.br.length ≤ a) (ha : a ≤ 1980) : M.Few := ⟨by omega, by omega, by omega⟩
end AL

namespace AL
open PySem PySem.Spec PyProof.Rows L2
/-! # halls: what the letters are good for (no program in sight) -/
namespace Tb
/-- the agent waits by the number -/
def Cur (T : Tb) (x : Pt) : Prop := T.wa x.a ≠ none ∧ T.ro x.a = x.w
instance (T : Tb) (x : Pt) : Decidable (T.Cur x) := by unfold Cur; infer_instance
/-- later: who waits still by its number holds what it held -/
structure Onw (T T' : Tb) : Prop extends T.On T' where
  hd : ∀ a, T'.wa a ≠ none → T'.ro a = T.ro a → T'.held a = T.held a
variable {T T' T2 : Tb} {a b l : Nat}
theorem Onw.refl : T.Onw T := ⟨On.refl, fun _ _ _ => rfl⟩
theorem held_of (hm : T'.m = T.m) (h : ∀ l, T'.ow l = some a ↔ T.ow l = some a) : T'.held a = T.held a := by
  unfold held
  rw [hm]
  refine List.filter_congr fun l _ => ?_
  rw [decide_eq_decide]
  exact h l
theorem Onw.of (W' : T'.Wf) (o : T.On T') (h : ∀ l, T'.ow l = T.ow l ∨ ((∀ c, T'.ow l = some c → T.wa c = some l ∨ T'.wa c = none) ∧ ∀ c, T.ow l = some c → T'.wa c = none)) : T.Onw T' := ⟨o, fun a hw hr => held_of o.m fun l => by
  have ew := o.wa a hw hr
  rcases h l with q | ⟨q1, q2⟩
  · rw [q]
  · constructor
    · intro z
      rcases q1 a z with k | k
      · rw [← ew] at k
        exact absurd z (W'.no a l k)
      · exact absurd k hw
    · intro z
      exact absurd (q2 a z) hw⟩
theorem Onw.askR (W : T.Wf) {x y : Int} : T.Onw (T.askR x y).2 := by
  refine Onw.of W.askR (On.askR W) fun k => ?_
  cases h : T.fault x y with
  | some w => rw [askR_err h]; exact .inl rfl
  | none =>
    obtain ⟨a, l, rfl, rfl, ha, hl⟩ := fault_none h
    rw [askR_nat ha hl]
    split
    · exact .inl rfl
    · rename_i hw
      split
      · exact .inl rfl
      · split
        · rename_i hf
          show (T.take a l).ow k = T.ow k ∨ _
          rw [take_ow]
          split
          · rename_i q
            refine .inr ⟨fun c hc => .inr ?_, fun c hc => ?_⟩
            · show (T.take a l).wa c = none
              rw [take_wa, ← Option.some.inj hc]
              exact Decidable.not_not.mp hw
            · rw [← q.1, hf] at hc; cases hc
          · exact .inl rfl
        · exact .inl rfl
theorem Onw.giveR (W : T.Wf) {x y : Int} : T.Onw (T.giveR x y).2 := by
  refine Onw.of W.giveR (On.giveR W) fun k => ?_
  cases h : T.fault x y with
  | some w => rw [giveR_err h]; exact .inl rfl
  | none =>
    obtain ⟨a, l, rfl, rfl, ha, hl⟩ := fault_none h
    rw [giveR_nat ha hl]
    split
    · exact .inl rfl
    · rename_i hw
      have hw := Decidable.not_not.mp hw
      split
      · exact .inl rfl
      · rename_i ho
        have ho := Decidable.not_not.mp ho
        show (T.pass l).ow k = T.ow k ∨ _
        rw [pass_ow hl]
        split
        · rename_i q
          refine .inr ⟨fun c hc => .inl ?_, fun c hc => ?_⟩
          · rw [← q]; exact (W.lw l c (heir_mem hc)).2
          · rw [← q, ho] at hc
            show (T.pass l).wa c = none
            rw [pass_wa W]
            split
            · rfl
            · rw [← Option.some.inj hc]; exact hw
        · exact .inl rfl
theorem leave_wa0 (W : T.Wf) (ha : a < T.n) : (T.leave a).2.wa a = none := by
  refine Decidable.byContradiction fun z => ?_
  have e := passAll_wa _ (W.unwait ha) (fun l hl => held_lt hl) a z
  have e2 : (T.leave a).2.wa a = (T.unwait a).wa a := e
  rw [e2, unwait_wa ha, if_pos rfl] at z
  exact z rfl
theorem leave_ro : (T.leave a).2.ro b = T.ro b := by
  show (passAll _ _).2.ro b = _
  rw [passAll_ro, unwait_ro]
theorem leave_ow (W : T.Wf) (ha : a < T.n) (k : Nat) : (T.ow k = some a → (T.leave a).2.ow k = (T.unwait a).heir k) ∧ (T.ow k ≠ some a → (T.leave a).2.ow k = T.ow k) := by
  have Wu := W.unwait ha
  obtain ⟨h1, h2⟩ := passAll_ow ((T.unwait a).held a) Wu.sz held_nd (fun l hl => held_lt hl) k
  constructor
  · intro z
    exact h1 (mem_held.mpr (by rw [unwait_ow]; exact z))
  · intro z
    refine (h2 fun q => z ?_).trans unwait_ow
    have := mem_held.mp q
    rw [unwait_ow] at this
    exact this
theorem Onw.leave (W : T.Wf) (ha : a < T.n) : T.Onw (T.leave a).2 := by
  refine Onw.of (W.leave ha) (On.leave W ha) fun k => ?_
  obtain ⟨h1, h2⟩ := leave_ow W ha k
  by_cases z : T.ow k = some a
  · refine .inr ⟨fun c hc => .inl ?_, fun c hc => ?_⟩
    · rw [h1 z] at hc
      have e := ((W.unwait ha).lw k c (heir_mem hc)).2
      rw [unwait_wa ha] at e
      split at e
      · cases e
      · exact e
    · rw [z] at hc
      rw [← Option.some.inj hc]
      exact leave_wa0 W ha
  · exact .inl (h2 z)
/-! ### who stands in a ring waits on -/
def Kept (T T' : Tb) (b : Option Nat) : Prop := ∀ r, T.Ring r → (∀ c, b = some c → c ∉ r) → ∀ x ∈ r, T'.wa x = T.wa x ∧ T'.ro x = T.ro x
theorem Kept.refl : T.Kept T b := fun _ _ _ _ _ => ⟨rfl, rfl⟩
theorem kept_askR (W : T.Wf) {x y : Int} : T.Kept (T.askR x y).2 none := by
  intro r R _ z hz
  cases h : T.fault x y with
  | some w => rw [askR_err h]; exact ⟨rfl, rfl⟩
  | none =>
    obtain ⟨a, l, rfl, rfl, ha, hl⟩ := fault_none h
    rw [askR_nat ha hl]
    split
    · exact ⟨rfl, rfl⟩
    · rename_i hw
      have hw := Decidable.not_not.mp hw
      split
      · exact ⟨rfl, rfl⟩
      · split
        · exact ⟨rfl, rfl⟩
        · have ne : a ≠ z := fun q => R.waits hz (q ▸ hw)
          exact ⟨by show (T.wait a l).wa z = _; rw [wait_wa, if_neg (fun q => ne q.1)], by show (T.wait a l).ro z = _; rw [wait_ro, if_neg (fun q => ne q.1)]⟩
theorem kept_pass (W : T.Wf) {r : List Nat} (R : T.Ring r) (ho : ∀ c, T.ow l = some c → c ∉ r) {z : Nat} (hz : z ∈ r) : T.heir l ≠ some z := fun q => by
  have e := (W.lw l z (heir_mem q)).2
  obtain ⟨y, hy, e2⟩ := R.next hz
  rw [nx_wa e] at e2
  exact ho y e2 hy
theorem kept_giveR (W : T.Wf) {x y : Int} : T.Kept (T.giveR x y).2 none := by
  intro r R _ z hz
  cases h : T.fault x y with
  | some w => rw [giveR_err h]; exact ⟨rfl, rfl⟩
  | none =>
    obtain ⟨a, l, rfl, rfl, ha, hl⟩ := fault_none h
    rw [giveR_nat ha hl]
    split
    · exact ⟨rfl, rfl⟩
    · rename_i hw
      have hw := Decidable.not_not.mp hw
      split
      · exact ⟨rfl, rfl⟩
      · rename_i ho
        have ho := Decidable.not_not.mp ho
        refine ⟨?_, pass_ro⟩
        show (T.pass l).wa z = _
        rw [pass_wa W, if_neg]
        exact kept_pass W R (fun c hc q => by rw [ho] at hc; exact R.waits q (Option.some.inj hc ▸ hw)) hz
theorem passAll_keep : ∀ (ls : List Nat) {T : Tb}, T.Wf → (∀ l ∈ ls, l < T.m) → ls.Nodup → ∀ z, (∀ l ∈ ls, T.heir l ≠ some z) → (passAll ls T).2.wa z = T.wa z
  | [], T, _, _, _, z, _ => rfl
  | k :: ls, T, W, hm, nd, z, h => by
    obtain ⟨n1, n2⟩ := List.nodup_cons.mp nd
    have hk := hm k List.mem_cons_self
    have e := passAll_keep ls (W.pass hk) (fun l hl => by rw [pass_m]; exact hm l (List.mem_cons_of_mem _ hl)) n2 z (fun l hl => by
      rw [pass_heir W.sz hk (fun q => n1 (by rw [q]; exact hl))]
      exact h l (List.mem_cons_of_mem _ hl))
    show (passAll ls (T.pass k)).2.wa z = _
    rw [e, pass_wa W, if_neg (h k List.mem_cons_self)]
theorem kept_leave (W : T.Wf) (ha : a < T.n) : T.Kept (T.leave a).2 (some a) := by
  intro r R nb z hz
  have na := nb a rfl
  refine ⟨?_, leave_ro⟩
  have nz : a ≠ z := fun q => na (q ▸ hz)
  have Ru := (ring_unwait W ha r).mpr ⟨R, na⟩
  have e := passAll_keep ((T.unwait a).held a) (W.unwait ha) (fun l hl => held_lt hl) held_nd z (fun l hl => kept_pass (W.unwait ha) Ru (fun c hc q => by
    rw [mem_held.mp hl] at hc
    exact na (by rw [Option.some.inj hc]; exact q)) hz)
  show (passAll _ _).2.wa z = _
  rw [e, unwait_wa ha, if_neg nz]
/-! ### paths -/
theorem Cur.back {x : Pt} (o : T.On T') (le : x.w ≤ T.ro x.a) (c : T'.Cur x) : T.Cur x ∧ T'.ro x.a = T.ro x.a ∧ T'.wa x.a = T.wa x.a := by
  have h1 := o.ro x.a
  have h2 := c.2
  have e : T'.ro x.a = T.ro x.a := by omega
  have ew := o.wa x.a c.1 e
  exact ⟨⟨by rw [← ew]; exact c.1, by omega⟩, e, ew⟩
/-- each of the path, as long as both wait by their numbers, waits for the next one -/
def Con (T : Tb) : Pth → Prop
  | [] => True
  | [_] => True
  | x :: y :: r => (T.Cur x → T.Cur y → T.nx x.a = some y.a) ∧ Con T (y :: r)
structure PI (T : Tb) (p : Pth) : Prop extends POk T p where
  mx : ∀ y ∈ p.tail, y.a < (p.headD ⟨0, 0, 0⟩).a
  wt : ∀ x ∈ p, T.Cur x → x.g = (T.held x.a).length
  cn : Con T p
theorem Onw.nx {x y : Pt} (o : T.Onw T') (lx : x.w ≤ T.ro x.a) (ly : y.w ≤ T.ro y.a) (cx : T'.Cur x) (cy : T'.Cur y) (h : T.nx x.a = some y.a) : T'.nx x.a = some y.a := by
  obtain ⟨_, e1, e2⟩ := Cur.back o.toOn lx cx
  obtain ⟨_, e3, e4⟩ := Cur.back o.toOn ly cy
  obtain ⟨k, h1, h2⟩ := nx_some h
  rw [nx_wa (e2.trans h1)]
  have hk : k ∈ T.held y.a := mem_held.mpr h2
  rw [← o.hd y.a cy.1 e3] at hk
  exact mem_held.mp hk
theorem Con.on (o : T.Onw T') : ∀ {p : Pth}, (∀ x ∈ p, x.w ≤ T.ro x.a) → Con T p → Con T' p
  | [], _, _ => True.intro
  | [_], _, _ => True.intro
  | x :: y :: r, le, h => ⟨fun cx cy => o.nx (le x (by simp)) (le y (by simp)) cx cy (h.1 (Cur.back o.toOn (le x (by simp)) cx).1 (Cur.back o.toOn (le y (by simp)) cy).1), Con.on o (p := y :: r) (fun z hz => le z (List.mem_cons_of_mem _ hz)) h.2⟩
theorem PI.on {p : Pth} (o : T.Onw T') (h : PI T p) : PI T' p := ⟨o.toOn.pok h.toPOk, h.mx, fun x hx c => by
  obtain ⟨c0, e1, _⟩ := Cur.back o.toOn (h.le x hx) c
  rw [h.wt x hx c0, o.hd x.a c.1 e1], h.cn.on o h.le⟩
/-- the last waits for the first -/
def Cl (T : Tb) (p : Pth) : Prop := ∀ x y, p.getLast? = some x → p.head? = some y → T.Cur x → T.Cur y → T.nx x.a = some y.a
theorem Cl.on {p : Pth} (o : T.Onw T') (le : ∀ x ∈ p, x.w ≤ T.ro x.a) (h : Cl T p) : Cl T' p := fun x y hx hy cx cy => by
  have mx := List.mem_of_getLast? hx
  have my := List.mem_of_head? hy
  exact o.nx (le x mx) (le y my) cx cy (h x y hx hy (Cur.back o.toOn (le x mx) cx).1 (Cur.back o.toOn (le y my) cy).1)
theorem con_lk : ∀ {p : Pth} {h : Option Nat}, p ≠ [] → Con T p → (∀ x ∈ p, T.Cur x) → (∀ x, p.getLast? = some x → T.nx x.a = h) → Lk T (p.map Pt.a) h
  | [x], h, _, _, _, hl => hl x rfl
  | x :: y :: r, h, _, c, cu, hl => ⟨c.1 (cu x (by simp)) (cu y (by simp)), con_lk (p := y :: r) (by simp) c.2 (fun z hz => cu z (List.mem_cons_of_mem _ hz)) (fun z hz => hl z (by rw [List.getLast?_cons_cons]; exact hz))⟩
theorem mx_le : ∀ {xs : List Nat} {k : Nat}, (∀ x ∈ xs, x ≤ k) → mx xs ≤ k
  | [], _, _ => Nat.zero_le _
  | x :: r, k, h => Nat.max_le.mpr ⟨h x List.mem_cons_self, mx_le fun y hy => h y (List.mem_cons_of_mem _ hy)⟩
/-- a path whose agents all wait by their numbers is a ring -/
theorem PI.ring {p : Pth} (h : PI T p) (cl : Cl T p) (cu : ∀ x ∈ p, T.Cur x) : T.Ring (p.map Pt.a) := by
  cases p with
  | nil => exact absurd rfl h.ne
  | cons x r =>
    refine ⟨h.nd, fun z hz => ?_, by simp, con_lk (by simp) h.cn cu (fun z hz => ?_), ?_⟩
    · obtain ⟨y, hy, rfl⟩ := List.mem_map.mp hz
      exact h.lt y hy
    · exact cl z x hz rfl (cu z (List.mem_of_getLast? hz)) (cu x List.mem_cons_self)
    · show some x.a = some (Tb.mx (x.a :: r.map Pt.a))
      congr 1
      show x.a = max x.a (Tb.mx (r.map Pt.a))
      refine (Nat.max_eq_left (mx_le fun z hz => ?_)).symm
      obtain ⟨y, hy, rfl⟩ := List.mem_map.mp hz
      exact Nat.le_of_lt (h.mx y hy)
/-- the tuple that an agent has now -/
def pt (T : Tb) (a : Nat) : Pt := ⟨a, T.ro a, (T.held a).length⟩
theorem PI.now {p : Pth} (h : PI T p) (cu : ∀ x ∈ p, T.Cur x) : p = (p.map Pt.a).map T.pt := by
  rw [List.map_map]
  have : ∀ x ∈ p, (T.pt ∘ Pt.a) x = x := fun x hx => by
    obtain ⟨a, w, g⟩ := x
    have e1 := (cu _ hx).2
    have e2 := h.wt _ hx (cu _ hx)
    show (⟨a, T.ro a, (T.held a).length⟩ : Pt) = ⟨a, w, g⟩
    simp only at e1 e2
    rw [e1, e2]
  exact (List.map_id' p).symm.trans (List.map_congr_left fun x hx => (this x hx).symm)
theorem PI.one {p q : Pth} (W : T.Wf) (h : PI T p) (cl : Cl T p) (cu : ∀ x ∈ p, T.Cur x) (h' : PI T q) (cl' : Cl T q) (cu' : ∀ x ∈ q, T.Cur x) {b : Nat} (hb : b ∈ p.map Pt.a) (hb' : b ∈ q.map Pt.a) : p = q := by
  have e := (h.ring cl cu).one W (h'.ring cl' cu') hb hb'
  rw [h.now cu, h'.now cu', e]
theorem PI.same {p q : Pth} (h : PI T p) (cu : ∀ x ∈ p, T.Cur x) (h' : PI T q) (cu' : ∀ x ∈ q, T.Cur x) (e : p.map Pt.a = q.map Pt.a) : p = q := by
  rw [h.now cu, h'.now cu', e]
end Tb
/-! ### equal paths -/
theorem eqv_pt (x y : Pt) : PyData.eqv x.d y.d = decide (x = y) := by
  obtain ⟨a, w, g⟩ := x
  obtain ⟨a', w', g'⟩ := y
  have e : PyData.eqv (Pt.d ⟨a, w, g⟩) (Pt.d ⟨a', w', g'⟩) = ((((a : Int) == (a' : Int)) && (((w : Int) == (w' : Int)) && ((g : Int) == (g' : Int))))) := by
    simp [Pt.d, PyData.eqv, PyData.eqvAll]
  rw [e]
  by_cases h1 : a = a' <;> by_cases h2 : w = w' <;> by_cases h3 : g = g' <;> simp [h1, h2, h3] <;> omega
theorem eqv_pts : ∀ p q : Pth, PyData.eqvAll (p.map Pt.d) (q.map Pt.d) = decide (p = q)
  | [], [] => by simp [PyData.eqvAll]
  | [], y :: r => by simp [PyData.eqvAll]
  | x :: r, [] => by simp [PyData.eqvAll]
  | x :: r, y :: t => by
    have ih := eqv_pts r t
    simp only [List.map_cons, PyData.eqvAll, ih, eqv_pt]
    by_cases h : x = y <;> by_cases h2 : r = t <;> simp [h, h2]
theorem eqv_path (p q : Pth) : PyData.eqv (pathD p) (pathD q) = decide (p = q) := by
  show PyData.eqv (.tuple (p.map Pt.d)) (.tuple (q.map Pt.d)) = _
  simp only [PyData.eqv]
  exact eqv_pts p q
theorem Hl.has_iff {M : Hl} {p : Pth} : M.has p = true ↔ ∃ r ∈ M.tl, r.1 = p := by
  unfold Hl.has
  rw [List.any_eq_true]
  constructor
  · rintro ⟨e, h1, h2⟩
    obtain ⟨r, hr, rfl⟩ := List.mem_map.mp h1
    rw [eqv_path] at h2
    exact ⟨r, hr, of_decide_eq_true h2⟩
  · rintro ⟨r, hr, rfl⟩
    exact ⟨_, List.mem_map.mpr ⟨r, hr, rfl⟩, by rw [eqv_path]; simp⟩
end AL

namespace AL
open PySem PySem.Spec PyProof.Rows L2
/-! # long days: what is done to a hall, step by step (no program in sight) -/
instance tbEq : DecidableEq Tb := fun a b => decidable_of_iff (a.own = b.own ∧ a.lin = b.lin ∧ a.tim = b.tim ∧ a.wan = b.wan ∧ a.rou = b.rou) (by
  obtain ⟨a1, a2, a3, a4, a5⟩ := a
  obtain ⟨b1, b2, b3, b4, b5⟩ := b
  simp)
instance hlEq : DecidableEq Hl := fun a b => decidable_of_iff (a.t = b.t ∧ a.dn = b.dn ∧ a.rd = b.rd ∧ a.tl = b.tl ∧ a.br = b.br) (by
  obtain ⟨a1, a2, a3, a4, a5⟩ := a
  obtain ⟨b1, b2, b3, b4, b5⟩ := b
  simp)
inductive Ev where
  | ask (a l : Nat) (b : Bool)
  | give (a l : Nat) (o : Option Nat)
  | carry (i : Nat)
  | lose (i : Nat)
  | double (i : Nat)
  | again
  | road (r : List Lt)
  | told (r : List (Pth × Nat))
  | broke (r : List (Nat × Nat))
  | quiet
  | loud
  | wants (a : Nat) (o : Option Nat)
def Lt.isBrk : Lt → Bool
  | .brk _ _ => true
  | _ => false
/-- the path's first agent waited -/
def Lt.pos : Lt → Bool
  | .who p _ => decide (1 ≤ (p.headD ⟨0, 0, 0⟩).w)
  | .is p _ _ _ => decide (1 ≤ (p.headD ⟨0, 0, 0⟩).w)
  | .still p _ => decide (1 ≤ (p.headD ⟨0, 0, 0⟩).w)
  | .brk _ _ => true
def Hl.ev (M : Hl) : Ev → Option Hl
  | .ask a l b => match M.askR a l with
    | (.ok (.b x), M') => if x = b then some M' else none
    | _ => none
  | .give a l o => match M.giveR a l with
    | (.ok (.o x), M') => if x = o then some M' else none
    | _ => none
  | .carry i => match M.rd[i]? with
    | some x => if x.pos = true then some (M.carry i) else none
    | none => none
  | .lose i => if i < M.rd.length then some (M.drop i) else none
  | .double i => if i < M.rd.length then some (M.lay (M.rd.getD i (.brk 0 0))) else none
  | .again => some M.again
  | .road r => if M.rd = r then some M else none
  | .told r => if M.tl = r then some M else none
  | .broke r => if M.br = r then some M else none
  | .quiet => if M.rd.all (fun x => !x.isBrk) = true then some M else none
  | .loud => if M.rd.any (fun x => x.isBrk) = true then some M else none
  | .wants a o => if M.t.wa a = o then some M else none
def Hl.evs : Hl → List Ev → Option Hl
  | M, [] => some M
  | M, e :: r => match M.ev e with
    | some M' => M'.evs r
    | none => none
def carriesQ (n : Nat) : List Ev := (List.replicate n [Ev.quiet, Ev.carry 0]).flatten
def firstE (f0 f1 L0 L1 n1 n2 : Nat) : List Ev := [.ask f0 L0 true, .ask f1 L1 true, .ask f0 L1 false, .ask f1 L0 false] ++ (carriesQ n1 ++ (.loud :: List.replicate n2 (.lose 0)) ++ [.road []])
def turnA (o x L2 L3 : Nat) : List Ev := [.ask o L2 true, .ask x L3 true, .ask o L3 false, .ask x L2 false]
def turnC (n : Nat) : List Ev := List.replicate n (.carry 0) ++ [.road []]
def turnG (x L2 L3 : Nat) : List Ev := [.give x L2 none, .give x L3 none]
def heldE (o x t l0 l1 : Nat) : List Ev := [.ask o l0 true, .ask t l1 true, .ask x l0 false, .carry 0, .road [.is [⟨x, 1, 0⟩] o l0 1], .give o l0 (some x), .give x l0 none, .ask o l0 true, .ask o l1 false, .carry 0, .road [.who [⟨o, 1, 1⟩] l1], .told []]
def waitsE (o x l0 l1 : Nat) : List Ev := [.ask x l0 true, .ask o l1 true, .ask x l1 false, .ask o l0 false, .lose 1, .carry 0, .carry 0, .carry 0, .carry 0, .road [.still [⟨x, 1, 1⟩, ⟨o, 1, 1⟩] 1],
  .double 0, .carry 0, .carry 1, .double 1, .carry 1, .told [([⟨x, 1, 1⟩, ⟨o, 1, 1⟩], o)], .broke [(o, 1)], .ask o l0 false, .carry 0, .carry 0, .road [.who [⟨o, 2, 0⟩] l0], .wants o (some l0), .told [([⟨x, 1, 1⟩, ⟨o, 1, 1⟩], o)], .broke [(o, 1)]]

/-! ### halls alike but for their numbers -/
def shPt (f : Nat → Nat) (x : Pt) : Pt := ⟨x.a, x.w + f x.a, x.g⟩
def shP (f : Nat → Nat) (p : Pth) : Pth := p.map (shPt f)
def shL (f g : Nat → Nat) : Lt → Lt
  | .who p l => .who (shP f p) l
  | .is p a l h => .is (shP f p) a l (h + g l)
  | .still p i => .still (shP f p) i
  | .brk a w => .brk a (w + f a)
def shE (f : Nat → Nat) (r : Pth × Nat) : Pth × Nat := (shP f r.1, r.2)
def shB (f : Nat → Nat) (r : Nat × Nat) : Nat × Nat := (r.1, r.2 + f r.1)
def shT (f g : Nat → Nat) (T : Tb) : Tb := { T with tim := T.tim.mapIdx fun i x => x + g i, rou := T.rou.mapIdx fun a x => x + f a }
/-- numbers further on by f and g, behind the first telling the tellings os, ahead of the broken ob -/
def shM (f g : Nat → Nat) (os : List (Pth × Nat)) (ob : List (Nat × Nat)) (M : Hl) : Hl := ⟨shT f g M.t, M.dn, M.rd.map (shL f g), M.tl.take 1 ++ os ++ (M.tl.drop 1).map (shE f), ob ++ M.br.map (shB f)⟩
def shEv (f g : Nat → Nat) (os : List (Pth × Nat)) (ob : List (Nat × Nat)) : Ev → Ev
  | .road r => .road (r.map (shL f g))
  | .told r => .told (r.take 1 ++ os ++ (r.drop 1).map (shE f))
  | .broke r => .broke (ob ++ r.map (shB f))
  | e => e
theorem map_eraseIdx15 {α β : Type} {h : α → β} : ∀ {xs : List α} {i : Nat}, (xs.map h).eraseIdx i = (xs.eraseIdx i).map h
  | [], _ => rfl
  | _ :: _, 0 => rfl
  | x :: r, i + 1 => by
    show h x :: (r.map h).eraseIdx i = h x :: (r.eraseIdx i).map h
    rw [map_eraseIdx15]
theorem mapIdx_getD {F : Nat → Nat → Nat} {xs : List Nat} {i : Nat} (h : i < xs.length) : (xs.mapIdx F).getD i 0 = F i (xs.getD i 0) := by
  rw [List.getD_eq_getElem?_getD, List.getD_eq_getElem?_getD, List.getElem?_mapIdx, List.getElem?_eq_getElem h]
  rfl
theorem mapIdx_put {F : Nat → Nat → Nat} {xs : List Nat} {i v w : Nat} (h : i < xs.length → w = F i v) : (xs.mapIdx F).set i w = (xs.set i v).mapIdx F := by
  refine List.ext_getElem? fun j => ?_
  rw [List.getElem?_set, List.getElem?_mapIdx, List.getElem?_mapIdx, List.getElem?_set, List.length_mapIdx]
  by_cases e : i = j
  · subst e
    rw [if_pos rfl, if_pos rfl]
    by_cases hi : i < xs.length
    · rw [if_pos hi, if_pos hi, h hi]; rfl
    · rw [if_neg hi, if_neg hi]; rfl
  · rw [if_neg e, if_neg e]
section
variable {f g : Nat → Nat} {T : Tb}
theorem shT_ti {l : Nat} (h : l < T.tim.length) : (shT f g T).ti l = T.ti l + g l := mapIdx_getD (F := fun i x => x + g i) h
theorem shT_ro {a : Nat} (h : a < T.rou.length) : (shT f g T).ro a = T.ro a + f a := mapIdx_getD (F := fun a x => x + f a) h
theorem shT_take {a l : Nat} : (shT f g T).take a l = shT f g (T.take a l) := by
  have e : ((T.tim.mapIdx fun i x => x + g i).set l ((shT f g T).ti l + 1)) = (T.tim.set l (T.ti l + 1)).mapIdx fun i x => x + g i := mapIdx_put fun h => by rw [shT_ti h]; omega
  unfold Tb.take
  show Tb.mk _ _ ((T.tim.mapIdx fun i x => x + g i).set l ((shT f g T).ti l + 1)) _ _ = _
  rw [e]
  rfl
theorem shT_wait {a l : Nat} : (shT f g T).wait a l = shT f g (T.wait a l) := by
  have e : ((T.rou.mapIdx fun a x => x + f a).set a ((shT f g T).ro a + 1)) = (T.rou.set a (T.ro a + 1)).mapIdx fun a x => x + f a := mapIdx_put fun h => by rw [shT_ro h]; omega
  unfold Tb.wait
  show Tb.mk _ _ _ _ ((T.rou.mapIdx fun a x => x + f a).set a ((shT f g T).ro a + 1)) = _
  rw [e]
  rfl
theorem shT_pass {l : Nat} : (shT f g T).pass l = shT f g (T.pass l) := by
  unfold Tb.pass
  show (match T.ln l with
    | [] => (shT f g T).free l
    | a :: r => ((((shT f g T).free l).line l r).stop a).take a l) = _
  cases T.ln l with
  | nil => rfl
  | cons a r => exact shT_take (T := ((T.free l).line l r).stop a)
theorem shT_passAll : ∀ (r : List Nat) (T : Tb), Tb.passAll r (shT f g T) = ((Tb.passAll r T).1, shT f g (Tb.passAll r T).2)
  | [], T => rfl
  | l :: r, T => by
    show (let p := Tb.passAll r ((shT f g T).pass l); ((l, (shT f g T).heir l) :: p.1, p.2)) = _
    rw [shT_pass, shT_passAll r]
    rfl
theorem shT_unwait {a : Nat} : (shT f g T).unwait a = shT f g (T.unwait a) := by
  unfold Tb.unwait
  show (match T.wa a with
    | none => shT f g T
    | some l => ((shT f g T).line l (((shT f g T).ln l).erase a)).stop a) = _
  cases T.wa a <;> rfl
theorem shT_leave {a : Nat} : (shT f g T).leave a = ((T.leave a).1, shT f g (T.leave a).2) := by
  unfold Tb.leave
  rw [shT_unwait]
  exact shT_passAll _ _
theorem shT_askR {a l : Int} : (shT f g T).askR a l = ((T.askR a l).1, shT f g (T.askR a l).2) := by
  unfold Tb.askR
  show (match T.fault a l with
    | some w => (Except.error w, shT f g T)
    | none => if T.wa a.toNat ≠ none then (.error .waits, shT f g T) else if T.ow l.toNat = some a.toNat then (.error .holds, shT f g T) else
      if T.ow l.toNat = none then (.ok true, (shT f g T).take a.toNat l.toNat) else (.ok false, (shT f g T).wait a.toNat l.toNat)) = _
  rw [shT_take, shT_wait]
  cases T.fault a l with
  | some w => rfl
  | none =>
    dsimp only
    split
    · rfl
    · split
      · rfl
      · split <;> rfl
theorem shT_giveR {a l : Int} : (shT f g T).giveR a l = ((T.giveR a l).1, shT f g (T.giveR a l).2) := by
  unfold Tb.giveR
  show (match T.fault a l with
    | some w => (Except.error w, shT f g T)
    | none => if T.wa a.toNat ≠ none then (.error .waits, shT f g T) else if T.ow l.toNat ≠ some a.toNat then (.error .notHeld, shT f g T) else (.ok (T.heir l.toNat), (shT f g T).pass l.toNat)) = _
  rw [shT_pass]
  cases T.fault a l with
  | some w => rfl
  | none =>
    dsimp only
    split
    · rfl
    · split <;> rfl
theorem shPt_inj {x y : Pt} (h : shPt f x = shPt f y) : x = y := by
  obtain ⟨a, w, c⟩ := x
  obtain ⟨a', w', c'⟩ := y
  unfold shPt at h
  injection h with h1 h2 h3
  dsimp only at h1 h2 h3
  subst h1
  subst h3
  have : w = w' := by omega
  rw [this]
theorem shP_inj : ∀ {p q : Pth}, shP f p = shP f q → p = q
  | [], [], _ => rfl
  | [], _ :: _, h => by cases h
  | _ :: _, [], h => by cases h
  | x :: p, y :: q, h => by
    have h1 : shPt f x :: shP f p = shPt f y :: shP f q := h
    injection h1 with a b
    rw [shPt_inj a, shP_inj b]
theorem shP_head {p : Pth} (h : p ≠ []) : (shP f p).headD ⟨0, 0, 0⟩ = shPt f (p.headD ⟨0, 0, 0⟩) := by
  cases p with
  | nil => exact absurd rfl h
  | cons x r => rfl
theorem shP_get {p : Pth} {i : Nat} (h : i < p.length) : (shP f p).getD i ⟨0, 0, 0⟩ = shPt f (p.getD i ⟨0, 0, 0⟩) := by
  unfold shP
  rw [List.getD_eq_getElem?_getD, List.getD_eq_getElem?_getD, List.getElem?_map, List.getElem?_eq_getElem h]
  rfl
theorem shP_map {p : Pth} : (shP f p).map Pt.a = p.map Pt.a := by
  unfold shP
  rw [List.map_map]
  rfl
theorem shP_best : ∀ {p : Pth}, p ≠ [] → bestP (shP f p) = shPt f (bestP p)
  | [], h => absurd rfl h
  | [x], _ => rfl
  | x :: y :: r, _ => by
    have ih := shP_best (p := y :: r) (by simp)
    show (if bestP.leB (shPt f x).k (bestP (shP f (y :: r))).k = true then shPt f x else bestP (shP f (y :: r))) = _
    rw [ih]
    show (if bestP.leB x.k (bestP (y :: r)).k = true then shPt f x else shPt f (bestP (y :: r))) = shPt f (if bestP.leB x.k (bestP (y :: r)).k = true then x else bestP (y :: r))
    split <;> rfl
end
section
variable {f g : Nat → Nat} {os : List (Pth × Nat)} {ob : List (Nat × Nat)} {M : Hl}
theorem sh_lay {x : Lt} : ((shM f g os ob) M).lay (shL f g x) = (shM f g os ob) (M.lay x) := by
  unfold Hl.lay shM
  dsimp only
  rw [List.map_append]
  rfl
theorem sh_drop {i : Nat} : ((shM f g os ob) M).drop i = (shM f g os ob) (M.drop i) := by
  unfold Hl.drop shM
  dsimp only
  rw [map_eraseIdx15]
theorem sh_own (Z : M.t.Sz) {a : Nat} (h : a < M.t.n) : ((shM f g os ob) M).own a = shPt f (M.own a) := by
  unfold Hl.own shPt
  have e : ((shM f g os ob) M).t.ro a = M.t.ro a + f a := shT_ro (by rw [Z.ro]; exact h)
  rw [e]
  rfl
theorem sh_by (Z : M.t.Sz) {a w : Nat} (h : a < M.t.n) : ((shM f g os ob) M).by_ a (w + f a) = M.by_ a w := by
  unfold Hl.by_
  have e : ((shM f g os ob) M).t.ro a = M.t.ro a + f a := shT_ro (by rw [Z.ro]; exact h)
  rw [e]
  refine decide_eq_decide.mpr ?_
  show (M.t.wa a ≠ none ∧ M.t.ro a + f a = w + f a) ↔ _
  constructor
  · exact fun q => ⟨q.1, by omega⟩
  · exact fun q => ⟨q.1, by omega⟩
theorem sh_seek (Z : M.t.Sz) {a : Nat} : ((shM f g os ob) M).seek a = (shM f g os ob) (M.seek a) := by
  unfold Hl.seek
  show (match M.t.wa a with
    | none => (shM f g os ob) M
    | some l => ((shM f g os ob) M).lay (.who [((shM f g os ob) M).own a] l)) = _
  cases e : M.t.wa a with
  | none => rfl
  | some l =>
    dsimp only
    rw [sh_own Z (Tb.wa_lt e)]
    exact sh_lay (x := .who [M.own a] l)
theorem seek_t {a : Nat} : (M.seek a).t = M.t := by
  unfold Hl.seek
  split <;> rfl
theorem upTo_t : ∀ k : Nat, (M.upTo k).t = M.t
  | 0 => rfl
  | k + 1 => by
    unfold Hl.upTo
    split
    · rw [seek_t]; exact upTo_t k
    · exact upTo_t k
theorem sh_upTo (Z : M.t.Sz) : ∀ k : Nat, ((shM f g os ob) M).upTo k = (shM f g os ob) (M.upTo k)
  | 0 => rfl
  | k + 1 => by
    show (if M.t.wa k ≠ none ∧ M.isDown k = false then (((shM f g os ob) M).upTo k).seek k else ((shM f g os ob) M).upTo k) = (shM f g os ob) (if M.t.wa k ≠ none ∧ M.isDown k = false then (M.upTo k).seek k else M.upTo k)
    rw [sh_upTo Z k]
    split
    · exact sh_seek (by rw [upTo_t]; exact Z)
    · rfl
theorem sh_who {p : Pth} {l : Nat} (Z : M.t.Sz) (hl : l < M.t.m) : ((shM f g os ob) M).who (shP f p) l = (shM f g os ob) (M.who p l) := by
  unfold Hl.who
  show (match M.t.ow l with
    | none => (shM f g os ob) M
    | some a => ((shM f g os ob) M).lay (.is (shP f p) a l (((shM f g os ob) M).t.ti l))) = _
  have e : ((shM f g os ob) M).t.ti l = M.t.ti l + g l := shT_ti (by rw [Z.ti]; exact hl)
  cases M.t.ow l with
  | none => rfl
  | some a =>
    dsimp only
    rw [e]
    exact sh_lay (x := .is p a l (M.t.ti l))
theorem sh_come {p : Pth} {a l h : Nat} (Z : M.t.Sz) (hp : POk M.t p) (ha : a < M.t.n) (hl : l < M.t.m) : ((shM f g os ob) M).come (shP f p) a l (h + g l) = (shM f g os ob) (M.come p a l h) := by
  unfold Hl.come
  have e : ((shM f g os ob) M).t.ti l = M.t.ti l + g l := shT_ti (by rw [Z.ti]; exact hl)
  have e2 : (¬ (M.t.ti l + g l = h + g l)) ↔ ¬ (M.t.ti l = h) := not_congr ⟨fun q => by omega, fun q => by omega⟩
  rw [e, shP_head hp.ne, shP_map]
  show (match M.t.wa a with
    | none => (shM f g os ob) M
    | some want => if M.t.ow l ≠ some a ∨ M.t.ti l + g l ≠ h + g l then (shM f g os ob) M else
      if a = (p.headD ⟨0, 0, 0⟩).a then (if ((shM f g os ob) M).by_ a ((p.headD ⟨0, 0, 0⟩).w + f (p.headD ⟨0, 0, 0⟩).a) = true then ((shM f g os ob) M).lay (.still (shP f p) 1) else (shM f g os ob) M) else
      if a < (p.headD ⟨0, 0, 0⟩).a ∧ a ∉ p.map Pt.a then ((shM f g os ob) M).lay (.who (shP f p ++ [((shM f g os ob) M).own a]) want) else (shM f g os ob) M) = _
  cases M.t.wa a with
  | none => rfl
  | some want =>
    dsimp only
    by_cases c1 : M.t.ow l ≠ some a ∨ M.t.ti l ≠ h
    · have c1' : M.t.ow l ≠ some a ∨ M.t.ti l + g l ≠ h + g l := c1.imp id e2.mpr
      rw [if_pos c1, if_pos c1']
    · have c1' : ¬ (M.t.ow l ≠ some a ∨ M.t.ti l + g l ≠ h + g l) := fun q => c1 (q.imp id e2.mp)
      rw [if_neg c1, if_neg c1']
      by_cases c2 : a = (p.headD ⟨0, 0, 0⟩).a
      · rw [if_pos c2, if_pos c2, ← c2, sh_by Z ha]
        split
        · exact sh_lay (x := .still p 1)
        · rfl
      · rw [if_neg c2, if_neg c2]
        split
        · rw [sh_own Z ha]
          have e3 : shP f p ++ [shPt f (M.own a)] = shP f (p ++ [M.own a]) := by unfold shP; rw [List.map_append]; rfl
          rw [e3]
          exact sh_lay (x := .who (p ++ [M.own a]) want)
        · rfl
/-- what is known of the tellings ahead -/
structure Apart (f : Nat → Nat) (os : List (Pth × Nat)) (fe : Pth × Nat) : Prop where
  no : ∀ r ∈ os, ∀ p : Pth, 1 ≤ (p.headD ⟨0, 0, 0⟩).w → shP f p ≠ r.1
  fix : shP f fe.1 = fe.1
theorem sh_has {fe : Pth × Nat} {p : Pth} (A : Apart f os fe) (hf : M.tl.take 1 = [fe]) (hp : 1 ≤ (p.headD ⟨0, 0, 0⟩).w) : ((shM f g os ob) M).has (shP f p) = M.has p := by
  obtain ⟨rest, et⟩ : ∃ rest, M.tl = fe :: rest := by
    cases h : M.tl with
    | nil => rw [h] at hf; cases hf
    | cons y r => rw [h] at hf; exact ⟨r, by rw [show y = fe from (List.cons.inj hf).1]⟩
  have e : ((shM f g os ob) M).tl = [fe] ++ os ++ rest.map (shE f) := by
    show M.tl.take 1 ++ os ++ (M.tl.drop 1).map (shE f) = _
    rw [hf, et]
    rfl
  refine Bool.eq_iff_iff.mpr ?_
  rw [Hl.has_iff, Hl.has_iff, e, et]
  constructor
  · rintro ⟨r, hr, er⟩
    rcases List.mem_append.mp hr with hr | hr
    · rcases List.mem_append.mp hr with hr | hr
      · have e1 : r = fe := List.mem_singleton.mp hr
        refine ⟨fe, List.mem_cons_self, shP_inj (f := f) ?_⟩
        rw [A.fix, ← e1]
        exact er
      · exact absurd er.symm (A.no r hr p hp)
    · obtain ⟨q, hq, rfl⟩ := List.mem_map.mp hr
      exact ⟨q, List.mem_cons_of_mem _ hq, shP_inj (f := f) er⟩
  · rintro ⟨r, hr, rfl⟩
    rcases List.mem_cons.mp hr with e1 | hr
    · subst e1
      exact ⟨r, List.mem_append_left _ (List.mem_append_left _ (List.mem_singleton.mpr rfl)), A.fix.symm⟩
    · exact ⟨shE f r, List.mem_append_right _ (List.mem_map.mpr ⟨r, hr, rfl⟩), rfl⟩
theorem sh_tell {fe : Pth × Nat} {p : Pth} (A : Apart f os fe) (hf : M.tl.take 1 = [fe]) (hp : 1 ≤ (p.headD ⟨0, 0, 0⟩).w) (hne : p ≠ []) : ((shM f g os ob) M).tell (shP f p) = (shM f g os ob) (M.tell p) := by
  unfold Hl.tell
  rw [sh_has A hf hp]
  split
  · rfl
  · obtain ⟨rest, et⟩ : ∃ rest, M.tl = fe :: rest := by
      cases h : M.tl with
      | nil => rw [h] at hf; cases hf
      | cons y r => rw [h] at hf; exact ⟨r, by rw [show y = fe from (List.cons.inj hf).1]⟩
    rw [shP_best hne]
    unfold shM
    dsimp only
    rw [et]
    simp only [List.cons_append, List.take_succ_cons, List.take_zero, List.drop_succ_cons, List.drop_zero, List.map_append, List.append_assoc, List.nil_append, List.map_cons, List.map_nil]
    rfl
theorem sh_still {fe : Pth × Nat} {p : Pth} {i : Nat} (A : Apart f os fe) (hf : M.tl.take 1 = [fe]) (Z : M.t.Sz) (hp : POk M.t p) (hi : i < p.length) (hw : 1 ≤ (p.headD ⟨0, 0, 0⟩).w) : ((shM f g os ob) M).still (shP f p) i = (shM f g os ob) (M.still p i) := by
  unfold Hl.still
  rw [shP_get hi]
  have ha : (p.getD i ⟨0, 0, 0⟩).a < M.t.n := by
    rw [List.getD_eq_getElem?_getD, List.getElem?_eq_getElem hi]
    exact hp.lt _ (List.getElem_mem hi)
  show (if ((shM f g os ob) M).by_ (p.getD i ⟨0, 0, 0⟩).a ((p.getD i ⟨0, 0, 0⟩).w + f (p.getD i ⟨0, 0, 0⟩).a) = true then _ else _) = _
  rw [sh_by Z ha]
  split
  · rw [shP_best hp.ne]
    have el : (shP f p).length = p.length := by unfold shP; rw [List.length_map]
    rw [el]
    split
    · exact sh_lay (x := .still p ((i + 1) % p.length))
    · have e1 : ((shM f g os ob) M).lay (.brk (shPt f (bestP p)).a (shPt f (bestP p)).w) = (shM f g os ob) (M.lay (.brk (bestP p).a (bestP p).w)) := sh_lay (x := .brk (bestP p).a (bestP p).w)
      rw [e1]
      exact sh_tell (M := M.lay (.brk (bestP p).a (bestP p).w)) A hf hw hp.ne
  · rfl
theorem sh_brk {a w : Nat} (Z : M.t.Sz) (ha : a < M.t.n) : ((shM f g os ob) M).brk a (w + f a) = (shM f g os ob) (M.brk a w) := by
  unfold Hl.brk
  rw [sh_by Z ha]
  split
  · have e : ((shM f g os ob) M).t.leave a = ((M.t.leave a).1, shT f g (M.t.leave a).2) := shT_leave
    rw [e]
    unfold shM
    dsimp only
    rw [List.map_append, ← List.append_assoc]
    rfl
  · rfl
theorem sh_home {x : Lt} : Hl.home (shL f g x) = Hl.home x := by
  cases x with
  | who p l => rfl
  | is p a l h => rfl
  | brk a w => rfl
  | still p i =>
    show ((shP f p).getD i ⟨0, 0, 0⟩).a = (p.getD i ⟨0, 0, 0⟩).a
    by_cases h : i < p.length
    · rw [shP_get h]; rfl
    · have h2 : ¬ i < (shP f p).length := by unfold shP; rw [List.length_map]; exact h
      rw [List.getD_eq_getElem?_getD, List.getD_eq_getElem?_getD, List.getElem?_eq_none (Nat.not_lt.mp h), List.getElem?_eq_none (Nat.not_lt.mp h2)]
theorem sh_carry {fe : Pth × Nat} {i : Nat} {x : Lt} (A : Apart f os fe) (hf : M.tl.take 1 = [fe]) (O : M.Ok) (hx : M.rd[i]? = some x) (hp : x.pos = true) : ((shM f g os ob) M).carry i = (shM f g os ob) (M.carry i) := by
  have Z : M.t.Sz := O.t.sz
  have hk := O.rd x (List.mem_of_getElem? hx)
  have hx' : ((shM f g os ob) M).rd[i]? = some (shL f g x) := by
    show (M.rd.map (shL f g))[i]? = _
    rw [List.getElem?_map, hx]; rfl
  unfold Hl.carry
  rw [hx, hx']
  dsimp only
  rw [sh_home]
  show (if M.isDown (Hl.home x) = true then ((shM f g os ob) M).drop i else (((shM f g os ob) M).drop i).read (shL f g x)) = _
  rw [sh_drop]
  split
  · rfl
  · cases hk with
    | who h1 h2 _ => exact sh_who (M := M.drop i) Z h2
    | is h1 h2 h3 _ => exact sh_come (M := M.drop i) Z h1 h2 h3
    | still h1 h2 => exact sh_still (M := M.drop i) A hf Z h1 h2 (of_decide_eq_true hp)
    | brk h1 => exact sh_brk (M := M.drop i) Z h1
theorem sh_askR (W : M.t.Wf) {a l : Int} : ((shM f g os ob) M).askR a l = ((M.askR a l).1, (shM f g os ob) (M.askR a l).2) := by
  unfold Hl.askR
  show (match M.t.fault a l with
    | some w => (Except.error w, (shM f g os ob) M)
    | none => if M.isDown a.toNat = true ∨ M.isDown l.toNat = true then (.error .stopped, (shM f g os ob) M) else match (shT f g M.t).askR a l with
      | (.error w, _) => (.error w, (shM f g os ob) M)
      | (.ok true, T) => (.ok (Ho.b true), { (shM f g os ob) M with t := T })
      | (.ok false, T) => (.ok (Ho.b false), ({ (shM f g os ob) M with t := T } : Hl).seek a.toNat)) = _
  rw [shT_askR]
  have hz : (M.t.askR a l).2.Sz := W.askR.sz
  cases M.t.fault a l with
  | some w => rfl
  | none =>
    dsimp only
    split
    · rfl
    · revert hz
      cases h : M.t.askR a l with
      | mk r T =>
        intro hz
        cases r with
        | error w => rfl
        | ok b =>
          cases b with
          | true => rfl
          | false =>
            dsimp only
            have e := sh_seek (f := f) (g := g) (os := os) (ob := ob) (M := { M with t := T }) hz (a := a.toNat)
            exact congrArg (Prod.mk _) e
theorem sh_giveR {a l : Int} : ((shM f g os ob) M).giveR a l = ((M.giveR a l).1, (shM f g os ob) (M.giveR a l).2) := by
  unfold Hl.giveR
  show (match M.t.fault a l with
    | some w => (Except.error w, (shM f g os ob) M)
    | none => if M.isDown a.toNat = true ∨ M.isDown l.toNat = true then (.error .stopped, (shM f g os ob) M) else match (shT f g M.t).giveR a l with
      | (.error w, _) => (.error w, (shM f g os ob) M)
      | (.ok o, T) => (.ok (Ho.o o), { (shM f g os ob) M with t := T })) = _
  rw [shT_giveR]
  cases M.t.fault a l with
  | some w => rfl
  | none =>
    dsimp only
    split
    · rfl
    · cases h : M.t.giveR a l with
      | mk r T => cases r <;> rfl
theorem ev_ask {M M' : Hl} {a l : Nat} {b : Bool} (h : M.ev (.ask a l b) = some M') : (M.askR a l).1 = .ok (.b b) ∧ M' = (M.askR a l).2 := by
  unfold Hl.ev at h
  dsimp only at h
  split at h
  · rename_i x M'' e
    split at h
    · rename_i q
      cases h
      rw [e, q]
      exact ⟨rfl, rfl⟩
    · cases h
  · cases h
theorem ev_give {M M' : Hl} {a l : Nat} {b : Option Nat} (h : M.ev (.give a l b) = some M') : (M.giveR a l).1 = .ok (.o b) ∧ M' = (M.giveR a l).2 := by
  unfold Hl.ev at h
  dsimp only at h
  split at h
  · rename_i x M'' e
    split at h
    · rename_i q
      cases h
      rw [e, q]
      exact ⟨rfl, rfl⟩
    · cases h
  · cases h
theorem ev_carry {M M' : Hl} {i : Nat} (h : M.ev (.carry i) = some M') : (∃ x, M.rd[i]? = some x ∧ x.pos = true) ∧ i < M.rd.length ∧ M' = M.carry i := by
  unfold Hl.ev at h
  dsimp only at h
  split at h
  · rename_i x e
    split at h
    · rename_i q
      cases h
      exact ⟨⟨x, e, q⟩, (List.getElem?_eq_some_iff.mp e).1, rfl⟩
    · cases h
  · cases h
theorem ev_if {M' : Hl} {c : Prop} [Decidable c] {X : Hl} (h : (if c then some X else none) = some M') : c ∧ M' = X := by
  split at h
  · rename_i q; exact ⟨q, (Option.some.inj h).symm⟩
  · cases h
theorem ev_ok {M M' : Hl} {e : Ev} (O : M.Ok) (h : M.ev e = some M') : M'.Ok := by
  cases e with
  | ask a l b => rw [(ev_ask h).2]; exact O.deedR (.ask a l)
  | give a l b => rw [(ev_give h).2]; exact O.deedR (.give a l)
  | carry i => rw [(ev_carry h).2.2]; exact O.carry
  | lose i => rw [(ev_if h).2]; exact O.drop
  | double i =>
    have hi := (ev_if h).1
    have hm := O.deedR (.double (i : Int))
    have e : (M.deedR (.double (i : Int))).2 = M.lay (M.rd.getD i (.brk 0 0)) := by
      show (M.doubleR (i : Int)).2 = _
      unfold Hl.doubleR
      rw [if_pos ⟨by omega, by omega⟩]
      rfl
    rw [(ev_if h).2, ← e]
    exact hm
  | again => cases h; exact O.deedR .again
  | road r => rw [(ev_if h).2]; exact O
  | told r => rw [(ev_if h).2]; exact O
  | broke r => rw [(ev_if h).2]; exact O
  | quiet => rw [(ev_if h).2]; exact O
  | loud => rw [(ev_if h).2]; exact O
  | wants a o => rw [(ev_if h).2]; exact O
/-- what changes the tellings lays behind -/
theorem tell_front {M : Hl} {p : Pth} {fe : Pth × Nat} (h : M.tl.take 1 = [fe]) : (M.tell p).tl.take 1 = [fe] := by
  unfold Hl.tell
  split
  · exact h
  · show (M.tl ++ _).take 1 = _
    cases q : M.tl with
    | nil => rw [q] at h; cases h
    | cons y r => rw [q] at h; exact h
theorem carry_front {M : Hl} {i : Nat} {fe : Pth × Nat} (h : M.tl.take 1 = [fe]) : (M.carry i).tl.take 1 = [fe] := by
  unfold Hl.carry
  split
  · exact h
  · rename_i x _
    split
    · exact h
    · cases x with
      | who p l =>
        show ((M.drop i).who p l).tl.take 1 = _
        unfold Hl.who
        split <;> exact h
      | is p a l h' =>
        show ((M.drop i).come p a l h').tl.take 1 = _
        unfold Hl.come
        repeat' split
        all_goals exact h
      | still p k =>
        show ((M.drop i).still p k).tl.take 1 = _
        unfold Hl.still
        split
        · split
          · exact h
          · exact tell_front (M := (M.drop i).lay _) h
        · exact h
      | brk a w =>
        show ((M.drop i).brk a w).tl.take 1 = _
        unfold Hl.brk
        split <;> exact h
theorem askR_tl {M : Hl} {a l : Int} : (M.askR a l).2.tl = M.tl := by
  unfold Hl.askR
  split
  · rfl
  · split
    · rfl
    · split
      · rfl
      · rfl
      · unfold Hl.seek
        split <;> rfl
theorem giveR_tl {M : Hl} {a l : Int} : (M.giveR a l).2.tl = M.tl := by
  unfold Hl.giveR
  repeat' split
  all_goals rfl
theorem upTo_tl {M : Hl} : ∀ k : Nat, (M.upTo k).tl = M.tl
  | 0 => rfl
  | k + 1 => by
    unfold Hl.upTo
    split
    · unfold Hl.seek
      split <;> exact upTo_tl k
    · exact upTo_tl k
theorem ev_front {M M' : Hl} {e : Ev} {fe : Pth × Nat} (hf : M.tl.take 1 = [fe]) (h : M.ev e = some M') : M'.tl.take 1 = [fe] := by
  cases e with
  | ask a l b => rw [(ev_ask h).2, askR_tl]; exact hf
  | give a l b => rw [(ev_give h).2, giveR_tl]; exact hf
  | carry i => rw [(ev_carry h).2.2]; exact carry_front hf
  | lose i => rw [(ev_if h).2]; exact hf
  | double i => rw [(ev_if h).2]; exact hf
  | again => cases h; show (M.upTo _).tl.take 1 = _; rw [upTo_tl]; exact hf
  | road r => rw [(ev_if h).2]; exact hf
  | told r => rw [(ev_if h).2]; exact hf
  | broke r => rw [(ev_if h).2]; exact hf
  | quiet => rw [(ev_if h).2]; exact hf
  | loud => rw [(ev_if h).2]; exact hf
  | wants a o => rw [(ev_if h).2]; exact hf
theorem brk_sh {x : Lt} : (shL f g x).isBrk = x.isBrk := by cases x <;> rfl
theorem sh_ev {M M' : Hl} {e : Ev} {fe : Pth × Nat} (A : Apart f os fe) (hf : M.tl.take 1 = [fe]) (O : M.Ok) (h : M.ev e = some M') : ((shM f g os ob) M).ev (shEv f g os ob e) = some ((shM f g os ob) M') := by
  cases e with
  | ask a l b =>
    obtain ⟨h1, h2⟩ := ev_ask h
    show (match ((shM f g os ob) M).askR a l with
      | (.ok (.b x), M') => if x = b then some M' else none
      | _ => none) = _
    rw [sh_askR O.t, h1, h2]
    exact if_pos rfl
  | give a l o =>
    obtain ⟨h1, h2⟩ := ev_give h
    show (match ((shM f g os ob) M).giveR a l with
      | (.ok (.o x), M') => if x = o then some M' else none
      | _ => none) = _
    rw [sh_giveR, h1, h2]
    exact if_pos rfl
  | carry i =>
    obtain ⟨⟨x, hx, hp⟩, hi, h2⟩ := ev_carry h
    have hx' : ((shM f g os ob) M).rd[i]? = some (shL f g x) := by
      show (M.rd.map (shL f g))[i]? = _
      rw [List.getElem?_map, hx]; rfl
    have hk := O.rd x (List.mem_of_getElem? hx)
    have hp' : (shL f g x).pos = true := by
      cases hk with
      | who k1 _ _ => show decide (1 ≤ ((shP f _).headD _).w) = true; rw [shP_head k1.ne]; exact decide_eq_true (Nat.le_trans (of_decide_eq_true hp) (Nat.le_add_right _ _))
      | is k1 _ _ _ => show decide (1 ≤ ((shP f _).headD _).w) = true; rw [shP_head k1.ne]; exact decide_eq_true (Nat.le_trans (of_decide_eq_true hp) (Nat.le_add_right _ _))
      | still k1 _ => show decide (1 ≤ ((shP f _).headD _).w) = true; rw [shP_head k1.ne]; exact decide_eq_true (Nat.le_trans (of_decide_eq_true hp) (Nat.le_add_right _ _))
      | brk _ => rfl
    show (match ((shM f g os ob) M).rd[i]? with
      | some x => if x.pos = true then some (((shM f g os ob) M).carry i) else none
      | none => none) = _
    rw [hx']
    dsimp only
    rw [if_pos hp', sh_carry A hf O hx hp, h2]
  | lose i =>
    obtain ⟨h1, h2⟩ := ev_if h
    show (if i < (M.rd.map (shL f g)).length then some (((shM f g os ob) M).drop i) else none) = _
    rw [List.length_map, if_pos h1, sh_drop, h2]
  | double i =>
    obtain ⟨h1, h2⟩ := ev_if h
    show (if i < (M.rd.map (shL f g)).length then some (((shM f g os ob) M).lay ((M.rd.map (shL f g)).getD i (.brk 0 0))) else none) = _
    have e : (M.rd.map (shL f g)).getD i (.brk 0 0) = shL f g (M.rd.getD i (.brk 0 0)) := by
      rw [List.getD_eq_getElem?_getD, List.getD_eq_getElem?_getD, List.getElem?_map, List.getElem?_eq_getElem h1]
      rfl
    rw [List.length_map, if_pos h1, e, sh_lay, h2]
  | again =>
    cases h
    show some (((shM f g os ob) M).upTo M.t.n) = some ((shM f g os ob) (M.upTo M.t.n))
    rw [sh_upTo O.t.sz]
  | road r =>
    obtain ⟨h1, h2⟩ := ev_if h
    show (if M.rd.map (shL f g) = r.map (shL f g) then some ((shM f g os ob) M) else none) = _
    rw [if_pos (by rw [h1]), h2]
  | told r =>
    obtain ⟨h1, h2⟩ := ev_if h
    show (if M.tl.take 1 ++ os ++ (M.tl.drop 1).map (shE f) = r.take 1 ++ os ++ (r.drop 1).map (shE f) then some ((shM f g os ob) M) else none) = _
    rw [if_pos (by rw [h1]), h2]
  | broke r =>
    obtain ⟨h1, h2⟩ := ev_if h
    show (if ob ++ M.br.map (shB f) = ob ++ r.map (shB f) then some ((shM f g os ob) M) else none) = _
    rw [if_pos (by rw [h1]), h2]
  | quiet =>
    obtain ⟨h1, h2⟩ := ev_if h
    show (if (M.rd.map (shL f g)).all (fun x => !x.isBrk) = true then some ((shM f g os ob) M) else none) = _
    have e : (M.rd.map (shL f g)).all (fun x => !x.isBrk) = M.rd.all (fun x => !x.isBrk) := by
      rw [List.all_map]
      congr 1
      funext x
      show (!(shL f g x).isBrk) = _
      rw [brk_sh]
    rw [e, if_pos h1, h2]
  | loud =>
    obtain ⟨h1, h2⟩ := ev_if h
    show (if (M.rd.map (shL f g)).any (fun x => x.isBrk) = true then some ((shM f g os ob) M) else none) = _
    have e : (M.rd.map (shL f g)).any (fun x => x.isBrk) = M.rd.any (fun x => x.isBrk) := by
      rw [List.any_map]
      congr 1
      funext x
      show (shL f g x).isBrk = _
      rw [brk_sh]
    rw [e, if_pos h1, h2]
  | wants a o =>
    obtain ⟨h1, h2⟩ := ev_if h
    show (if M.t.wa a = o then some ((shM f g os ob) M) else none) = _
    rw [if_pos h1, h2]
theorem sh_evs {fe : Pth × Nat} (A : Apart f os fe) : ∀ (es : List Ev) {M M' : Hl}, M.tl.take 1 = [fe] → M.Ok → M.evs es = some M' → ((shM f g os ob) M).evs (es.map (shEv f g os ob)) = some ((shM f g os ob) M')
  | [], M, M', _, _, h => by cases h; rfl
  | e :: r, M, M', hf, O, h => by
    unfold Hl.evs at h
    cases h1 : M.ev e with
    | none => rw [h1] at h; cases h
    | some M1 =>
      rw [h1] at h
      show (match ((shM f g os ob) M).ev (shEv f g os ob e) with
        | some M' => M'.evs (r.map (shEv f g os ob))
        | none => none) = _
      rw [sh_ev A hf O h1]
      exact sh_evs A r (ev_front hf h1) (ev_ok O h1) h
end
theorem evs_cons {M M' : Hl} {e : Ev} {r : List Ev} (h : M.evs (e :: r) = some M') : ∃ M1, M.ev e = some M1 ∧ M1.evs r = some M' := by
  unfold Hl.evs at h
  cases h1 : M.ev e with
  | none => rw [h1] at h; cases h
  | some M1 => rw [h1] at h; exact ⟨M1, rfl, h⟩
theorem evs_app {M' : Hl} : ∀ {es : List Ev} {r : List Ev} {M : Hl}, M.evs (es ++ r) = some M' → ∃ M1, M.evs es = some M1 ∧ M1.evs r = some M'
  | [], r, M, h => ⟨M, rfl, h⟩
  | e :: es, r, M, h => by
    obtain ⟨M1, h1, h2⟩ := evs_cons (r := es ++ r) h
    obtain ⟨M2, h3, h4⟩ := evs_app h2
    refine ⟨M2, ?_, h4⟩
    unfold Hl.evs
    rw [h1]
    exact h3
theorem evs_join {M1 M' : Hl} : ∀ {es : List Ev} {r : List Ev} {M : Hl}, M.evs es = some M1 → M1.evs r = some M' → M.evs (es ++ r) = some M'
  | [], r, M, h, h2 => by cases h; exact h2
  | e :: es, r, M, h, h2 => by
    obtain ⟨M3, h3, h4⟩ := evs_cons h
    show (match M.ev e with
      | some M' => M'.evs (es ++ r)
      | none => none) = _
    rw [h3]
    exact evs_join h4 h2
theorem evs_ok : ∀ {es : List Ev} {M M' : Hl}, M.Ok → M.evs es = some M' → M'.Ok
  | [], M, M', O, h => by cases h; exact O
  | e :: es, M, M', O, h => by
    obtain ⟨M1, h1, h2⟩ := evs_cons h
    exact evs_ok (ev_ok O h1) h2
end AL

namespace AL
open PySem PySem.Spec PyProof.Rows L2
/-! # long days: one turn, all turns -/
def fT (o x t : Nat) : Nat → Nat := fun a => if a = o ∨ a = x then t else 0
def gT (L2 L3 t : Nat) : Nat → Nat := fun l => if l = L2 then 2 * t else if l = L3 then t else 0
def oldR (o x i : Nat) : Pth × Nat := ([⟨x, i + 1, 1⟩, ⟨o, i + 1, 1⟩], o)
def olds (o x t : Nat) : List (Pth × Nat) := (List.range t).map (oldR o x)
def oldb (o t : Nat) : List (Nat × Nat) := (List.range t).map fun i => (o, i + 1)
def fstR (f0 f1 : Nat) : Pth × Nat := ([⟨f1, 1, 1⟩, ⟨f0, 1, 1⟩], f0)
def turnE (o x L2 L3 : Nat) (ts : List (Pth × Nat)) (bs : List (Nat × Nat)) : List Ev := turnA o x L2 L3 ++ (turnC 9 ++ (.told ts :: .broke bs :: turnG x L2 L3))
def lastE (ts : List (Pth × Nat)) (bs : List (Nat × Nat)) : List Ev := .again :: (turnC 9 ++ [.told ts, .broke bs])
def baseO (f0 f1 L0 L1 k : Nat) : Option Hl := (Hl.fresh 4 4 k).evs (firstE f0 f1 L0 L1 8 1)
def dayM (o x L2 L3 t : Nat) (M : Hl) : Hl := shM (fT o x t) (gT L2 L3 t) (olds o x t) (oldb o t) M
def chkM (f0 f1 o x L0 L1 L2 L3 : Nat) (M : Hl) : Bool :=
  decide (M.rd = []) && (decide (M.tl = [fstR f0 f1]) && (decide (M.br = []) && (decide (M.t.ringsT = [[f1, f0]]) && (decide (M.t.ti L0 = 1 ∧ M.t.ti L1 = 1 ∧ M.t.ti L2 = 0 ∧ M.t.ti L3 = 0) &&
  (decide (M.evs (turnE o x L2 L3 [fstR f0 f1, oldR o x 0] [(o, 1)]) = some (dayM o x L2 L3 1 M)) && (match M.evs (lastE [fstR f0 f1] [(f0, 1)]) with
    | none => false
    | some M' => decide (M'.t.ringsT = [])))))))
def chkO (f0 f1 o x L0 L1 L2 L3 k : Nat) : Bool := match baseO f0 f1 L0 L1 k with
  | none => false
  | some M => decide (M.t.n = 4 ∧ M.t.m = 4) && chkM f0 f1 o x L0 L1 L2 L3 M
def all4 (p : Nat → Bool) : Bool := (List.range 4).all p
theorem all4_at {p : Nat → Bool} (h : all4 p = true) {i : Nat} (hi : i < 4) : p i = true := List.all_eq_true.mp h i (List.mem_range.mpr hi)
/-- four different agents or locks below four -/
def Ord (a b c d : Nat) : Prop := a < 4 ∧ b < 4 ∧ c < 4 ∧ d < 4 ∧ [a, b, c, d].Nodup
instance (a b c d : Nat) : Decidable (Ord a b c d) := by unfold Ord; infer_instance
theorem chk_all : all4 (fun f0 => all4 fun f1 => all4 fun o => all4 fun x => !decide (f0 < f1 ∧ o < x ∧ Ord f0 f1 o x) || all4 fun a => all4 fun b => all4 fun c => all4 fun d => !decide (Ord a b c d) || all4 fun k => chkO f0 f1 o x a b c d (k + 1)) = true := by decide +kernel
theorem held_all : all4 (fun o => all4 fun x => all4 fun t => !decide (o < x ∧ t ≠ o ∧ t ≠ x) || all4 fun a => all4 fun b => decide (a = b) || all4 fun k => ((Hl.fresh 4 4 (k + 1)).evs (heldE o x t a b)).isSome) = true := by decide +kernel
theorem waits_all : all4 (fun o => all4 fun x => !decide (o < x) || all4 fun a => all4 fun b => decide (a = b) || all4 fun k => ((Hl.fresh 4 4 (k + 1)).evs (waitsE o x a b)).isSome) = true := by decide +kernel
theorem bo_or {a b : Bool} (h : (!a || b) = true) (ha : a = true) : b = true := by subst ha; simpa using h
theorem held_ok {o x t a b k : Nat} (h : o < x) (hx : x < 4) (ht : t < 4) (h1 : t ≠ o) (h2 : t ≠ x) (ha : a < 4) (hb : b < 4) (hab : a ≠ b) (hk : 1 ≤ k) (hk4 : k ≤ 4) : ∃ M, (Hl.fresh 4 4 k).evs (heldE o x t a b) = some M := by
  have q := all4_at (all4_at (all4_at held_all (show o < 4 by omega)) hx) ht
  have q2 := all4_at (all4_at (bo_or q (decide_eq_true ⟨h, h1, h2⟩)) ha) hb
  rw [decide_eq_false hab, Bool.false_or] at q2
  have q3 := all4_at q2 (show k - 1 < 4 by omega)
  rw [Nat.sub_add_cancel hk] at q3
  exact Option.isSome_iff_exists.mp q3
theorem waits_ok {o x a b k : Nat} (h : o < x) (hx : x < 4) (ha : a < 4) (hb : b < 4) (hab : a ≠ b) (hk : 1 ≤ k) (hk4 : k ≤ 4) : ∃ M, (Hl.fresh 4 4 k).evs (waitsE o x a b) = some M := by
  have q := all4_at (all4_at waits_all (show o < 4 by omega)) hx
  have q2 := all4_at (all4_at (bo_or q (decide_eq_true h)) ha) hb
  rw [decide_eq_false hab, Bool.false_or] at q2
  have q3 := all4_at q2 (show k - 1 < 4 by omega)
  rw [Nat.sub_add_cancel hk] at q3
  exact Option.isSome_iff_exists.mp q3
/-- what is so behind the first ring -/
structure Base (f0 f1 o x L0 L1 L2 L3 : Nat) (M : Hl) : Prop where
  n : M.t.n = 4
  m : M.t.m = 4
  rd : M.rd = []
  tl : M.tl = [fstR f0 f1]
  br : M.br = []
  ri : M.t.ringsT = [[f1, f0]]
  ti : M.t.ti L0 = 1 ∧ M.t.ti L1 = 1 ∧ M.t.ti L2 = 0 ∧ M.t.ti L3 = 0
  tu : M.evs (turnE o x L2 L3 [fstR f0 f1, oldR o x 0] [(o, 1)]) = some (dayM o x L2 L3 1 M)
  la : ∃ M', M.evs (lastE [fstR f0 f1] [(f0, 1)]) = some M' ∧ M'.t.ringsT = []
theorem base_ok {f0 f1 o x L0 L1 L2 L3 k : Nat} (h : f0 < f1) (h' : o < x) (ho : Ord f0 f1 o x) (hl : Ord L0 L1 L2 L3) (hk : 1 ≤ k) (hk4 : k ≤ 4) : ∃ M, (Hl.fresh 4 4 k).evs (firstE f0 f1 L0 L1 8 1) = some M ∧ Base f0 f1 o x L0 L1 L2 L3 M := by
  have q := all4_at (all4_at (all4_at (all4_at chk_all ho.1) ho.2.1) ho.2.2.1) ho.2.2.2.1
  have q2 := all4_at (all4_at (all4_at (all4_at (bo_or q (decide_eq_true ⟨h, h', ho⟩)) hl.1) hl.2.1) hl.2.2.1) hl.2.2.2.1
  have q3 := all4_at (bo_or q2 (decide_eq_true hl)) (show k - 1 < 4 by omega)
  rw [Nat.sub_add_cancel hk] at q3
  unfold chkO baseO at q3
  split at q3
  · cases q3
  · rename_i M e
    refine ⟨M, e, ?_⟩
    unfold chkM at q3
    simp only [Bool.and_eq_true, decide_eq_true_eq] at q3
    obtain ⟨⟨a1, a2⟩, a3, a4, a5, a6, a7, a8, a9⟩ := q3
    refine ⟨a1, a2, a3, a4, a5, a6, a7, a8, ?_⟩
    split at a9
    · cases a9
    · rename_i M' e'
      exact ⟨M', e', of_decide_eq_true a9⟩
end AL

namespace AL
open PySem PySem.Spec PyProof.Rows L2
/-! # long days: one turn, all turns -/
/-! ### all turns -/
theorem olds_succ {o x t : Nat} : olds o x (t + 1) = olds o x t ++ [oldR o x t] := by unfold olds; rw [List.range_succ, List.map_append]; rfl
theorem oldb_succ {o t : Nat} : oldb o (t + 1) = oldb o t ++ [(o, t + 1)] := by unfold oldb; rw [List.range_succ, List.map_append]; rfl
section
variable {f0 f1 o x L0 L1 L2 L3 t : Nat} {M : Hl}
theorem apart (ho : Ord f0 f1 o x) : Apart (fT o x t) (olds o x t) (fstR f0 f1) where
  no := fun r hr p hp e => by
    obtain ⟨i, hi, rfl⟩ := List.mem_map.mp hr
    have hi' := List.mem_range.mp hi
    cases p with
    | nil => cases hp
    | cons y q =>
      have e1 : shPt (fT o x t) y = ⟨x, i + 1, 1⟩ := (List.cons.inj e).1
      unfold shPt at e1
      injection e1 with e2 e3 e4
      rw [e2] at e3
      have : fT o x t x = t := if_pos (.inr rfl)
      have hp : 1 ≤ y.w := hp
      omega
  fix := by
    have hn : [f0, f1, o, x].Nodup := ho.2.2.2.2
    simp only [List.nodup_cons, List.mem_cons, List.not_mem_nil, or_false, not_or] at hn
    have h0 : fT o x t f0 = 0 := if_neg (fun z => by rcases z with z | z <;> omega)
    have h1 : fT o x t f1 = 0 := if_neg (fun z => by rcases z with z | z <;> omega)
    show [shPt (fT o x t) ⟨f1, 1, 1⟩, shPt (fT o x t) ⟨f0, 1, 1⟩] = _
    unfold shPt
    dsimp only
    rw [h0, h1]
    rfl
theorem fold_T {f g f' g' f2 g2 : Nat → Nat} {T : Tb} (hf : ∀ i, f i + f' i = f2 i) (hg : ∀ i, g i + g' i = g2 i) : shT f' g' (shT f g T) = shT f2 g2 T := by
  unfold shT
  dsimp only
  rw [List.mapIdx_mapIdx, List.mapIdx_mapIdx]
  have e1 : (fun i => (fun x => x + g' i) ∘ fun x => x + g i) = fun i x => x + g2 i := by
    funext i x
    show x + g i + g' i = _
    rw [← hg, Nat.add_assoc]
  have e2 : (fun i => (fun x => x + f' i) ∘ fun x => x + f i) = fun i x => x + f2 i := by
    funext i x
    show x + f i + f' i = _
    rw [← hf, Nat.add_assoc]
  first | rw [e1, e2] | (simp only [Function.comp_def, Nat.add_assoc, hf, hg])
theorem shE_old (ho : Ord f0 f1 o x) : shE (fT o x t) (oldR o x 0) = oldR o x t := by
  have e1 : fT o x t o = t := if_pos (.inl rfl)
  have e2 : fT o x t x = t := if_pos (.inr rfl)
  unfold shE oldR shP shPt
  simp only [List.map_cons, List.map_nil, e1, e2]
  rw [Nat.zero_add, Nat.add_comm 1 t]
theorem sh_nx {f g : Nat → Nat} {T : Tb} (a : Nat) : (shT f g T).nx a = T.nx a := rfl
theorem sh_wk {f g : Nat → Nat} {T : Tb} : ∀ (n : Nat) (r : List Nat) (h : Option Nat), (shT f g T).wk n r h = T.wk n r h
  | 0, r, h => rfl
  | n + 1, r, h => by
    cases h with
    | none => rfl
    | some a =>
      unfold Tb.wk
      rw [sh_wk n, sh_nx]
theorem sh_rings {f g : Nat → Nat} {T : Tb} : (shT f g T).ringsT = T.ringsT := by
  unfold Tb.ringsT
  show (List.range T.n).filterMap (shT f g T).ringAt = _
  congr 1
  funext a
  unfold Tb.ringAt Tb.way
  show (if ((shT f g T).wk T.n [a] ((shT f g T).nx a)).2 = some a ∧ Tb.mx ((shT f g T).wk T.n [a] ((shT f g T).nx a)).1 = a then some ((shT f g T).wk T.n [a] ((shT f g T).nx a)).1 else none) = _
  rw [sh_wk, sh_nx]
theorem day_next (ho : Ord f0 f1 o x) (hl : Ord L0 L1 L2 L3) (B : Base f0 f1 o x L0 L1 L2 L3 M) : shM (fT o x t) (gT L2 L3 t) (olds o x t) (oldb o t) (dayM o x L2 L3 1 M) = dayM o x L2 L3 (t + 1) M := by
  have hn : [L0, L1, L2, L3].Nodup := hl.2.2.2.2
  simp only [List.nodup_cons, List.mem_cons, List.not_mem_nil, or_false, not_or] at hn
  have eT : shT (fT o x t) (gT L2 L3 t) (shT (fT o x 1) (gT L2 L3 1) M.t) = shT (fT o x (t + 1)) (gT L2 L3 (t + 1)) M.t := fold_T (fun i => by unfold fT; split <;> omega) (fun i => by
    unfold gT
    split
    · omega
    · split <;> omega)
  have e1 : fT o x t o = t := if_pos (.inl rfl)
  unfold dayM shM
  dsimp only
  rw [eT, B.rd, B.tl, B.br, olds_succ (t := t), oldb_succ (t := t)]
  have eo1 : olds o x 1 = [oldR o x 0] := rfl
  have eb1 : oldb o 1 = [(o, 1)] := rfl
  rw [eo1, eb1]
  show Hl.mk _ _ [] ([fstR f0 f1] ++ olds o x t ++ [shE (fT o x t) (oldR o x 0)]) (oldb o t ++ [shB (fT o x t) (o, 1)]) = Hl.mk _ _ [] ([fstR f0 f1] ++ (olds o x t ++ [oldR o x t]) ++ []) (oldb o t ++ [(o, t + 1)] ++ [])
  rw [shE_old ho, List.append_nil, List.append_nil, List.append_assoc]
  unfold shB
  dsimp only
  rw [e1, Nat.add_comm 1 t]
theorem day_zero (B : Base f0 f1 o x L0 L1 L2 L3 M) : dayM o x L2 L3 0 M = M := by
  have e : shT (fT o x 0) (gT L2 L3 0) M.t = M.t := by
    unfold shT
    have h1 : (fun (i : Nat) (y : Nat) => y + gT L2 L3 0 i) = fun i y => y := by
      funext i y
      unfold gT
      split
      · rfl
      · split <;> rfl
    have h2 : (fun (i : Nat) (y : Nat) => y + fT o x 0 i) = fun i y => y := by
      funext i y
      unfold fT
      split <;> rfl
    rw [h1, h2]
    have key : ∀ xs : List Nat, xs.mapIdx (fun _ y => y) = xs := fun xs => by
      refine List.ext_getElem? fun j => ?_
      rw [List.getElem?_mapIdx]
      cases xs[j]? <;> rfl
    rw [key, key]
  unfold dayM shM
  rw [e, B.rd, B.tl, B.br]
  obtain ⟨T, d, r, tl, br⟩ := M
  have h1 := B.rd
  have h2 := B.tl
  have h3 := B.br
  dsimp only at h1 h2 h3
  subst h1 h2 h3
  rfl
theorem day_turn (ho : Ord f0 f1 o x) (hl : Ord L0 L1 L2 L3) (B : Base f0 f1 o x L0 L1 L2 L3 M) (O : M.Ok) : (dayM o x L2 L3 t M).evs (turnE o x L2 L3 (fstR f0 f1 :: olds o x (t + 1)) (oldb o (t + 1))) = some (dayM o x L2 L3 (t + 1) M) := by
  have h := sh_evs (g := gT L2 L3 t) (ob := oldb o t) (apart (t := t) ho) _ (by rw [B.tl]; rfl) O B.tu
  rw [day_next ho hl B] at h
  have e : (turnE o x L2 L3 [fstR f0 f1, oldR o x 0] [(o, 1)]).map (shEv (fT o x t) (gT L2 L3 t) (olds o x t) (oldb o t)) = turnE o x L2 L3 (fstR f0 f1 :: olds o x (t + 1)) (oldb o (t + 1)) := by
    have e1 : fT o x t o = t := if_pos (.inl rfl)
    have ea : [fstR f0 f1] ++ olds o x t ++ [shE (fT o x t) (oldR o x 0)] = fstR f0 f1 :: olds o x (t + 1) := by rw [shE_old ho, olds_succ]; rfl
    have eb : oldb o t ++ [shB (fT o x t) (o, 1)] = oldb o (t + 1) := by
      rw [oldb_succ]
      unfold shB
      dsimp only
      rw [e1, Nat.add_comm 1 t]
    rw [← ea, ← eb]
    rfl
  rw [e] at h
  exact h
theorem day_last (ho : Ord f0 f1 o x) (B : Base f0 f1 o x L0 L1 L2 L3 M) (O : M.Ok) : ∃ M', (dayM o x L2 L3 t M).evs (lastE (fstR f0 f1 :: olds o x t) (oldb o t ++ [(f0, 1)])) = some M' ∧ M'.t.ringsT = [] := by
  obtain ⟨M1, h1, h2⟩ := B.la
  have h := sh_evs (g := gT L2 L3 t) (ob := oldb o t) (apart (t := t) ho) _ (by rw [B.tl]; rfl) O h1
  have e : (lastE [fstR f0 f1] [(f0, 1)]).map (shEv (fT o x t) (gT L2 L3 t) (olds o x t) (oldb o t)) = lastE (fstR f0 f1 :: olds o x t) (oldb o t ++ [(f0, 1)]) := by
    have hn : [f0, f1, o, x].Nodup := ho.2.2.2.2
    simp only [List.nodup_cons, List.mem_cons, List.not_mem_nil, or_false, not_or] at hn
    have h0 : fT o x t f0 = 0 := if_neg (fun z => by rcases z with z | z <;> omega)
    have ea : [fstR f0 f1] ++ olds o x t ++ [] = fstR f0 f1 :: olds o x t := by rw [List.append_nil]; rfl
    have eb : oldb o t ++ [shB (fT o x t) (f0, 1)] = oldb o t ++ [(f0, 1)] := by
      unfold shB
      dsimp only
      rw [h0]
    rw [← ea, ← eb]
    rfl
  rw [e] at h
  exact ⟨_, h, sh_rings.trans h2⟩
theorem day_ok (ho : Ord f0 f1 o x) (hl : Ord L0 L1 L2 L3) (B : Base f0 f1 o x L0 L1 L2 L3 M) (O : M.Ok) : ∀ t, (dayM o x L2 L3 t M).Ok
  | 0 => by rw [day_zero B]; exact O
  | t + 1 => evs_ok (day_ok ho hl B O t) (day_turn ho hl B O)
theorem day_ti (hl : Ord L0 L1 L2 L3) (B : Base f0 f1 o x L0 L1 L2 L3 M) (O : M.Ok) : (dayM o x L2 L3 t M).t.ti L0 = 1 ∧ (dayM o x L2 L3 t M).t.ti L1 = 1 ∧ (dayM o x L2 L3 t M).t.ti L2 = 2 * t ∧ (dayM o x L2 L3 t M).t.ti L3 = t := by
  have hn : [L0, L1, L2, L3].Nodup := hl.2.2.2.2
  simp only [List.nodup_cons, List.mem_cons, List.not_mem_nil, or_false, not_or] at hn
  have hz := O.t.sz.ti
  rw [B.m] at hz
  have at_ : ∀ l, l < 4 → (dayM o x L2 L3 t M).t.ti l = M.t.ti l + gT L2 L3 t l := fun l h => shT_ti (by rw [hz]; exact h)
  obtain ⟨t0, t1, t2, t3⟩ := B.ti
  obtain ⟨l0, l1, l2, l3, _⟩ := hl
  have g0 : gT L2 L3 t L0 = 0 := by unfold gT; rw [if_neg (by omega), if_neg (by omega)]
  have g1 : gT L2 L3 t L1 = 0 := by unfold gT; rw [if_neg (by omega), if_neg (by omega)]
  have g2 : gT L2 L3 t L2 = 2 * t := by unfold gT; rw [if_pos rfl]
  have g3 : gT L2 L3 t L3 = t := by unfold gT; rw [if_neg (by omega), if_pos rfl]
  rw [at_ _ l0, at_ _ l1, at_ _ l2, at_ _ l3, t0, t1, t2, t3, g0, g1, g2, g3]
  refine ⟨rfl, rfl, ?_, ?_⟩ <;> omega
theorem day_rings (B : Base f0 f1 o x L0 L1 L2 L3 M) : (dayM o x L2 L3 t M).t.ringsT = [[f1, f0]] := sh_rings.trans B.ri
theorem day_rd (B : Base f0 f1 o x L0 L1 L2 L3 M) : (dayM o x L2 L3 t M).rd = [] := by
  show M.rd.map _ = []
  rw [B.rd]
  rfl
end
end AL

namespace AL
open PySem PySem.Spec PyProof.Rows L2
/-! # long days: promises, readings -/
theorem k_minI {X : Cx} {K : PySem.W.Frag} (hK : X.K = K) (hc : X.calm = true) : CallR X (.builtin "min") (rMin K) := hK ▸ cr_min hc
/-- the bounds under which letters are carried -/
structure Hl.Room (M : Hl) (n : Nat) : Prop where
  rd : M.rd.length + 8 * n ≤ 1900
  tl : M.tl.length + n ≤ 1900
  br : M.br.length + n ≤ 1900
theorem Hl.Room.few {M : Hl} {n : Nat} (h : M.Room n) : M.Few := ⟨by have := h.rd; omega, by have := h.tl; omega, by have := h.br; omega⟩
theorem ev_room {M M' : Hl} {e : Ev} {n : Nat} (O : M.Ok) (R : M.Room (n + 1)) (h : M.ev e = some M') : M'.Room n := by
  have go : ∀ dd : Hd, M' = (M.deedR dd).2 → M'.Room n := fun dd q => by
    have L := Hl.Le.deedR O.t.sz.n8 dd
    rw [← q] at L
    have a := L.rd
    have b := L.tl
    have c := L.br
    have a' := R.rd
    have b' := R.tl
    have c' := R.br
    exact ⟨by omega, by omega, by omega⟩
  have same : M' = M → M'.Room n := fun q => by
    rw [q]
    have a' := R.rd
    have b' := R.tl
    have c' := R.br
    exact ⟨by omega, by omega, by omega⟩
  cases e with
  | ask a l b => exact go (.ask a l) (ev_ask h).2
  | give a l b => exact go (.give a l) (ev_give h).2
  | carry i =>
    refine go (.carry i) ?_
    obtain ⟨_, hi, h2⟩ := ev_carry h
    rw [h2]
    show _ = (M.carryR (i : Int)).2
    unfold Hl.carryR
    rw [if_pos ⟨by omega, by omega⟩]
    rfl
  | lose i =>
    refine go (.lose i) ?_
    obtain ⟨hi, h2⟩ := ev_if h
    rw [h2]
    show _ = (M.loseR (i : Int)).2
    unfold Hl.loseR
    rw [if_pos ⟨by omega, by omega⟩]
    rfl
  | double i =>
    refine go (.double i) ?_
    obtain ⟨hi, h2⟩ := ev_if h
    rw [h2]
    show _ = (M.doubleR (i : Int)).2
    unfold Hl.doubleR
    rw [if_pos ⟨by omega, by omega⟩]
    rfl
  | again => cases h; exact go .again rfl
  | road r => exact same (ev_if h).2
  | told r => exact same (ev_if h).2
  | broke r => exact same (ev_if h).2
  | quiet => exact same (ev_if h).2
  | loud => exact same (ev_if h).2
  | wants a o => exact same (ev_if h).2
/-! ### promises -/
abbrev sp_Lorder15 (K : PySem.W.Frag) : Sp := sp1 fun x H Q _ => ∃ st sc ns, x = .ref st ∧ StAt K H st sc ns ∧ ScF K sc ns (Only1 st) ∧
  ∀ p a b c d H', Ord a b c d → H p = none → H' p = some (.lst [nV a, nV b, nV c, nV d]) → StAt K H' st sc ns → Fr (Only1 st) H H' → Q (.ref p) H'
abbrev sp_Lring15 (K : PySem.W.Frag) : Sp := sp3 fun x y z H Q _ => ∃ A M M' pa pl, ∃ a b l0 l1 : Nat, x = .ref A.p ∧ y = .ref pa ∧ z = .ref pl ∧ HlAt K H A M ∧ M.Ok ∧ M.Room 4 ∧ H pa = some (.lst [nV a, nV b]) ∧ H pl = some (.lst [nV l0, nV l1]) ∧ ¬ A.has pa ∧ ¬ A.has pl ∧
  M.evs (turnA (min a b) (max a b) l0 l1) = some M' ∧ ∀ p H', H p = none → H' p = some (.lst [.bl true, .bl true, .bl false, .bl false]) → HlAt K H' A M' → Fr A.foot H H' → Q (.ref p) H'
abbrev sp_Lcarried15 (K : PySem.W.Frag) : Sp := sp1 fun x H Q _ => ∃ A M M' n, x = .ref A.p ∧ HlAt K H A M ∧ M.Ok ∧ M.Room (n + 1) ∧ M.evs (turnC n) = some M' ∧ ∀ H', HlAt K H' A M' → Fr A.foot H H' → Q .non H'
abbrev sp_Lto_still (K : PySem.W.Frag) : Sp := sp1 fun x H Q _ => ∃ A M M' n1 n2, x = .ref A.p ∧ HlAt K H A M ∧ M.Ok ∧ M.Room (2 * n1 + n2 + 2) ∧ M.evs (carriesQ n1 ++ (.loud :: List.replicate n2 (.lose 0)) ++ [.road []]) = some M' ∧
  ∀ H', HlAt K H' A M' → Fr A.foot H H' → Q .non H'
abbrev sp_Lanew (K : PySem.W.Frag) : Sp := sp1 fun x H Q _ => ∃ st sc ns, x = .ref st ∧ StAt K H st sc ns ∧ ScF K sc ns (Only1 st) ∧ ∀ H', StAt K H' st sc ns → Fr (Only1 st) H H' → Q (.bl true) H'
/-! ### readings -/
section
variable {K : PySem.W.Frag} {σ : L2.St} {H : Hp} {Q : VK}
theorem r_par {i j : Nat} {ta : L2.TA} {D : Ends} (h : ta σ H fun vs H1 => ∃ v w, vs = [v, w] ∧ D.nx ((σ.set i (some v)).set j (some w)) H1) : tPar i j ta D σ H := h
instance i_par {i j : Nat} {ta : L2.TA} {D : Ends} : Stp (tPar i j ta D σ H) (ta σ H fun vs H1 => ∃ v w, vs = [v, w] ∧ D.nx ((σ.set i (some v)).set j (some w)) H1) := ⟨r_par⟩
theorem r_sort2 {p : Addr} {a b : Nat} (h : H p = some (.lst [nV a, nV b])) (q : ∀ p' H', H p' = none → H' p' = some (.lst [nV (min a b), nV (max a b)]) → Fr No H H' → Q (.ref p') H') : rSortedI K [.ref p] H Q := by
  refine ⟨p, [(a : Int), (b : Int)], rfl, SqL.of h, fun ns' p' hp hs hn => q p' _ hn ?_ (Fr.new hn)⟩
  rw [upd_same]
  have hl := hp.length_eq
  match ns', hl, hp, hs with
  | [x, y], _, hp, hs =>
    have hxy : x ≤ y := by
      have := hs
      simp only [List.pairwise_cons, List.mem_singleton, forall_eq] at this
      exact this.1
    have h1 : (x = (a : Int) ∧ y = (b : Int)) ∨ (x = (b : Int) ∧ y = (a : Int)) := by
      have hx : x ∈ [(a : Int), (b : Int)] := hp.subset List.mem_cons_self
      have hy : y ∈ [(a : Int), (b : Int)] := hp.subset (List.mem_cons_of_mem _ List.mem_cons_self)
      have ha : (a : Int) ∈ [x, y] := hp.symm.subset List.mem_cons_self
      have hb : (b : Int) ∈ [x, y] := hp.symm.subset (List.mem_cons_of_mem _ List.mem_cons_self)
      simp only [List.mem_cons, List.not_mem_nil, or_false] at hx hy ha hb
      omega
    have e1 : x = ((min a b : Nat) : Int) := by omega
    have e2 : y = ((max a b : Nat) : Int) := by omega
    rw [e1, e2]
    rfl
theorem r_max2 {p : Addr} {a b : Nat} (h : H p = some (.lst [nV a, nV b])) (q : Q (nV (max a b)) H) : rMax K [.ref p] H Q := by
  refine ⟨p, [(a : Int), (b : Int)], rfl, SqL.of h, by show 0 < 2; omega, fun m hm hg => ?_⟩
  have e : m = ((max a b : Nat) : Int) := by
    have h1 := hg (a : Int) List.mem_cons_self
    have h2 := hg (b : Int) (List.mem_cons_of_mem _ List.mem_cons_self)
    simp only [List.mem_cons, List.not_mem_nil, or_false] at hm
    omega
  rw [e]
  exact q
theorem r_min2 {p : Addr} {a b : Nat} (h : H p = some (.lst [nV a, nV b])) (q : Q (nV (min a b)) H) : rMin K [.ref p] H Q := by
  refine ⟨p, [(a : Int), (b : Int)], rfl, SqL.of h, by show 0 < 2; omega, fun m hm hg => ?_⟩
  have e : m = ((min a b : Nat) : Int) := by
    have h1 := hg (a : Int) List.mem_cons_self
    have h2 := hg (b : Int) (List.mem_cons_of_mem _ List.mem_cons_self)
    simp only [List.mem_cons, List.not_mem_nil, or_false] at hm
    omega
  rw [e]
  exact q
/-- a hall's deeds, from a heap in which it was not: all else stays -/
theorem HlA.apart {A : HlA} {H0 H1 H2 : Hp} (n : ∀ b, A.has b → H0 b = none) (f : Fr No H0 H1) (g : Fr A.foot H1 H2) : Fr No H0 H2 := f.mutP g (fun c hc => .inr (n c (HlA.has_foot hc)))
end
/-! ### data told -/
theorem bools_cmp (xs : List Bool) : CmpAll (xs.map PyData.bool) := CmpAll.of fun d hd => by
  obtain ⟨x, hx, rfl⟩ := List.mem_map.mp hd
  exact ⟨rfl, by simp [PyData.depth]⟩
theorem bools_at {H : Hp} {p : Addr} {xs : List Bool} (h : H p = some (.lst (xs.map V.bl))) : LsAt H p (xs.map PyData.bool) := by
  have k : ∀ ys : List Bool, TdAll H (ys.map V.bl) (ys.map PyData.bool) := fun ys => by
    induction ys with
    | nil => exact .nil
    | cons y r ih => exact .cons (.bl y) ih
  exact ⟨_, h, k xs⟩
/-- two lists that tell the same: not different -/
theorem r_neSame15 {K : PySem.W.Frag} {H : Hp} {Q : VK} {a b : Addr} {ds : List PyData} (h1 : LsAt H a ds) (h2 : LsAt H b ds) (hc : CmpAll ds) (q : Q (.bl false) H) : rNeD K (.ref a) (.ref b) H Q :=
  ⟨_, _, h1.dp, h2.dp, hc.shaped, hc.shaped, by rw [SeqAt.eqv_refl _ (by simp only [PyData.canLay0]; exact hc.1)]; exact q⟩
theorem ord_nodup {a b c d : Nat} (h : Ord a b c d) : a ≠ b ∧ a ≠ c ∧ a ≠ d ∧ b ≠ c ∧ b ≠ d ∧ c ≠ d := by
  have hn := h.2.2.2.2
  simp only [List.nodup_cons, List.mem_cons, List.not_mem_nil, or_false, not_or] at hn
  obtain ⟨⟨h1, h2, h3⟩, ⟨h4, h5⟩, h6, _⟩ := hn
  exact ⟨h1, h2, h3, h4, h5, h6⟩
theorem ord_mk {a b c d : Nat} (h : [a, b, c, d].Perm [0, 1, 2, 3]) : Ord a b c d := by
  have hs : ∀ x ∈ [a, b, c, d], x < 4 := fun x hx => by
    have := h.subset hx
    simp only [List.mem_cons, List.not_mem_nil, or_false] at this
    omega
  exact ⟨hs a (by simp), hs b (by simp), hs c (by simp), hs d (by simp), h.nodup_iff.mpr (by decide)⟩
theorem ord_sort {a b c d : Nat} (h : Ord a b c d) : min a b < max a b ∧ min c d < max c d ∧ Ord (min a b) (max a b) (min c d) (max c d) := by
  obtain ⟨n1, n2, n3, n4, n5, n6⟩ := ord_nodup h
  obtain ⟨h1, h2, h3, h4, _⟩ := h
  refine ⟨by omega, by omega, by omega, by omega, by omega, by omega, ?_⟩
  simp only [List.nodup_cons, List.mem_cons, List.not_mem_nil, or_false, not_or, not_false_eq_true, and_true, List.nodup_nil]
  omega
def Lt.tag : Lt → Str
  | .who _ _ => "who"
  | .is _ _ _ _ => "is"
  | .still _ _ => "still"
  | .brk _ _ => "break"
theorem lt_tag {H : Hp} {v : V} {x : Lt} (h : Td H v x.d) : ∃ a vs, v = .ref a ∧ H a = some (.tup (.str x.tag :: vs)) := by
  cases x with
  | who p l =>
    cases h with
    | tup e r =>
      cases r with
      | cons h1 _ => cases h1; exact ⟨_, _, rfl, e⟩
  | is p a l h' =>
    cases h with
    | tup e r =>
      cases r with
      | cons h1 _ => cases h1; exact ⟨_, _, rfl, e⟩
  | still p k =>
    cases h with
    | tup e r =>
      cases r with
      | cons h1 _ => cases h1; exact ⟨_, _, rfl, e⟩
  | brk a w =>
    cases h with
    | tup e r =>
      cases r with
      | cons h1 _ => cases h1; exact ⟨_, _, rfl, e⟩
theorem tag_brk (x : Lt) : decide (V.str x.tag = V.str "break") = x.isBrk := by
  cases x with
  | who p l => exact (by decide +kernel : decide (V.str "who" = V.str "break") = false)
  | is p a l h => exact (by decide +kernel : decide (V.str "is" = V.str "break") = false)
  | still p k => exact (by decide +kernel : decide (V.str "still" = V.str "break") = false)
  | brk a w => exact (by decide +kernel : decide (V.str "break" = V.str "break") = true)
theorem lt_cmp15 (X : Lt) : X.d.canLay0 = true ∧ X.d.depth ≤ 59 := by
  refine ⟨?_, Nat.le_trans (lt_depth X) (by decide)⟩
  have key : ∀ p : Pth, (pathD p).canLay0 = true := fun p => (path_cmp p).1
  cases X with
  | who p l => simp [Lt.d, PyData.canLay0, PyData.canLayAll0, key p]; decide +kernel
  | is p a l h => simp [Lt.d, PyData.canLay0, PyData.canLayAll0, key p]; decide +kernel
  | still p i => simp [Lt.d, PyData.canLay0, PyData.canLayAll0, key p]; decide +kernel
  | brk a w => simp [Lt.d, PyData.canLay0, PyData.canLayAll0]; decide +kernel
theorem lts_cmp15 (rd : List Lt) : CmpAll (rd.map Lt.d) := CmpAll.of fun d hd => by
  obtain ⟨X, _, rfl⟩ := List.mem_map.mp hd
  exact lt_cmp15 X
/-- the break letters of a road -/
def brks (rd : List Lt) : List PyData := turns (fun i => (rd.getD i (.brk 0 0)).isBrk) (fun i => (rd.getD i (.brk 0 0)).d) rd.length
theorem brks_nil (rd : List Lt) : decide (brks rd = []) = rd.all (fun x => !x.isBrk) := by
  have h : brks rd = [] ↔ rd.all (fun x => !x.isBrk) = true := by
    unfold brks turns
    rw [List.map_eq_nil_iff, List.filter_eq_nil_iff, List.all_eq_true]
    constructor
    · intro k x hx
      obtain ⟨i, hi, rfl⟩ := List.mem_iff_getElem.mp hx
      have := k i (List.mem_range.mpr hi)
      rw [List.getD_eq_getElem?_getD, List.getElem?_eq_getElem hi] at this
      simpa using this
    · intro k i hi
      have hi' := List.mem_range.mp hi
      have := k rd[i] (List.getElem_mem hi')
      rw [List.getD_eq_getElem?_getD, List.getElem?_eq_getElem hi']
      simpa using this
  cases hb : rd.all (fun x => !x.isBrk) with
  | true => exact decide_eq_true (h.mpr hb)
  | false => exact decide_eq_false fun z => by rw [h.mp z] at hb; cases hb
theorem brks_cmp (rd : List Lt) : CmpAll (brks rd) := CmpAll.of fun d hd => by
  unfold brks turns at hd
  obtain ⟨i, hi, rfl⟩ := List.mem_map.mp hd
  exact lt_cmp15 _
end AL

namespace AL
open PySem PySem.Spec PyProof.Rows L2
/-! # long days: deeds in the readings -/
section
variable {K : PySem.W.Frag} {σ : L2.St} {H : Hp} {Q : VK}
theorem ask_no {M M' : Hl} {a l : Nat} {b : Bool} {w : Wd} (h : M.ev (.ask a l b) = some M') (e : (M.askR a l).1 = .error w) : False := by
  rw [(ev_ask h).1] at e; cases e
theorem ask_yes {A : HlA} {M M' : Hl} {a l : Nat} {b : Bool} {o : Ho} (h : M.ev (.ask a l b) = some M') (e : (M.askR a l).1 = .ok o) (hA : HlAt K H A (M.askR a l).2) : o = .b b ∧ HlAt K H A M' := by
  rw [(ev_ask h).1] at e
  cases e
  exact ⟨rfl, by rw [(ev_ask h).2]; exact hA⟩
theorem give_no {M M' : Hl} {a l : Nat} {b : Option Nat} {w : Wd} (h : M.ev (.give a l b) = some M') (e : (M.giveR a l).1 = .error w) : False := by
  rw [(ev_give h).1] at e; cases e
theorem give_yes {A : HlA} {M M' : Hl} {a l : Nat} {b : Option Nat} {o : Ho} (h : M.ev (.give a l b) = some M') (e : (M.giveR a l).1 = .ok o) (hA : HlAt K H A (M.giveR a l).2) : o = .o b ∧ HlAt K H A M' := by
  rw [(ev_give h).1] at e
  cases e
  exact ⟨rfl, by rw [(ev_give h).2]; exact hA⟩
theorem carry_lt {M M' : Hl} {i : Nat} (h : M.ev (.carry i) = some M') : M.isLt (i : Int) := by
  have hi := (ev_carry h).2.1
  exact ⟨by omega, by omega⟩
theorem carry_yes {A : HlA} {M M' : Hl} {i : Nat} (h : M.ev (.carry i) = some M') (hA : HlAt K H A (M.carry i)) : HlAt K H A M' := by rw [(ev_carry h).2.2]; exact hA
theorem lose_lt {M M' : Hl} {i : Nat} (h : M.ev (.lose i) = some M') : M.isLt (i : Int) := by
  have hi := (ev_if h).1
  exact ⟨by omega, by omega⟩
theorem lose_yes {A : HlA} {M M' : Hl} {i : Nat} (h : M.ev (.lose i) = some M') (hA : HlAt K H A (M.drop i)) : HlAt K H A M' := by rw [(ev_if h).2]; exact hA
theorem double_lt {M M' : Hl} {i : Nat} (h : M.ev (.double i) = some M') : M.isLt (i : Int) := by
  have hi := (ev_if h).1
  exact ⟨by omega, by omega⟩
theorem double_yes {A : HlA} {M M' : Hl} {i : Nat} (h : M.ev (.double i) = some M') (hA : HlAt K H A (M.lay (M.rd.getD i (.brk 0 0)))) : HlAt K H A M' := by rw [(ev_if h).2]; exact hA
theorem perm_cut {l : List Nat} {i : Nat} (h : i < l.length) : (l[i] :: l.eraseIdx i).Perm l := by
  induction l generalizing i with
  | nil => exact absurd h (Nat.not_lt_zero _)
  | cons a r ih =>
    cases i with
    | zero => exact .refl _
    | succ i =>
      have hi : i < r.length := by simpa using h
      have := ih (i := i) hi
      show (r[i] :: a :: r.eraseIdx i).Perm (a :: r)
      exact (List.Perm.swap a r[i] _).trans (this.cons a)
theorem r_slTo15 {a : Addr} {xs : List V} {k : Nat} {k' : Int} (ek : k' = (k : Int)) (h : H a = some (.lst xs)) (hk : k ≤ xs.length) (q : ∀ p H', H p = none → H' p = some (.lst (xs.take k)) → Fr No H H' → Q (.ref p) H') : rSlL K (.ref a) none (some k') H Q := by
  subst ek
  refine ⟨a, xs, rfl, SqL.of h, ?_⟩
  have e : cutV xs none (some (k : Int)) = xs.take k := by
    unfold cutV
    rw [HT.sIx_nat, HT.sIx_none, Nat.min_eq_left hk]
    simp
  rw [e]
  exact r_new q
theorem r_slFrom15 {a : Addr} {xs : List V} {k : Nat} {k' : Int} (ek : k' = (k : Int)) (h : H a = some (.lst xs)) (hk : k ≤ xs.length) (q : ∀ p H', H p = none → H' p = some (.lst (xs.drop k)) → Fr No H H' → Q (.ref p) H') : rSlL K (.ref a) (some k') none H Q := by
  subst ek
  refine ⟨a, xs, rfl, SqL.of h, ?_⟩
  have e : cutV xs (some (k : Int)) none = xs.drop k := by
    unfold cutV
    rw [HT.sIx_nat, HT.sIx_none, Nat.min_eq_left hk]
    exact List.take_of_length_le (by rw [List.length_drop]; exact Nat.le_refl _)
  rw [e]
  exact r_new q
end
theorem road_depth (rd : List Lt) : PyData.depth (.list (rd.map Lt.d)) < 8 := by
  have h1 := depth_all (f := Lt.d) (k := 3) (xs := rd) fun x _ => lt_depth x
  simp only [PyData.depth]
  omega
theorem told_depth (tl : List (Pth × Nat)) : PyData.depth (.list (tl.map tellD)) < 8 := by
  have h2 := depth_all (f := tellD) (k := 3) (xs := tl) fun x _ => (tell_cmp x).2
  simp only [PyData.depth]
  omega
theorem brok_depth15 (br : List (Nat × Nat)) : PyData.depth (.list (br.map brokD)) < 8 := by
  have h3 := depth_all (f := brokD) (k := 1) (xs := br) fun x _ => brok_depth x
  simp only [PyData.depth]
  omega
theorem two_depth {xs ys : List PyData} (h1 : PyData.depthAll xs ≤ 5) (h2 : PyData.depthAll ys ≤ 5) : PyData.depth (.list [.list xs, .list ys]) < 8 := by
  simp only [PyData.depth, PyData.depthAll]
  omega
theorem roadA (rd : List Lt) : PyData.depthAll (rd.map Lt.d) ≤ 5 := Nat.le_trans (depth_all (f := Lt.d) (k := 3) (xs := rd) fun x _ => lt_depth x) (by decide)
theorem toldA (tl : List (Pth × Nat)) : PyData.depthAll (tl.map tellD) ≤ 5 := Nat.le_trans (depth_all (f := tellD) (k := 3) (xs := tl) fun x _ => (tell_cmp x).2) (by decide)
theorem brokA (br : List (Nat × Nat)) : PyData.depthAll (br.map brokD) ≤ 5 := Nat.le_trans (depth_all (f := brokD) (k := 1) (xs := br) fun x _ => brok_depth x) (by decide)
theorem int_cmp15 (i : Int) : (PyData.int i).canLay0 = true ∧ (PyData.int i).depth ≤ 59 := ⟨rfl, by simp [PyData.depth]⟩
theorem non_cmp15 : (PyData.none).canLay0 = true ∧ (PyData.none).depth ≤ 59 := ⟨rfl, by simp [PyData.depth]⟩
theorem fresh_room {k : Nat} : (Hl.fresh 4 4 k).Room 60 := ⟨by show 0 + 8 * 60 ≤ 1900; omega, by show 0 + 60 ≤ 1900; omega, by show 0 + 60 ≤ 1900; omega⟩
def waitsA (o x l0 l1 : Nat) : List Ev := [.ask x l0 true, .ask o l1 true, .ask x l1 false, .ask o l0 false, .lose 1]
def waitsR (o x l0 : Nat) : List Ev := [.road [.still [⟨x, 1, 1⟩, ⟨o, 1, 1⟩] 1],
  .double 0, .carry 0, .carry 1, .double 1, .carry 1, .told [([⟨x, 1, 1⟩, ⟨o, 1, 1⟩], o)], .broke [(o, 1)], .ask o l0 false, .carry 0, .carry 0, .road [.who [⟨o, 2, 0⟩] l0], .wants o (some l0), .told [([⟨x, 1, 1⟩, ⟨o, 1, 1⟩], o)], .broke [(o, 1)]]
theorem waitsE_eq (o x l0 l1 : Nat) : waitsE o x l0 l1 = waitsA o x l0 l1 ++ (List.replicate 4 (.carry 0) ++ waitsR o x l0) := rfl
end AL

namespace AL
open PySem PySem.Spec PyProof.Rows L2
/-! # long days: the law's own readings -/
theorem Hl.Room.less {M : Hl} {n m : Nat} (h : M.Room n) (k : m ≤ n) : M.Room m := ⟨by have := h.rd; omega, by have := h.tl; omega, by have := h.br; omega⟩
theorem evs_room : ∀ {es : List Ev} {n : Nat} {M M' : Hl}, M.Ok → M.Room (n + es.length) → M.evs es = some M' → M'.Room n
  | [], n, M, M', O, R, h => by cases h; exact R
  | e :: es, n, M, M', O, R, h => by
    obtain ⟨M1, h1, h2⟩ := evs_cons h
    exact evs_room (ev_ok O h1) (ev_room (n := n + es.length) O (by rw [List.length_cons] at R; exact R) h1) h2
section
variable {f0 f1 o x L0 L1 L2 L3 t : Nat} {M : Hl}
theorem day_tl (B : Base f0 f1 o x L0 L1 L2 L3 M) : (dayM o x L2 L3 t M).tl = fstR f0 f1 :: olds o x t := by
  show M.tl.take 1 ++ olds o x t ++ (M.tl.drop 1).map _ = _
  rw [B.tl]
  show [fstR f0 f1] ++ olds o x t ++ [] = _
  rw [List.append_nil]
  rfl
theorem day_br (B : Base f0 f1 o x L0 L1 L2 L3 M) : (dayM o x L2 L3 t M).br = oldb o t := by
  show oldb o t ++ M.br.map _ = _
  rw [B.br]
  exact List.append_nil _
theorem olds_len {o x t : Nat} : (olds o x t).length = t := by unfold olds; rw [List.length_map, List.length_range]
theorem oldb_len {o t : Nat} : (oldb o t).length = t := by unfold oldb; rw [List.length_map, List.length_range]
theorem day_room (B : Base f0 f1 o x L0 L1 L2 L3 M) (h : t ≤ 150) : (dayM o x L2 L3 t M).Room 100 := by
  refine ⟨?_, ?_, ?_⟩
  · rw [day_rd B]; show 0 + 8 * 100 ≤ 1900; omega
  · rw [day_tl B, List.length_cons, olds_len]; omega
  · rw [day_br B, oldb_len]; omega
end
section
variable {K : PySem.W.Frag} {H : Hp} {Q : VK}
theorem tdAll_snoc15 {H : Hp} {d : PyData} : ∀ {ds : List PyData} {vs : List V}, TdAll H vs (ds ++ [d]) → ∃ ws u, vs = ws ++ [u] ∧ Td H u d
  | [], _, h => by
    cases h with
    | cons a b => cases b; exact ⟨[], _, rfl, a⟩
  | e :: r, _, h => by
    cases h with
    | cons a b =>
      obtain ⟨ws, u, rfl, t⟩ := tdAll_snoc15 (ds := r) b
      exact ⟨_ :: ws, u, rfl, t⟩
theorem atI_last15 {xs : List V} {v : V} : atI (xs ++ [v]) (-1) = some v := by
  unfold atI ixN
  rw [if_neg (by decide), List.length_append, List.length_singleton, if_pos (by omega)]
  have e : ((-1 : Int) + ((xs.length + 1 : Nat) : Int)).toNat = xs.length := by omega
  rw [e]
  simp
/-- the last of a list -/
theorem r_ixLast15 {a : Addr} {ds : List PyData} {d : PyData} (h : LsAt H a (ds ++ [d])) (q : ∀ v, Td H v d → Q v H) : rIxL K (.ref a) (.int (-1)) H Q := by
  obtain ⟨vs, e, t⟩ := h
  obtain ⟨ws, u, rfl, tu⟩ := tdAll_snoc15 t
  exact ⟨a, _, _, _, rfl, rfl, SqL.of e, atI_last15, q u tu⟩
theorem r_neSameT15 {v w : V} {d : PyData} (h1 : Td H v d) (h2 : Td H w d) (hc : d.canLay0 = true ∧ d.depth ≤ 59) (q : Q (.bl false) H) : rNeD K v w H Q :=
  ⟨_, _, h1.dp, h2.dp, (show Cmp d from ⟨hc.1, Nat.le_trans hc.2 (by decide)⟩).shaped, (show Cmp d from ⟨hc.1, Nat.le_trans hc.2 (by decide)⟩).shaped, by rw [SeqAt.eqv_refl _ hc.1]; exact q⟩
theorem brok_cmp15 (c : Nat × Nat) : (brokD c).canLay0 = true ∧ (brokD c).depth ≤ 59 := by
  refine ⟨by simp [brokD, PyData.canLay0, PyData.canLayAll0], ?_⟩
  simp only [brokD, PyData.depth, PyData.depthAll]
  omega
theorem ring_cmp15 (r : List Nat) : (ringD r).canLay0 = true ∧ (ringD r).depth ≤ 59 := by
  have k : ∀ r : List Nat, PyData.canLayAll0 (r.map fun x : Nat => PyData.int (x : Int)) = true ∧ PyData.depthAll (r.map fun x : Nat => PyData.int (x : Int)) = 0 := fun r => by
    induction r with
    | nil => exact ⟨by simp [PyData.canLayAll0], by simp [PyData.depthAll]⟩
    | cons a r ih => exact ⟨by simp only [List.map_cons, PyData.canLayAll0, ih.1, PyData.canLay0, Bool.and_self], by simp only [List.map_cons, PyData.depthAll, PyData.depth, ih.2]; rfl⟩
  unfold ringD
  refine ⟨by simp only [PyData.canLay0]; exact (k r).1, ?_⟩
  simp only [PyData.depth, (k r).2]
  omega
theorem rings_cmp15 (rs : List (List Nat)) : CmpAll (rs.map ringD) := CmpAll.of fun d hd => by
  obtain ⟨r, _, rfl⟩ := List.mem_map.mp hd
  exact ring_cmp15 r
/-- an agent's tuple, a path of two, a telling -/
theorem td_pt15 {p : Addr} {x : Pt} (h : H p = some (.tup [.int (x.a : Int), .int (x.w : Int), .int (x.g : Int)])) : Td H (.ref p) x.d := .tup h (.cons (.int _) (.cons (.int _) (.cons (.int _) .nil)))
theorem td_tell15 {p q : Addr} {u v : V} {x y : Pt} {b : Nat} (hu : Td H u x.d) (hv : Td H v y.d) (h : H p = some (.tup [u, v])) (h2 : H q = some (.tup [.ref p, .int (b : Int)])) : Td H (.ref q) (tellD ([x, y], b)) :=
  .tup h2 (.cons (.tup h (.cons hu (.cons hv .nil))) (.cons (.int _) .nil))
/-- what a list tells, one more behind it -/
theorem r_appLs15 {a : Addr} {ds : List PyData} {d : PyData} {v : V} (h : LsAt H a ds) (hv : Td H v d) (hl : ds.length ≤ 2000) (q : ∀ H', LsAt H' a (ds ++ [d]) → Fr (Only1 a) H H' → Q .non H') : rAppend (.ref a) [v] H Q := by
  obtain ⟨vs, e, t⟩ := h
  have f : Fr (Only1 a) H (upd H a (.lst (vs ++ [v]))) := Fr.put e (fun xs z => by cases z)
  refine r_append e (by rw [t.len]; exact hl) (q _ ⟨_, upd_same, ?_⟩ f)
  have h1 : TdAll H (vs ++ [v]) (ds ++ [d]) := t.app (TdAll.one hv)
  exact h1.fr f
theorem td_bl_ne {p : Addr} : True := trivial
end
end AL

namespace AL
open PySem PySem.Spec PyProof.Rows L2
def top (i : Nat) : Stmt := PySem.Challenge.pw_asklock_k15_whole_long_days.main.body.getD i (.Pass ⟨0, 0, 0, 0⟩)
abbrev s_next_of : Stmt := top 13
abbrev s_chain : Stmt := top 14
abbrev s_ring_of : Stmt := top 15
abbrev s_rings : Stmt := top 16
abbrev s_lightest : Stmt := top 17
abbrev s_t_init : Stmt := inClass (top 21) 0
abbrev s_t_copied : Stmt := inClass (top 21) 1
abbrev s_t_need_agent : Stmt := inClass (top 21) 2
abbrev s_t_need_lock : Stmt := inClass (top 21) 3
abbrev s_t_need_both : Stmt := inClass (top 21) 4
abbrev s_t_need_free_to : Stmt := inClass (top 21) 5
abbrev s_t_take : Stmt := inClass (top 21) 6
abbrev s_t_ask : Stmt := inClass (top 21) 7
abbrev s_t_pass_on : Stmt := inClass (top 21) 8
abbrev s_t_give : Stmt := inClass (top 21) 9
abbrev s_t_leave : Stmt := inClass (top 21) 10
abbrev s_t_waits : Stmt := inClass (top 21) 11
abbrev s_t_held : Stmt := inClass (top 21) 12
abbrev s_t_wait_number : Stmt := inClass (top 21) 13
abbrev s_t_holder : Stmt := inClass (top 21) 14
abbrev s_t_hold_number : Stmt := inClass (top 21) 16
abbrev s_t_agents : Stmt := inClass (top 21) 17
abbrev s_t_locks : Stmt := inClass (top 21) 18
abbrev s_made_table : Stmt := top 24
abbrev s_h_init : Stmt := inClass (top 25) 0
abbrev s_h_is_down : Stmt := inClass (top 25) 1
abbrev s_h_need_up : Stmt := inClass (top 25) 2
abbrev s_h_ask : Stmt := inClass (top 25) 3
abbrev s_h_give : Stmt := inClass (top 25) 4
abbrev s_h_own : Stmt := inClass (top 25) 5
abbrev s_h_seek : Stmt := inClass (top 25) 6
abbrev s_h_again : Stmt := inClass (top 25) 7
abbrev s_h_waits_by : Stmt := inClass (top 25) 8
abbrev s_h_house_number : Stmt := inClass (top 25) 9
abbrev s_h_carry : Stmt := inClass (top 25) 10
abbrev s_h_who : Stmt := inClass (top 25) 11
abbrev s_h_come : Stmt := inClass (top 25) 12
abbrev s_h_still : Stmt := inClass (top 25) 13
abbrev s_h_need_letter : Stmt := inClass (top 25) 14
abbrev s_h_lose : Stmt := inClass (top 25) 15
abbrev s_h_double : Stmt := inClass (top 25) 16
abbrev s_h_road : Stmt := inClass (top 25) 20
abbrev s_h_told : Stmt := inClass (top 25) 21
abbrev s_h_broken : Stmt := inClass (top 25) 22
abbrev s_h_table : Stmt := inClass (top 25) 23
abbrev s_Lstart : Stmt := top 27
abbrev s_Ldrawn : Stmt := top 28
abbrev s_Lsame : Stmt := top 29
abbrev s_Lcarried : Stmt := top 30
abbrev s_Lto_still : Stmt := top 31
abbrev s_Lorder : Stmt := top 32
abbrev s_Lring : Stmt := top 33
abbrev s_Lheld_anew : Stmt := top 34
abbrev s_Lwaits_anew : Stmt := top 35
abbrev s_law : Stmt := top 36
def scopeOf (x : Str) : Scope :=  ⟨.function, [], false, false, []⟩
def tf : List He.Defn := []
def Ts (K : PySem.W.Frag) : List (Addr × Str) := tf.map fun d => ((He.cT K d).2, lamQ d.1 (scopeOf d.1))
def TBs (base : Heap) (mg : Str → Option Value) (K : PySem.W.Frag) : Prop := ∀ d ∈ tf, LamX.TabB base mg (He.cT K d).1 (He.cT K d).2
structure Txt (K : PySem.W.Frag) (mg : Str → Option Value) : Prop where
  ts : (tf.map fun d => (He.cT K d).2).Nodup
  e_LockError : ExT K mg "LockError"
  e_NoTable : ExT K mg "NoTable"
  e_NoHall : ExT K mg "NoHall"
  e_NoAgent : ExT K mg "NoAgent"
  e_NoLock : ExT K mg "NoLock"
  e_NoLetter : ExT K mg "NoLetter"
  e_Stopped : ExT K mg "Stopped"
  e_Waits : ExT K mg "Waits"
  e_Holds : ExT K mg "Holds"
  e_NotHeld : ExT K mg "NotHeld"
  g_Table : mg "Table" = some (.ref (He.ga K "Table"))
  c_Table : Cls K (He.ga K "Table")
  k_Table : Mk K (He.ga K "Table") (He.ma K (He.ga K "Table") "__init__")
  n_owners : NoAttr K (He.ga K "Table") "owners"
  n_lines : NoAttr K (He.ga K "Table") "lines"
  n_times : NoAttr K (He.ga K "Table") "times"
  n_wants : NoAttr K (He.ga K "Table") "wants"
  n_rounds : NoAttr K (He.ga K "Table") "rounds"
  g_Hall : mg "Hall" = some (.ref (He.ga K "Hall"))
  c_Hall : Cls K (He.ga K "Hall")
  k_Hall : Mk K (He.ga K "Hall") (He.ma K (He.ga K "Hall") "__init__")
  n_main : NoAttr K (He.ga K "Hall") "main"
  n_down : NoAttr K (He.ga K "Hall") "down"
  n_letters : NoAttr K (He.ga K "Hall") "letters"
  n_tellings : NoAttr K (He.ga K "Hall") "tellings"
  n_breakings : NoAttr K (He.ga K "Hall") "breakings"
  g_next_of : mg "next_of" = some (.ref (He.ga K "next_of"))
  f_next_of : DefAt K "next_of" "next_of" s_next_of (He.ga K "next_of")
  g_chain : mg "chain" = some (.ref (He.ga K "chain"))
  f_chain : DefAt K "chain" "chain" s_chain (He.ga K "chain")
  g_ring_of : mg "ring_of" = some (.ref (He.ga K "ring_of"))
  f_ring_of : DefAt K "ring_of" "ring_of" s_ring_of (He.ga K "ring_of")
  g_rings : mg "rings" = some (.ref (He.ga K "rings"))
  f_rings : DefAt K "rings" "rings" s_rings (He.ga K "rings")
  g_lightest : mg "lightest" = some (.ref (He.ga K "lightest"))
  f_lightest : DefAt K "lightest" "lightest" s_lightest (He.ga K "lightest")
  f_t_init : DefAt K "__init__" "Table.__init__" s_t_init (He.ma K (He.ga K "Table") "__init__")
  m_t_copied : Meth K (He.ga K "Table") "copied" (He.ma K (He.ga K "Table") "copied")
  f_t_copied : DefAt K "copied" "Table.copied" s_t_copied (He.ma K (He.ga K "Table") "copied")
  m_t_need_agent : Meth K (He.ga K "Table") "need_agent" (He.ma K (He.ga K "Table") "need_agent")
  f_t_need_agent : DefAt K "need_agent" "Table.need_agent" s_t_need_agent (He.ma K (He.ga K "Table") "need_agent")
  m_t_need_lock : Meth K (He.ga K "Table") "need_lock" (He.ma K (He.ga K "Table") "need_lock")
  f_t_need_lock : DefAt K "need_lock" "Table.need_lock" s_t_need_lock (He.ma K (He.ga K "Table") "need_lock")
  m_t_need_both : Meth K (He.ga K "Table") "need_both" (He.ma K (He.ga K "Table") "need_both")
  f_t_need_both : DefAt K "need_both" "Table.need_both" s_t_need_both (He.ma K (He.ga K "Table") "need_both")
  m_t_need_free_to : Meth K (He.ga K "Table") "need_free_to" (He.ma K (He.ga K "Table") "need_free_to")
  f_t_need_free_to : DefAt K "need_free_to" "Table.need_free_to" s_t_need_free_to (He.ma K (He.ga K "Table") "need_free_to")
  m_t_take : Meth K (He.ga K "Table") "take" (He.ma K (He.ga K "Table") "take")
  f_t_take : DefAt K "take" "Table.take" s_t_take (He.ma K (He.ga K "Table") "take")
  m_t_ask : Meth K (He.ga K "Table") "ask" (He.ma K (He.ga K "Table") "ask")
  f_t_ask : DefAt K "ask" "Table.ask" s_t_ask (He.ma K (He.ga K "Table") "ask")
  m_t_pass_on : Meth K (He.ga K "Table") "pass_on" (He.ma K (He.ga K "Table") "pass_on")
  f_t_pass_on : DefAt K "pass_on" "Table.pass_on" s_t_pass_on (He.ma K (He.ga K "Table") "pass_on")
  m_t_give : Meth K (He.ga K "Table") "give" (He.ma K (He.ga K "Table") "give")
  f_t_give : DefAt K "give" "Table.give" s_t_give (He.ma K (He.ga K "Table") "give")
  m_t_leave : Meth K (He.ga K "Table") "leave" (He.ma K (He.ga K "Table") "leave")
  f_t_leave : DefAt K "leave" "Table.leave" s_t_leave (He.ma K (He.ga K "Table") "leave")
  m_t_waits : Meth K (He.ga K "Table") "waits" (He.ma K (He.ga K "Table") "waits")
  f_t_waits : DefAt K "waits" "Table.waits" s_t_waits (He.ma K (He.ga K "Table") "waits")
  m_t_held : Meth K (He.ga K "Table") "held" (He.ma K (He.ga K "Table") "held")
  f_t_held : DefAt K "held" "Table.held" s_t_held (He.ma K (He.ga K "Table") "held")
  m_t_wait_number : Meth K (He.ga K "Table") "wait_number" (He.ma K (He.ga K "Table") "wait_number")
  f_t_wait_number : DefAt K "wait_number" "Table.wait_number" s_t_wait_number (He.ma K (He.ga K "Table") "wait_number")
  m_t_holder : Meth K (He.ga K "Table") "holder" (He.ma K (He.ga K "Table") "holder")
  f_t_holder : DefAt K "holder" "Table.holder" s_t_holder (He.ma K (He.ga K "Table") "holder")
  m_t_hold_number : Meth K (He.ga K "Table") "hold_number" (He.ma K (He.ga K "Table") "hold_number")
  f_t_hold_number : DefAt K "hold_number" "Table.hold_number" s_t_hold_number (He.ma K (He.ga K "Table") "hold_number")
  m_t_agents : Meth K (He.ga K "Table") "agents" (He.ma K (He.ga K "Table") "agents")
  f_t_agents : DefAt K "agents" "Table.agents" s_t_agents (He.ma K (He.ga K "Table") "agents")
  m_t_locks : Meth K (He.ga K "Table") "locks" (He.ma K (He.ga K "Table") "locks")
  f_t_locks : DefAt K "locks" "Table.locks" s_t_locks (He.ma K (He.ga K "Table") "locks")
  g_made_table : mg "made_table" = some (.ref (He.ga K "made_table"))
  f_made_table : DefAt K "made_table" "made_table" s_made_table (He.ga K "made_table")
  f_h_init : DefAt K "__init__" "Hall.__init__" s_h_init (He.ma K (He.ga K "Hall") "__init__")
  m_h_is_down : Meth K (He.ga K "Hall") "is_down" (He.ma K (He.ga K "Hall") "is_down")
  f_h_is_down : DefAt K "is_down" "Hall.is_down" s_h_is_down (He.ma K (He.ga K "Hall") "is_down")
  m_h_need_up : Meth K (He.ga K "Hall") "need_up" (He.ma K (He.ga K "Hall") "need_up")
  f_h_need_up : DefAt K "need_up" "Hall.need_up" s_h_need_up (He.ma K (He.ga K "Hall") "need_up")
  m_h_ask : Meth K (He.ga K "Hall") "ask" (He.ma K (He.ga K "Hall") "ask")
  f_h_ask : DefAt K "ask" "Hall.ask" s_h_ask (He.ma K (He.ga K "Hall") "ask")
  m_h_give : Meth K (He.ga K "Hall") "give" (He.ma K (He.ga K "Hall") "give")
  f_h_give : DefAt K "give" "Hall.give" s_h_give (He.ma K (He.ga K "Hall") "give")
  m_h_own : Meth K (He.ga K "Hall") "own" (He.ma K (He.ga K "Hall") "own")
  f_h_own : DefAt K "own" "Hall.own" s_h_own (He.ma K (He.ga K "Hall") "own")
  m_h_seek : Meth K (He.ga K "Hall") "seek" (He.ma K (He.ga K "Hall") "seek")
  f_h_seek : DefAt K "seek" "Hall.seek" s_h_seek (He.ma K (He.ga K "Hall") "seek")
  m_h_again : Meth K (He.ga K "Hall") "again" (He.ma K (He.ga K "Hall") "again")
  f_h_again : DefAt K "again" "Hall.again" s_h_again (He.ma K (He.ga K "Hall") "again")
  m_h_waits_by : Meth K (He.ga K "Hall") "waits_by" (He.ma K (He.ga K "Hall") "waits_by")
  f_h_waits_by : DefAt K "waits_by" "Hall.waits_by" s_h_waits_by (He.ma K (He.ga K "Hall") "waits_by")
  m_h_house_number : Meth K (He.ga K "Hall") "house_number" (He.ma K (He.ga K "Hall") "house_number")
  f_h_house_number : DefAt K "house_number" "Hall.house_number" s_h_house_number (He.ma K (He.ga K "Hall") "house_number")
  m_h_carry : Meth K (He.ga K "Hall") "carry" (He.ma K (He.ga K "Hall") "carry")
  f_h_carry : DefAt K "carry" "Hall.carry" s_h_carry (He.ma K (He.ga K "Hall") "carry")
  m_h_who : Meth K (He.ga K "Hall") "who" (He.ma K (He.ga K "Hall") "who")
  f_h_who : DefAt K "who" "Hall.who" s_h_who (He.ma K (He.ga K "Hall") "who")
  m_h_come : Meth K (He.ga K "Hall") "come" (He.ma K (He.ga K "Hall") "come")
  f_h_come : DefAt K "come" "Hall.come" s_h_come (He.ma K (He.ga K "Hall") "come")
  m_h_still : Meth K (He.ga K "Hall") "still" (He.ma K (He.ga K "Hall") "still")
  f_h_still : DefAt K "still" "Hall.still" s_h_still (He.ma K (He.ga K "Hall") "still")
  m_h_need_letter : Meth K (He.ga K "Hall") "need_letter" (He.ma K (He.ga K "Hall") "need_letter")
  f_h_need_letter : DefAt K "need_letter" "Hall.need_letter" s_h_need_letter (He.ma K (He.ga K "Hall") "need_letter")
  m_h_lose : Meth K (He.ga K "Hall") "lose" (He.ma K (He.ga K "Hall") "lose")
  f_h_lose : DefAt K "lose" "Hall.lose" s_h_lose (He.ma K (He.ga K "Hall") "lose")
  m_h_double : Meth K (He.ga K "Hall") "double" (He.ma K (He.ga K "Hall") "double")
  f_h_double : DefAt K "double" "Hall.double" s_h_double (He.ma K (He.ga K "Hall") "double")
  m_h_road : Meth K (He.ga K "Hall") "road" (He.ma K (He.ga K "Hall") "road")
  f_h_road : DefAt K "road" "Hall.road" s_h_road (He.ma K (He.ga K "Hall") "road")
  m_h_told : Meth K (He.ga K "Hall") "told" (He.ma K (He.ga K "Hall") "told")
  f_h_told : DefAt K "told" "Hall.told" s_h_told (He.ma K (He.ga K "Hall") "told")
  m_h_broken : Meth K (He.ga K "Hall") "broken" (He.ma K (He.ga K "Hall") "broken")
  f_h_broken : DefAt K "broken" "Hall.broken" s_h_broken (He.ma K (He.ga K "Hall") "broken")
  m_h_table : Meth K (He.ga K "Hall") "table" (He.ma K (He.ga K "Hall") "table")
  f_h_table : DefAt K "table" "Hall.table" s_h_table (He.ma K (He.ga K "Hall") "table")
  g_Lstart : mg "_law_start" = some (.ref (He.ga K "_law_start"))
  f_Lstart : DefAt K "_law_start" "_law_start" s_Lstart (He.ga K "_law_start")
  g_Ldrawn : mg "_law_drawn" = some (.ref (He.ga K "_law_drawn"))
  f_Ldrawn : DefAt K "_law_drawn" "_law_drawn" s_Ldrawn (He.ga K "_law_drawn")
  g_Lsame : mg "_law_same" = some (.ref (He.ga K "_law_same"))
  f_Lsame : DefAt K "_law_same" "_law_same" s_Lsame (He.ga K "_law_same")
  g_Lcarried : mg "_law_carried" = some (.ref (He.ga K "_law_carried"))
  f_Lcarried : DefAt K "_law_carried" "_law_carried" s_Lcarried (He.ga K "_law_carried")
  g_Lto_still : mg "_law_to_still" = some (.ref (He.ga K "_law_to_still"))
  f_Lto_still : DefAt K "_law_to_still" "_law_to_still" s_Lto_still (He.ga K "_law_to_still")
  g_Lorder : mg "_law_order" = some (.ref (He.ga K "_law_order"))
  f_Lorder : DefAt K "_law_order" "_law_order" s_Lorder (He.ga K "_law_order")
  g_Lring : mg "_law_ring" = some (.ref (He.ga K "_law_ring"))
  f_Lring : DefAt K "_law_ring" "_law_ring" s_Lring (He.ga K "_law_ring")
  g_Lheld_anew : mg "_law_held_anew" = some (.ref (He.ga K "_law_held_anew"))
  f_Lheld_anew : DefAt K "_law_held_anew" "_law_held_anew" s_Lheld_anew (He.ga K "_law_held_anew")
  g_Lwaits_anew : mg "_law_waits_anew" = some (.ref (He.ga K "_law_waits_anew"))
  f_Lwaits_anew : DefAt K "_law_waits_anew" "_law_waits_anew" s_Lwaits_anew (He.ga K "_law_waits_anew")
  g_law : mg "law" = some (.ref (He.ga K "law"))
  f_law : DefAt K "law" "law" s_law (He.ga K "law")
  z_ValueError : mg "ValueError" = none
  z_bool : mg "bool" = none
  z_int : mg "int" = none
  z_isinstance : mg "isinstance" = none
  z_len : mg "len" = none
  z_list : mg "list" = none
  z_max : mg "max" = none
  z_min : mg "min" = none
  z_range : mg "range" = none
  z_sorted : mg "sorted" = none
  z_str : mg "str" = none
  z_tuple : mg "tuple" = none
  i_MOST_AGENTS : ∃ t, mg "MOST_AGENTS" = some (.int 8 t)
  i_MOST_LOCKS : ∃ t, mg "MOST_LOCKS" = some (.int 12 t)
  i_MOST_HOUSES : ∃ t, mg "MOST_HOUSES" = some (.int 4 t)
  t___name__ : ∃ t, mg "__name__" = some (.str "law_asklock_k15_whole_long_days" t)
  xm : PySem.W.exmOne K (.ref (He.ga K "NoTable")) (.ref (He.ga K "NoTable")) = some true
theorem Txt.tb {K : PySem.W.Frag} {mg : Str → Option Value} (T : Txt K mg) : TbTxt K (tbC K) := ⟨T.c_Table, T.n_owners, T.n_lines, T.n_times, T.n_wants, T.n_rounds⟩
theorem Txt.hl {K : PySem.W.Frag} {mg : Str → Option Value} (T : Txt K mg) : HlTxt K := ⟨T.c_Hall, T.n_main, T.n_down, T.n_letters, T.n_tellings, T.n_breakings⟩
def d_next_of : He.DefD := ⟨("next_of", none), "next_of", "next_of", defArgs s_next_of, defBody s_next_of, defScope s_next_of, [], []⟩
def d_chain : He.DefD := ⟨("chain", none), "chain", "chain", defArgs s_chain, defBody s_chain, defScope s_chain, [], []⟩
def d_ring_of : He.DefD := ⟨("ring_of", none), "ring_of", "ring_of", defArgs s_ring_of, defBody s_ring_of, defScope s_ring_of, [], []⟩
def d_rings : He.DefD := ⟨("rings", none), "rings", "rings", defArgs s_rings, defBody s_rings, defScope s_rings, [], []⟩
def d_lightest : He.DefD := ⟨("lightest", none), "lightest", "lightest", defArgs s_lightest, defBody s_lightest, defScope s_lightest, [], []⟩
def d_t_init : He.DefD := ⟨("Table", some "__init__"), "__init__", "Table.__init__", defArgs s_t_init, defBody s_t_init, defScope s_t_init, [], []⟩
def d_t_copied : He.DefD := ⟨("Table", some "copied"), "copied", "Table.copied", defArgs s_t_copied, defBody s_t_copied, defScope s_t_copied, [], []⟩
def d_t_need_agent : He.DefD := ⟨("Table", some "need_agent"), "need_agent", "Table.need_agent", defArgs s_t_need_agent, defBody s_t_need_agent, defScope s_t_need_agent, [], []⟩
def d_t_need_lock : He.DefD := ⟨("Table", some "need_lock"), "need_lock", "Table.need_lock", defArgs s_t_need_lock, defBody s_t_need_lock, defScope s_t_need_lock, [], []⟩
def d_t_need_both : He.DefD := ⟨("Table", some "need_both"), "need_both", "Table.need_both", defArgs s_t_need_both, defBody s_t_need_both, defScope s_t_need_both, [], []⟩
def d_t_need_free_to : He.DefD := ⟨("Table", some "need_free_to"), "need_free_to", "Table.need_free_to", defArgs s_t_need_free_to, defBody s_t_need_free_to, defScope s_t_need_free_to, [], []⟩
def d_t_take : He.DefD := ⟨("Table", some "take"), "take", "Table.take", defArgs s_t_take, defBody s_t_take, defScope s_t_take, [], []⟩
def d_t_ask : He.DefD := ⟨("Table", some "ask"), "ask", "Table.ask", defArgs s_t_ask, defBody s_t_ask, defScope s_t_ask, [], []⟩
def d_t_pass_on : He.DefD := ⟨("Table", some "pass_on"), "pass_on", "Table.pass_on", defArgs s_t_pass_on, defBody s_t_pass_on, defScope s_t_pass_on, [], []⟩
def d_t_give : He.DefD := ⟨("Table", some "give"), "give", "Table.give", defArgs s_t_give, defBody s_t_give, defScope s_t_give, [], []⟩
def d_t_leave : He.DefD := ⟨("Table", some "leave"), "leave", "Table.leave", defArgs s_t_leave, defBody s_t_leave, defScope s_t_leave, [], []⟩
def d_t_waits : He.DefD := ⟨("Table", some "waits"), "waits", "Table.waits", defArgs s_t_waits, defBody s_t_waits, defScope s_t_waits, [], []⟩
def d_t_held : He.DefD := ⟨("Table", some "held"), "held", "Table.held", defArgs s_t_held, defBody s_t_held, defScope s_t_held, [], []⟩
def d_t_wait_number : He.DefD := ⟨("Table", some "wait_number"), "wait_number", "Table.wait_number", defArgs s_t_wait_number, defBody s_t_wait_number, defScope s_t_wait_number, [], []⟩
def d_t_holder : He.DefD := ⟨("Table", some "holder"), "holder", "Table.holder", defArgs s_t_holder, defBody s_t_holder, defScope s_t_holder, [], []⟩
def d_t_hold_number : He.DefD := ⟨("Table", some "hold_number"), "hold_number", "Table.hold_number", defArgs s_t_hold_number, defBody s_t_hold_number, defScope s_t_hold_number, [], []⟩
def d_t_agents : He.DefD := ⟨("Table", some "agents"), "agents", "Table.agents", defArgs s_t_agents, defBody s_t_agents, defScope s_t_agents, [], []⟩
def d_t_locks : He.DefD := ⟨("Table", some "locks"), "locks", "Table.locks", defArgs s_t_locks, defBody s_t_locks, defScope s_t_locks, [], []⟩
def d_made_table : He.DefD := ⟨("made_table", none), "made_table", "made_table", defArgs s_made_table, defBody s_made_table, defScope s_made_table, [], []⟩
def d_h_init : He.DefD := ⟨("Hall", some "__init__"), "__init__", "Hall.__init__", defArgs s_h_init, defBody s_h_init, defScope s_h_init, [], []⟩
def d_h_is_down : He.DefD := ⟨("Hall", some "is_down"), "is_down", "Hall.is_down", defArgs s_h_is_down, defBody s_h_is_down, defScope s_h_is_down, [], []⟩
def d_h_need_up : He.DefD := ⟨("Hall", some "need_up"), "need_up", "Hall.need_up", defArgs s_h_need_up, defBody s_h_need_up, defScope s_h_need_up, [], []⟩
def d_h_ask : He.DefD := ⟨("Hall", some "ask"), "ask", "Hall.ask", defArgs s_h_ask, defBody s_h_ask, defScope s_h_ask, [], []⟩
def d_h_give : He.DefD := ⟨("Hall", some "give"), "give", "Hall.give", defArgs s_h_give, defBody s_h_give, defScope s_h_give, [], []⟩
def d_h_own : He.DefD := ⟨("Hall", some "own"), "own", "Hall.own", defArgs s_h_own, defBody s_h_own, defScope s_h_own, [], []⟩
def d_h_seek : He.DefD := ⟨("Hall", some "seek"), "seek", "Hall.seek", defArgs s_h_seek, defBody s_h_seek, defScope s_h_seek, [], []⟩
def d_h_again : He.DefD := ⟨("Hall", some "again"), "again", "Hall.again", defArgs s_h_again, defBody s_h_again, defScope s_h_again, [], []⟩
def d_h_waits_by : He.DefD := ⟨("Hall", some "waits_by"), "waits_by", "Hall.waits_by", defArgs s_h_waits_by, defBody s_h_waits_by, defScope s_h_waits_by, [], []⟩
def d_h_house_number : He.DefD := ⟨("Hall", some "house_number"), "house_number", "Hall.house_number", defArgs s_h_house_number, defBody s_h_house_number, defScope s_h_house_number, [], []⟩
def d_h_carry : He.DefD := ⟨("Hall", some "carry"), "carry", "Hall.carry", defArgs s_h_carry, defBody s_h_carry, defScope s_h_carry, [], []⟩
def d_h_who : He.DefD := ⟨("Hall", some "who"), "who", "Hall.who", defArgs s_h_who, defBody s_h_who, defScope s_h_who, [], []⟩
def d_h_come : He.DefD := ⟨("Hall", some "come"), "come", "Hall.come", defArgs s_h_come, defBody s_h_come, defScope s_h_come, [], []⟩
def d_h_still : He.DefD := ⟨("Hall", some "still"), "still", "Hall.still", defArgs s_h_still, defBody s_h_still, defScope s_h_still, [], []⟩
def d_h_need_letter : He.DefD := ⟨("Hall", some "need_letter"), "need_letter", "Hall.need_letter", defArgs s_h_need_letter, defBody s_h_need_letter, defScope s_h_need_letter, [], []⟩
def d_h_lose : He.DefD := ⟨("Hall", some "lose"), "lose", "Hall.lose", defArgs s_h_lose, defBody s_h_lose, defScope s_h_lose, [], []⟩
def d_h_double : He.DefD := ⟨("Hall", some "double"), "double", "Hall.double", defArgs s_h_double, defBody s_h_double, defScope s_h_double, [], []⟩
def d_h_road : He.DefD := ⟨("Hall", some "road"), "road", "Hall.road", defArgs s_h_road, defBody s_h_road, defScope s_h_road, [], []⟩
def d_h_told : He.DefD := ⟨("Hall", some "told"), "told", "Hall.told", defArgs s_h_told, defBody s_h_told, defScope s_h_told, [], []⟩
def d_h_broken : He.DefD := ⟨("Hall", some "broken"), "broken", "Hall.broken", defArgs s_h_broken, defBody s_h_broken, defScope s_h_broken, [], []⟩
def d_h_table : He.DefD := ⟨("Hall", some "table"), "table", "Hall.table", defArgs s_h_table, defBody s_h_table, defScope s_h_table, [], []⟩
def d_Lstart : He.DefD := ⟨("_law_start", none), "_law_start", "_law_start", defArgs s_Lstart, defBody s_Lstart, defScope s_Lstart, [], []⟩
def d_Ldrawn : He.DefD := ⟨("_law_drawn", none), "_law_drawn", "_law_drawn", defArgs s_Ldrawn, defBody s_Ldrawn, defScope s_Ldrawn, [], []⟩
def d_Lsame : He.DefD := ⟨("_law_same", none), "_law_same", "_law_same", defArgs s_Lsame, defBody s_Lsame, defScope s_Lsame, [], []⟩
def d_Lcarried : He.DefD := ⟨("_law_carried", none), "_law_carried", "_law_carried", defArgs s_Lcarried, defBody s_Lcarried, defScope s_Lcarried, [], []⟩
def d_Lto_still : He.DefD := ⟨("_law_to_still", none), "_law_to_still", "_law_to_still", defArgs s_Lto_still, defBody s_Lto_still, defScope s_Lto_still, [], []⟩
def d_Lorder : He.DefD := ⟨("_law_order", none), "_law_order", "_law_order", defArgs s_Lorder, defBody s_Lorder, defScope s_Lorder, [], []⟩
def d_Lring : He.DefD := ⟨("_law_ring", none), "_law_ring", "_law_ring", defArgs s_Lring, defBody s_Lring, defScope s_Lring, [], []⟩
def d_Lheld_anew : He.DefD := ⟨("_law_held_anew", none), "_law_held_anew", "_law_held_anew", defArgs s_Lheld_anew, defBody s_Lheld_anew, defScope s_Lheld_anew, [], []⟩
def d_Lwaits_anew : He.DefD := ⟨("_law_waits_anew", none), "_law_waits_anew", "_law_waits_anew", defArgs s_Lwaits_anew, defBody s_Lwaits_anew, defScope s_Lwaits_anew, [], []⟩
def d_law : He.DefD := ⟨("law", none), "law", "law", defArgs s_law, defBody s_law, defScope s_law, [], []⟩
def fn : List He.DefD := [d_next_of, d_chain, d_ring_of, d_rings, d_lightest, d_t_init, d_t_copied, d_t_need_agent, d_t_need_lock, d_t_need_both, d_t_need_free_to, d_t_take, d_t_ask, d_t_pass_on, d_t_give, d_t_leave, d_t_waits, d_t_held, d_t_wait_number, d_t_holder, d_t_hold_number, d_t_agents, d_t_locks, d_made_table, d_h_init, d_h_is_down, d_h_need_up, d_h_ask, d_h_give, d_h_own, d_h_seek, d_h_again, d_h_waits_by, d_h_house_number, d_h_carry, d_h_who, d_h_come, d_h_still, d_h_need_letter, d_h_lose, d_h_double, d_h_road, d_h_told, d_h_broken, d_h_table, d_Lstart, d_Ldrawn, d_Lsame, d_Lcarried, d_Lto_still, d_Lorder, d_Lring, d_Lheld_anew, d_Lwaits_anew, d_law]
def fa : List He.Fa := [.glo "LockError", .exc "LockError", .glo "NoTable", .exc "NoTable", .glo "NoHall", .exc "NoHall", .glo "NoAgent", .exc "NoAgent", .glo "NoLock", .exc "NoLock", .glo "NoLetter", .exc "NoLetter", .glo "Stopped", .exc "Stopped", .glo "Waits", .exc "Waits", .glo "Holds", .exc "Holds", .glo "NotHeld", .exc "NotHeld", .glo "Table", .cls "Table", .mkr "Table", .noat "Table" "owners", .noat "Table" "lines", .noat "Table" "times", .noat "Table" "wants", .noat "Table" "rounds", .glo "Hall", .cls "Hall", .mkr "Hall", .noat "Hall" "main", .noat "Hall" "down", .noat "Hall" "letters", .noat "Hall" "tellings", .noat "Hall" "breakings", .glo "next_of", .glo "chain", .glo "ring_of", .glo "rings", .glo "lightest", .meth "Table" "copied", .meth "Table" "need_agent", .meth "Table" "need_lock", .meth "Table" "need_both", .meth "Table" "need_free_to", .meth "Table" "take", .meth "Table" "ask", .meth "Table" "pass_on", .meth "Table" "give", .meth "Table" "leave", .meth "Table" "waits", .meth "Table" "held", .meth "Table" "wait_number", .meth "Table" "holder", .meth "Table" "hold_number", .meth "Table" "agents", .meth "Table" "locks", .glo "made_table", .meth "Hall" "is_down", .meth "Hall" "need_up", .meth "Hall" "ask", .meth "Hall" "give", .meth "Hall" "own", .meth "Hall" "seek", .meth "Hall" "again", .meth "Hall" "waits_by", .meth "Hall" "house_number", .meth "Hall" "carry", .meth "Hall" "who", .meth "Hall" "come", .meth "Hall" "still", .meth "Hall" "need_letter", .meth "Hall" "lose", .meth "Hall" "double", .meth "Hall" "road", .meth "Hall" "told", .meth "Hall" "broken", .meth "Hall" "table", .glo "_law_start", .glo "_law_drawn", .glo "_law_same", .glo "_law_carried", .glo "_law_to_still", .glo "_law_order", .glo "_law_ring", .glo "_law_held_anew", .glo "_law_waits_anew", .glo "law", .free "ValueError", .free "bool", .free "int", .free "isinstance", .free "len", .free "list", .free "max", .free "min", .free "range", .free "sorted", .free "str", .free "tuple", .int "MOST_AGENTS" 8, .int "MOST_LOCKS" 12, .int "MOST_HOUSES" 4, .str "__name__" "law_asklock_k15_whole_long_days", .exm "NoTable" "NoTable" true]
def loose0 : List Str := ["_wall", "__name__", "LockError", "NoTable", "NoHall", "NoAgent", "NoLock", "NoLetter", "Stopped", "Waits", "Holds", "NotHeld", "next_of", "chain", "ring_of", "rings", "lightest", "MOST_AGENTS", "MOST_LOCKS", "Table", "MOST_HOUSES", "made_table", "Hall", "_law_start", "_law_drawn", "_law_same", "_law_carried", "_law_to_still", "_law_order", "_law_ring"]
def loose30 : List Str := ["_law_held_anew", "_law_waits_anew"]
def loose : List Str := loose0 ++ loose30
def ex (K : PySem.W.Frag) : Bool := decide ((tf.map fun d => (He.cT K d).2).Nodup) && true
theorem ex_ok {K : PySem.W.Frag} (h : ex K = true) : decide ((tf.map fun d => (He.cT K d).2).Nodup) = true ∧ true = true := Bool.and_eq_true_iff.mp h
abbrev RR : PySem.W.OpenRow := PySem.W.OpenLaw.row PySem.Challenge.rw_asklock_k15_whole_long_days
abbrev hk : PySem.W.Hook := He.hookX 4 fa fn [] tf ex
def ob (s : PySem.W.SharedT) : He.AlX := He.obsX 4 fa fn [] tf ex (HandSHeadRun.getT s)
theorem ob_eq (s : PySem.W.SharedT) : ob s = hk.obs s.abs := He.obsX_eq (HandSHeadRun.getT_eq s)
noncomputable section
open PySem PySem.W PySem.Calls PyProof.Rows HandSHeadRun
theorem run1 (w : World) (os : OsState) : (endF (stepQ (denQ tabQ) RR.prog w) 12000 RR.prog w os).map (fun s => (looksF RR.prog (boot_heap w.params) s.abs, seenQ (view RR.prog [36]) loose (importedModules RR.prog.main.body) (fun s => xlAt (view RR.prog [36]) [] s && recOk RR.toRowW.records s) s.abs)) = some (true, openGood (view RR.prog [36]) loose) := by
  kernel_rfl
theorem run2 (w : World) (os : OsState) : (endF (stepQ (denQ tabQ) RR.prog w) 12000 RR.prog w os).map (fun s => ob s) = some (hk.val w) := by
  kernel_rfl
theorem two {α β γ δ : Type} {x : Option α} {f1 : α → β} {f2 : α → γ} {g : α → δ} {b : β} {c : γ} {d : δ} (h1 : x.map (fun s => (f1 s, f2 s)) = some (b, c)) (h2 : x.map (fun s => g s) = some d) : x.map (fun s => (f1 s, f2 s, g s)) = some (b, c, d) := by
  cases x with
  | none => cases h1
  | some s =>
    have e1 : (f1 s, f2 s) = (b, c) := Option.some.inj h1
    have e3 : f1 s = b := congrArg Prod.fst e1
    have e4 : f2 s = c := congrArg Prod.snd e1
    have e2 : g s = d := Option.some.inj h2
    show some (f1 s, f2 s, g s) = _
    rw [e2, e3, e4]
theorem run (w : World) : HandSHeadRun.RunEq RR (PySem.W.view RR.prog [36]) hk ob 12000 loose w := by
  unfold HandSHeadRun.RunEq
  intro os
  exact two (run1 w os) (run2 w os)
end
theorem txt_of {K : PySem.W.Frag} {h : Heap} {mg : Str → Option Value} (X : K.In h) (G : h.Ns mainGlobals mg) (c : He.SaysD fa fn K) (e : ex K = true) : Txt K mg := ⟨
  (of_decide_eq_true (ex_ok e).1),
  (let z := He.exc_ok (c.fact 1 (f := .exc "LockError") rfl); ⟨He.glo_ok X G (c.fact 0 (f := .glo "LockError") rfl), z.1, z.2.1, z.2.2.1, z.2.2.2⟩),
  (let z := He.exc_ok (c.fact 3 (f := .exc "NoTable") rfl); ⟨He.glo_ok X G (c.fact 2 (f := .glo "NoTable") rfl), z.1, z.2.1, z.2.2.1, z.2.2.2⟩),
  (let z := He.exc_ok (c.fact 5 (f := .exc "NoHall") rfl); ⟨He.glo_ok X G (c.fact 4 (f := .glo "NoHall") rfl), z.1, z.2.1, z.2.2.1, z.2.2.2⟩),
  (let z := He.exc_ok (c.fact 7 (f := .exc "NoAgent") rfl); ⟨He.glo_ok X G (c.fact 6 (f := .glo "NoAgent") rfl), z.1, z.2.1, z.2.2.1, z.2.2.2⟩),
  (let z := He.exc_ok (c.fact 9 (f := .exc "NoLock") rfl); ⟨He.glo_ok X G (c.fact 8 (f := .glo "NoLock") rfl), z.1, z.2.1, z.2.2.1, z.2.2.2⟩),
  (let z := He.exc_ok (c.fact 11 (f := .exc "NoLetter") rfl); ⟨He.glo_ok X G (c.fact 10 (f := .glo "NoLetter") rfl), z.1, z.2.1, z.2.2.1, z.2.2.2⟩),
  (let z := He.exc_ok (c.fact 13 (f := .exc "Stopped") rfl); ⟨He.glo_ok X G (c.fact 12 (f := .glo "Stopped") rfl), z.1, z.2.1, z.2.2.1, z.2.2.2⟩),
  (let z := He.exc_ok (c.fact 15 (f := .exc "Waits") rfl); ⟨He.glo_ok X G (c.fact 14 (f := .glo "Waits") rfl), z.1, z.2.1, z.2.2.1, z.2.2.2⟩),
  (let z := He.exc_ok (c.fact 17 (f := .exc "Holds") rfl); ⟨He.glo_ok X G (c.fact 16 (f := .glo "Holds") rfl), z.1, z.2.1, z.2.2.1, z.2.2.2⟩),
  (let z := He.exc_ok (c.fact 19 (f := .exc "NotHeld") rfl); ⟨He.glo_ok X G (c.fact 18 (f := .glo "NotHeld") rfl), z.1, z.2.1, z.2.2.1, z.2.2.2⟩),
  (He.glo_ok X G (c.fact 20 (f := .glo "Table") rfl)),
  (He.cls_ok (c.fact 21 (f := .cls "Table") rfl)),
  (He.mkr_ok (c.fact 22 (f := .mkr "Table") rfl)),
  (He.noat_ok (c.fact 23 (f := .noat "Table" "owners") rfl)),
  (He.noat_ok (c.fact 24 (f := .noat "Table" "lines") rfl)),
  (He.noat_ok (c.fact 25 (f := .noat "Table" "times") rfl)),
  (He.noat_ok (c.fact 26 (f := .noat "Table" "wants") rfl)),
  (He.noat_ok (c.fact 27 (f := .noat "Table" "rounds") rfl)),
  (He.glo_ok X G (c.fact 28 (f := .glo "Hall") rfl)),
  (He.cls_ok (c.fact 29 (f := .cls "Hall") rfl)),
  (He.mkr_ok (c.fact 30 (f := .mkr "Hall") rfl)),
  (He.noat_ok (c.fact 31 (f := .noat "Hall" "main") rfl)),
  (He.noat_ok (c.fact 32 (f := .noat "Hall" "down") rfl)),
  (He.noat_ok (c.fact 33 (f := .noat "Hall" "letters") rfl)),
  (He.noat_ok (c.fact 34 (f := .noat "Hall" "tellings") rfl)),
  (He.noat_ok (c.fact 35 (f := .noat "Hall" "breakings") rfl)),
  (He.glo_ok X G (c.fact 36 (f := .glo "next_of") rfl)),
  (c.def_ 0 (d := d_next_of) rfl),
  (He.glo_ok X G (c.fact 37 (f := .glo "chain") rfl)),
  (c.def_ 1 (d := d_chain) rfl),
  (He.glo_ok X G (c.fact 38 (f := .glo "ring_of") rfl)),
  (c.def_ 2 (d := d_ring_of) rfl),
  (He.glo_ok X G (c.fact 39 (f := .glo "rings") rfl)),
  (c.def_ 3 (d := d_rings) rfl),
  (He.glo_ok X G (c.fact 40 (f := .glo "lightest") rfl)),
  (c.def_ 4 (d := d_lightest) rfl),
  (c.def_ 5 (d := d_t_init) rfl),
  (He.meth_ok (c.fact 41 (f := .meth "Table" "copied") rfl)),
  (c.def_ 6 (d := d_t_copied) rfl),
  (He.meth_ok (c.fact 42 (f := .meth "Table" "need_agent") rfl)),
  (c.def_ 7 (d := d_t_need_agent) rfl),
  (He.meth_ok (c.fact 43 (f := .meth "Table" "need_lock") rfl)),
  (c.def_ 8 (d := d_t_need_lock) rfl),
  (He.meth_ok (c.fact 44 (f := .meth "Table" "need_both") rfl)),
  (c.def_ 9 (d := d_t_need_both) rfl),
  (He.meth_ok (c.fact 45 (f := .meth "Table" "need_free_to") rfl)),
  (c.def_ 10 (d := d_t_need_free_to) rfl),
  (He.meth_ok (c.fact 46 (f := .meth "Table" "take") rfl)),
  (c.def_ 11 (d := d_t_take) rfl),
  (He.meth_ok (c.fact 47 (f := .meth "Table" "ask") rfl)),
  (c.def_ 12 (d := d_t_ask) rfl),
  (He.meth_ok (c.fact 48 (f := .meth "Table" "pass_on") rfl)),
  (c.def_ 13 (d := d_t_pass_on) rfl),
  (He.meth_ok (c.fact 49 (f := .meth "Table" "give") rfl)),
  (c.def_ 14 (d := d_t_give) rfl),
  (He.meth_ok (c.fact 50 (f := .meth "Table" "leave") rfl)),
  (c.def_ 15 (d := d_t_leave) rfl),
  (He.meth_ok (c.fact 51 (f := .meth "Table" "waits") rfl)),
  (c.def_ 16 (d := d_t_waits) rfl),
  (He.meth_ok (c.fact 52 (f := .meth "Table" "held") rfl)),
  (c.def_ 17 (d := d_t_held) rfl),
  (He.meth_ok (c.fact 53 (f := .meth "Table" "wait_number") rfl)),
  (c.def_ 18 (d := d_t_wait_number) rfl),
  (He.meth_ok (c.fact 54 (f := .meth "Table" "holder") rfl)),
  (c.def_ 19 (d := d_t_holder) rfl),
  (He.meth_ok (c.fact 55 (f := .meth "Table" "hold_number") rfl)),
  (c.def_ 20 (d := d_t_hold_number) rfl),
  (He.meth_ok (c.fact 56 (f := .meth "Table" "agents") rfl)),
  (c.def_ 21 (d := d_t_agents) rfl),
  (He.meth_ok (c.fact 57 (f := .meth "Table" "locks") rfl)),
  (c.def_ 22 (d := d_t_locks) rfl),
  (He.glo_ok X G (c.fact 58 (f := .glo "made_table") rfl)),
  (c.def_ 23 (d := d_made_table) rfl),
  (c.def_ 24 (d := d_h_init) rfl),
  (He.meth_ok (c.fact 59 (f := .meth "Hall" "is_down") rfl)),
  (c.def_ 25 (d := d_h_is_down) rfl),
  (He.meth_ok (c.fact 60 (f := .meth "Hall" "need_up") rfl)),
  (c.def_ 26 (d := d_h_need_up) rfl),
  (He.meth_ok (c.fact 61 (f := .meth "Hall" "ask") rfl)),
  (c.def_ 27 (d := d_h_ask) rfl),
  (He.meth_ok (c.fact 62 (f := .meth "Hall" "give") rfl)),
  (c.def_ 28 (d := d_h_give) rfl),
  (He.meth_ok (c.fact 63 (f := .meth "Hall" "own") rfl)),
  (c.def_ 29 (d := d_h_own) rfl),
  (He.meth_ok (c.fact 64 (f := .meth "Hall" "seek") rfl)),
  (c.def_ 30 (d := d_h_seek) rfl),
  (He.meth_ok (c.fact 65 (f := .meth "Hall" "again") rfl)),
  (c.def_ 31 (d := d_h_again) rfl),
  (He.meth_ok (c.fact 66 (f := .meth "Hall" "waits_by") rfl)),
  (c.def_ 32 (d := d_h_waits_by) rfl),
  (He.meth_ok (c.fact 67 (f := .meth "Hall" "house_number") rfl)),
  (c.def_ 33 (d := d_h_house_number) rfl),
  (He.meth_ok (c.fact 68 (f := .meth "Hall" "carry") rfl)),
  (c.def_ 34 (d := d_h_carry) rfl),
  (He.meth_ok (c.fact 69 (f := .meth "Hall" "who") rfl)),
  (c.def_ 35 (d := d_h_who) rfl),
  (He.meth_ok (c.fact 70 (f := .meth "Hall" "come") rfl)),
  (c.def_ 36 (d := d_h_come) rfl),
  (He.meth_ok (c.fact 71 (f := .meth "Hall" "still") rfl)),
  (c.def_ 37 (d := d_h_still) rfl),
  (He.meth_ok (c.fact 72 (f := .meth "Hall" "need_letter") rfl)),
  (c.def_ 38 (d := d_h_need_letter) rfl),
  (He.meth_ok (c.fact 73 (f := .meth "Hall" "lose") rfl)),
  (c.def_ 39 (d := d_h_lose) rfl),
  (He.meth_ok (c.fact 74 (f := .meth "Hall" "double") rfl)),
  (c.def_ 40 (d := d_h_double) rfl),
  (He.meth_ok (c.fact 75 (f := .meth "Hall" "road") rfl)),
  (c.def_ 41 (d := d_h_road) rfl),
  (He.meth_ok (c.fact 76 (f := .meth "Hall" "told") rfl)),
  (c.def_ 42 (d := d_h_told) rfl),
  (He.meth_ok (c.fact 77 (f := .meth "Hall" "broken") rfl)),
  (c.def_ 43 (d := d_h_broken) rfl),
  (He.meth_ok (c.fact 78 (f := .meth "Hall" "table") rfl)),
  (c.def_ 44 (d := d_h_table) rfl),
  (He.glo_ok X G (c.fact 79 (f := .glo "_law_start") rfl)),
  (c.def_ 45 (d := d_Lstart) rfl),
  (He.glo_ok X G (c.fact 80 (f := .glo "_law_drawn") rfl)),
  (c.def_ 46 (d := d_Ldrawn) rfl),
  (He.glo_ok X G (c.fact 81 (f := .glo "_law_same") rfl)),
  (c.def_ 47 (d := d_Lsame) rfl),
  (He.glo_ok X G (c.fact 82 (f := .glo "_law_carried") rfl)),
  (c.def_ 48 (d := d_Lcarried) rfl),
  (He.glo_ok X G (c.fact 83 (f := .glo "_law_to_still") rfl)),
  (c.def_ 49 (d := d_Lto_still) rfl),
  (He.glo_ok X G (c.fact 84 (f := .glo "_law_order") rfl)),
  (c.def_ 50 (d := d_Lorder) rfl),
  (He.glo_ok X G (c.fact 85 (f := .glo "_law_ring") rfl)),
  (c.def_ 51 (d := d_Lring) rfl),
  (He.glo_ok X G (c.fact 86 (f := .glo "_law_held_anew") rfl)),
  (c.def_ 52 (d := d_Lheld_anew) rfl),
  (He.glo_ok X G (c.fact 87 (f := .glo "_law_waits_anew") rfl)),
  (c.def_ 53 (d := d_Lwaits_anew) rfl),
  (He.glo_ok X G (c.fact 88 (f := .glo "law") rfl)),
  (c.def_ 54 (d := d_law) rfl),
  (He.free_ok X G (c.fact 89 (f := .free "ValueError") rfl)),
  (He.free_ok X G (c.fact 90 (f := .free "bool") rfl)),
  (He.free_ok X G (c.fact 91 (f := .free "int") rfl)),
  (He.free_ok X G (c.fact 92 (f := .free "isinstance") rfl)),
  (He.free_ok X G (c.fact 93 (f := .free "len") rfl)),
  (He.free_ok X G (c.fact 94 (f := .free "list") rfl)),
  (He.free_ok X G (c.fact 95 (f := .free "max") rfl)),
  (He.free_ok X G (c.fact 96 (f := .free "min") rfl)),
  (He.free_ok X G (c.fact 97 (f := .free "range") rfl)),
  (He.free_ok X G (c.fact 98 (f := .free "sorted") rfl)),
  (He.free_ok X G (c.fact 99 (f := .free "str") rfl)),
  (He.free_ok X G (c.fact 100 (f := .free "tuple") rfl)),
  (He.int_ok X G (c.fact 101 (f := .int "MOST_AGENTS" 8) rfl)),
  (He.int_ok X G (c.fact 102 (f := .int "MOST_LOCKS" 12) rfl)),
  (He.int_ok X G (c.fact 103 (f := .int "MOST_HOUSES" 4) rfl)),
  (He.str_ok X G (c.fact 104 (f := .str "__name__" "law_asklock_k15_whole_long_days") rfl)),
  (He.exm_ok (c.fact 105 (f := .exm "NoTable" "NoTable" true) rfl))⟩

/-! ### the steps by themselves -/
local macro_rules | `(tactic| walk_at "sx1") => `(tactic| first
  | with_reducible refine stp ?_
  | with_reducible refine r_var rfl ?_)
local macro_rules | `(tactic| walk_at "sx") => `(tactic| repeat (walk_at "sx1"))

section
variable {P : Program} {w : World} {K : PySem.W.Frag} {mg : Str → Option Value} {base : Heap}
theorem sc_Lsame : FnScope ["_law_found", "_law_due", "_law_k"] ["_law_found", "_law_due"] (defScope s_Lsame) := ⟨rfl, rfl, rfl, by decide +kernel, rfl, by decide +kernel, by decide +kernel⟩
theorem step_Lsame (TX : Txt K mg) (k n : Nat) (ih : OkF P w K mg base k (He.ga K "_law_same") ["_law_found", "_law_due"] (sp_Lsame n)) : OkF P w K mg base (k + 1) (He.ga K "_law_same") ["_law_found", "_law_due"] (sp_Lsame (n + 1)) := by
  obtain ⟨⟨fd_Lsame, G_Lsame, b_Lsame⟩, k_Lsame⟩ := ih
  refine okF TX.f_Lsame sc_Lsame (fun _ _ _ _ _ _ us hl => match us, hl with | [_, _], _ => rfl) (fun vs H Q E h => ?_) (fun cdv A outer s H vs Q E hr h => ?_)
  · obtain ⟨_, _, rfl, _⟩ := h
    rfl
  · obtain ⟨x, y, rfl, h⟩ := h
    refine ⟨_, (pss_cons (ps_if (pt_val (pe_callB (k_isiT (K := K) rfl) (by rfl) TX.z_isinstance (by decide +kernel) (pa_cons (pv 1) (pa_cons (pe_tup (pa_cons (pe_bltn (v := .ty "tuple") (by rfl) TX.z_tuple (by decide +kernel) rfl) (pa_cons (pe_bltn (v := .ty "list") (by rfl) TX.z_list (by decide +kernel) rfl) pa_nil))) pa_nil)))) (pss_cons (ps_if (PW.pt (pw_or (pt_not (pt_val (pe_callB (k_isiT (K := K) rfl) (by rfl) TX.z_isinstance (by decide +kernel) (pa_cons (pv 0) (pa_cons (pe_tup (pa_cons (pe_bltn (v := .ty "tuple") (by rfl) TX.z_tuple (by decide +kernel) rfl) (pa_cons (pe_bltn (v := .ty "list") (by rfl) TX.z_list (by decide +kernel) rfl) pa_nil))) pa_nil))))) (pw_or1 (pt_cmpR (op_ne) (pe_callB (k_isi (K := K) rfl) (by rfl) TX.z_isinstance (by decide +kernel) (pa_cons (pv 0) (pa_cons (pe_bltn (v := .ty "list") (by rfl) TX.z_list (by decide +kernel) rfl) pa_nil))) (pe_callB (k_isi (K := K) rfl) (by rfl) TX.z_isinstance (by decide +kernel) (pa_cons (pv 1) (pa_cons (pe_bltn (v := .ty "list") (by rfl) TX.z_list (by decide +kernel) rfl) pa_nil))) (nomark _))))) (pss_one (ps_ret pe_bl)) pss_nil) (pss_cons (ps_if (pt_cmpR (op_ne) (pe_callB (k_len (K := K) rfl) (by rfl) TX.z_len (by decide +kernel) (pa_cons (pv 0) pa_nil)) (pe_callB (k_len (K := K) rfl) (by rfl) TX.z_len (by decide +kernel) (pa_cons (pv 1) pa_nil)) (nomark _)) (pss_one (ps_ret pe_bl)) pss_nil) (pss_one (ps_ret (pe_cmpR (k_eqD (K := K) rfl hr.units) (pe_lc (own := [("_law_k", 2)]) (g := gName 2) rfl sc_Lsame.nd (pi_range1 (by rfl) TX.z_range (pa_cons (pe_callB (k_len (K := K) rfl) (by rfl) TX.z_len (by decide +kernel) (pa_cons (pv 1) pa_nil)) pa_nil)) (blkOk_by (N := ["_law_found", "_law_due", "_law_k"]) (sc := defScope s_Lsame) (by decide +kernel)) (fun _ _ _ _ _ => pg_name (i := 2) sc_Lsame.nd rfl (Or.inl rfl)) (fun _ _ _ _ _ => by exact (pts_one (pt_not (pt_val (pe_call G_Lsame hr (by rfl) TX.g_Lsame k_Lsame b_Lsame .nil passL (pa_cons (pe_ix (k_ixq (K := K) rfl) (pv 0) (pv 2) (fun _ _ => rfl)) (pa_cons (pe_ix (k_ixq (K := K) rfl) (pv 1) (pv 2) (fun _ _ => rfl)) pa_nil))))))) (fun _ _ _ _ _ => by exact (pv 2))) (pe_lst pa_nil) (nomark _)))))) pss_nil) (pss_cons (ps_if (pt_cmpR (op_isN) (pv 1) pe_non (nomark _)) (pss_one (ps_ret (pe_cmpR (op_isN) (pv 0) pe_non (nomark _)))) pss_nil) (pss_cons (ps_if (pt_val (pe_callB (k_isi (K := K) rfl) (by rfl) TX.z_isinstance (by decide +kernel) (pa_cons (pv 1) (pa_cons (pe_bltn (v := .ty "str") (by rfl) TX.z_str (by decide +kernel) rfl) pa_nil)))) (pss_one (ps_ret (pe_and (pe_callB (k_isi (K := K) rfl) (by rfl) TX.z_isinstance (by decide +kernel) (pa_cons (pv 0) (pa_cons (pe_bltn (v := .ty "str") (by rfl) TX.z_str (by decide +kernel) rfl) pa_nil))) (pe_one (pe_cmpR (op_eq) (pv 0) (pv 1) (nomark _)))))) pss_nil) (pss_cons (ps_if (PW.pt (pw_or (pt_val (pe_callB (k_isi (K := K) rfl) (by rfl) TX.z_isinstance (by decide +kernel) (pa_cons (pv 1) (pa_cons (pe_bltn (v := .ty "bool") (by rfl) TX.z_bool (by decide +kernel) rfl) pa_nil)))) (pw_or1 (pt_val (pe_callB (k_isi (K := K) rfl) (by rfl) TX.z_isinstance (by decide +kernel) (pa_cons (pv 0) (pa_cons (pe_bltn (v := .ty "bool") (by rfl) TX.z_bool (by decide +kernel) rfl) pa_nil))))))) (pss_one (ps_ret (pe_and (pe_callB (k_isi (K := K) rfl) (by rfl) TX.z_isinstance (by decide +kernel) (pa_cons (pv 1) (pa_cons (pe_bltn (v := .ty "bool") (by rfl) TX.z_bool (by decide +kernel) rfl) pa_nil))) (pe_and (pe_callB (k_isi (K := K) rfl) (by rfl) TX.z_isinstance (by decide +kernel) (pa_cons (pv 0) (pa_cons (pe_bltn (v := .ty "bool") (by rfl) TX.z_bool (by decide +kernel) rfl) pa_nil))) (pe_one (pe_cmpR (op_eq) (pv 0) (pv 1) (nomark _))))))) pss_nil) (pss_one (ps_ret (pe_and (pe_callB (k_isi (K := K) rfl) (by rfl) TX.z_isinstance (by decide +kernel) (pa_cons (pv 0) (pa_cons (pe_bltn (v := .ty "int") (by rfl) TX.z_int (by decide +kernel) rfl) pa_nil))) (pe_one (pe_cmpR (op_eq) (pv 0) (pv 1) (nomark _)))))))))), ?_⟩
    refine r_st (σ' := [some x, some y, none]) rfl ?_
    try dsimp only [cxOf]
    obtain ⟨d, hx, hy, hn, hq⟩ := h
    walk_at "sx"
    refine r_newT (by show 2 ≤ 2000; decide) (fun tp H1 htp etp f1 => ?_)
    walk_at "sx"
    have tx := (hx.fr f1).ty (K := K)
    have ty := (hy.fr f1).ty (K := K)
    have seq : ∀ (ds : List PyData) (xs ys : List V), DdAll H xs ds → DdAll H ys ds → PyData.depthAll ds < n → ds.length ≤ 2000 → (∃ a b, x = .ref a ∧ y = .ref b ∧ ((H a = some (.tup xs) ∧ H b = some (.tup ys)) ∨ (H a = some (.lst xs) ∧ H b = some (.lst ys)))) →
        ∀ (D : Ends), D.rt = Q → ∀ H2, Fr No H H2 → tSeq (tIfS (tTest (tOp rNe (tCB (rLenQ K) (tCons (tVar 0) tNil)) (tCB (rLenQ K) (tCons (tVar 1) tNil)))) (tRet (tC (V.bl false))) tNext)
          (tRet (tOp (rEqD K) (tLc (iRng1 (tCons (tCB (rLenQ K) (tCons (tVar 1) tNil)) tNil)) (gName 2) (tNot (tB (tCall (sp_Lsame n) [] E0 (tCons (tOp (rIxQ K) (tVar 0) (tVar 2)) (tCons (tOp (rIxQ K) (tVar 1) (tVar 2)) tNil))))) (tVar 2) [2]) (tLst tNil)))
          D [some x, some y, none] H2 := by
      intro ds xs ys hxs hys hdep hlen ⟨a, b, ea, eb, hab⟩ D hD H2 f2
      subst hD
      subst ea eb
      have hab2 : (H2 a = some (.tup xs) ∧ H2 b = some (.tup ys)) ∨ (H2 a = some (.lst xs) ∧ H2 b = some (.lst ys)) := hab.elim (fun q => .inl ⟨f2.tup _ _ q.1, f2.tup _ _ q.2⟩) (fun q => .inr ⟨f2.lst q.1, f2.lst q.2⟩)
      have la : ∀ Q : VK, Q (.int (ds.length : Int)) H2 → rLenQ K [.ref a] H2 Q := fun Q q => by
        have e := hxs.len
        rcases hab2 with z | z
        · exact r_lenT z.1 (by rw [e]; exact q)
        · exact r_lenS z.1 (by rw [e]; exact q)
      have lb : ∀ Q : VK, Q (.int (ds.length : Int)) H2 → rLenQ K [.ref b] H2 Q := fun Q q => by
        have e := hys.len
        rcases hab2 with z | z
        · exact r_lenT z.2 (by rw [e]; exact q)
        · exact r_lenS z.2 (by rw [e]; exact q)
      walk_at "sx"
      refine la _ ?_
      walk_at "sx"
      refine lb _ ?_
      walk_at "sx"
      refine r_ne rfl ?_
      walk_at "sx"
      refine r_decN (fun g => absurd rfl g) (fun _ => ?_)
      walk_at "sx"
      refine r_lcR (n := ds.length) (fun _ => false) (fun _ => .none) hlen (fun Q q => by walk_at "sx"; exact lb _ q) (fun _ => rfl) (fun i H3 hi f3 Q' q' => ?_) (fun i H3 hi hf f3 => by cases hf) (fun p H3 hp hl f3 => ?_)
      · obtain ⟨v, dv, e1, e2, e3⟩ := hxs.at hi
        obtain ⟨u, du, e4, e5, e6⟩ := hys.at hi
        rw [e2] at e5
        cases e5
        have hab3 : (H3 a = some (.tup xs) ∧ H3 b = some (.tup ys)) ∨ (H3 a = some (.lst xs) ∧ H3 b = some (.lst ys)) := hab2.elim (fun q => .inl ⟨f3.tup _ _ q.1, f3.tup _ _ q.2⟩) (fun q => .inr ⟨f3.lst q.1, f3.lst q.2⟩)
        have ia : ∀ Q : VK, Q v H3 → rIxQ K (.ref a) (.int (i : Int)) H3 Q := fun Q q => hab3.elim (fun z => .inr ⟨a, _, _, _, rfl, rfl, SqT.of z.1, atI_nat e1, q⟩) (fun z => .inl ⟨a, _, _, _, rfl, rfl, SqL.of z.1, atI_nat e1, q⟩)
        have ib : ∀ Q : VK, Q u H3 → rIxQ K (.ref b) (.int (i : Int)) H3 Q := fun Q q => hab3.elim (fun z => .inr ⟨b, _, _, _, rfl, rfl, SqT.of z.2, atI_nat e4, q⟩) (fun z => .inl ⟨b, _, _, _, rfl, rfl, SqL.of z.2, atI_nat e4, q⟩)
        walk_at "sx"
        refine ia _ ?_
        walk_at "sx"
        refine ib _ ?_
        walk_at "sx"
        have f4 := f2.trans f3
        refine ⟨dv, e3.fr f4, e6.fr f4, Nat.lt_of_le_of_lt (depth_at e2) hdep, fun H4 f5 => ?_⟩
        walk_at "sx"
        exact q' H4 f5
      · have et : turns (fun _ => false) (fun _ => PyData.none) ds.length = [] := by unfold turns; simp
        rw [et] at hl
        walk_at "sx"
        refine r_newL (Nat.zero_le _) (fun p2 H4 hp2 e4 f4 => ?_)
        refine r_eqNil (hl.fr f4 (fun z => z)).dp CmpAll.nil e4 ?_
        exact hq H4 ((f2.trans f3).trans f4)
    cases hy with
    | non =>
      cases hx
      refine r_isi2 (a := "NoneType") false false false ty etp (by decide +kernel) (by decide +kernel) rfl ?_
      walk_at "sx"
      refine ⟨rfl, ?_⟩
      walk_at "sx"
      refine r_dec (fun _ => ?_) (fun g => absurd rfl g)
      walk_at "sx"
      exact ⟨rfl, hq _ f1⟩
    | bl b =>
      cases hx
      refine r_isi2 (a := "bool") false false false ty etp (by decide +kernel) (by decide +kernel) rfl ?_
      walk_at "sx"
      refine ⟨rfl, ?_⟩
      walk_at "sx"
      refine r_dec (fun g => nomatch g) (fun _ => ?_)
      walk_at "sx"
      refine r_isi (a := "bool") false ty (by decide +kernel) ?_
      walk_at "sx"
      refine r_isi (a := "bool") true ty (by decide +kernel) ?_
      walk_at "sx"
      refine r_isi (a := "bool") true ty (by decide +kernel) ?_
      walk_at "sx"
      refine r_isi (a := "bool") true tx (by decide +kernel) ?_
      walk_at "sx"
      refine r_eq rfl ?_
      rw [decide_eq_true rfl]
      exact hq _ f1
    | int i =>
      cases hx
      refine r_isi2 (a := "int") false false false ty etp (by decide +kernel) (by decide +kernel) rfl ?_
      walk_at "sx"
      refine ⟨rfl, ?_⟩
      walk_at "sx"
      refine r_dec (fun g => nomatch g) (fun _ => ?_)
      walk_at "sx"
      refine r_isi (a := "int") false ty (by decide +kernel) ?_
      walk_at "sx"
      refine r_isi (a := "int") false ty (by decide +kernel) ?_
      walk_at "sx"
      refine r_isi (a := "int") false tx (by decide +kernel) ?_
      walk_at "sx"
      refine r_isi (a := "int") true tx (by decide +kernel) ?_
      walk_at "sx"
      refine r_eq rfl ?_
      rw [decide_eq_true rfl]
      exact hq _ f1
    | str s =>
      cases hx
      refine r_isi2 (a := "str") false false false ty etp (by decide +kernel) (by decide +kernel) rfl ?_
      walk_at "sx"
      refine ⟨rfl, ?_⟩
      walk_at "sx"
      refine r_dec (fun g => nomatch g) (fun _ => ?_)
      walk_at "sx"
      refine r_isi (a := "str") true ty (by decide +kernel) ?_
      walk_at "sx"
      refine r_isi (a := "str") true tx (by decide +kernel) ?_
      walk_at "sx"
      refine r_eq rfl ?_
      rw [decide_eq_true rfl]
      exact hq _ f1
    | @tup b0 ys0 ds0 e1 l1 a1 =>
      cases hx with
      | tup e2 l2 a2 =>
      have hd : PyData.depthAll ds0 < n := by simp only [PyData.depth] at hn; omega
      refine r_isi2 (a := "tuple") true false true ty etp (by decide +kernel) (by decide +kernel) rfl ?_
      walk_at "sx"
      refine r_newT (by show 2 ≤ 2000; decide) (fun tp2 H2 htp2 etp2 f2 => ?_)
      walk_at "sx"
      refine r_isi2 (a := "tuple") true false true ((Dd.tup e2 l2 a2).fr (f1.trans f2)).ty etp2 (by decide +kernel) (by decide +kernel) rfl ?_
      walk_at "sx"
      refine r_isi (a := "tuple") false ((Dd.tup e2 l2 a2).fr (f1.trans f2)).ty (by decide +kernel) ?_
      walk_at "sx"
      refine r_isi (a := "tuple") false ((Dd.tup e1 l1 a1).fr (f1.trans f2)).ty (by decide +kernel) ?_
      walk_at "sx"
      refine r_ne rfl ?_
      walk_at "sx"
      refine r_decN (fun g => absurd rfl g) (fun _ => r_next ?_)
      exact seq _ _ _ a2 a1 hd (by rw [← a1.len]; exact l1) ⟨_, _, rfl, rfl, .inl ⟨e2, e1⟩⟩ _ rfl H2 (f1.trans f2)
    | @lst b0 ys0 ds0 e1 l1 a1 =>
      cases hx with
      | lst e2 l2 a2 =>
      have hd : PyData.depthAll ds0 < n := by simp only [PyData.depth] at hn; omega
      refine r_isi2 (a := "list") false true true ty etp (by decide +kernel) (by decide +kernel) rfl ?_
      walk_at "sx"
      refine r_newT (by show 2 ≤ 2000; decide) (fun tp2 H2 htp2 etp2 f2 => ?_)
      walk_at "sx"
      refine r_isi2 (a := "list") false true true ((Dd.lst e2 l2 a2).fr (f1.trans f2)).ty etp2 (by decide +kernel) (by decide +kernel) rfl ?_
      walk_at "sx"
      refine r_isi (a := "list") true ((Dd.lst e2 l2 a2).fr (f1.trans f2)).ty (by decide +kernel) ?_
      walk_at "sx"
      refine r_isi (a := "list") true ((Dd.lst e1 l1 a1).fr (f1.trans f2)).ty (by decide +kernel) ?_
      walk_at "sx"
      refine r_ne rfl ?_
      walk_at "sx"
      refine r_decN (fun g => absurd rfl g) (fun _ => r_next ?_)
      exact seq _ _ _ a2 a1 hd (by rw [← a1.len]; exact l1) ⟨_, _, rfl, rfl, .inr ⟨e2, e1⟩⟩ _ rfl H2 (f1.trans f2)
theorem ok_Lsame_n (TX : Txt K mg) : ∀ n, OkF P w K mg base (n + 1) (He.ga K "_law_same") ["_law_found", "_law_due"] (sp_Lsame n)
  | 0 => okF TX.f_Lsame sc_Lsame (fun _ _ _ _ _ _ us hl => match us, hl with | [_, _], _ => rfl) (fun vs H Q E h => absurd h (by rintro ⟨x, y, rfl, d, _, _, z, _⟩; exact absurd z (Nat.not_lt_zero _))) (fun cdv A outer s H vs Q E hr h => absurd h (by rintro ⟨x, y, rfl, d, _, _, z, _⟩; exact absurd z (Nat.not_lt_zero _)))
  | n + 1 => step_Lsame TX (n + 1) n (ok_Lsame_n TX n)
theorem ok_Lsame (TX : Txt K mg) : OkF P w K mg base 9 (He.ga K "_law_same") ["_law_found", "_law_due"] (sp_Lsame 8) := ok_Lsame_n TX 8
theorem sc_h_broken : FnScope ["self"] ["self"] (defScope s_h_broken) := ⟨rfl, rfl, rfl, by decide +kernel, rfl, by decide +kernel, by decide +kernel⟩
theorem ok_h_broken (TX : Txt K mg) : OkF P w K mg base 1 (He.ma K (He.ga K "Hall") "broken") ["self"] (sp_h_broken K) := by
  refine okF TX.f_h_broken sc_h_broken (fun _ _ _ _ _ _ us hl => match us, hl with | [_], _ => rfl) (fun vs H Q E h => ?_) (fun cdv A outer s H vs Q E hr h => ?_)
  · obtain ⟨_, rfl, _⟩ := h
    rfl
  · obtain ⟨x, rfl, h⟩ := h
    refine ⟨_, (pss_one (ps_ret (pe_callTy (k_listOf (K := K) rfl) (by rfl) TX.z_list (by decide +kernel) (pa_cons (k_fld (K := K) rfl (pv 0) rfl) pa_nil)))), ?_⟩
    refine r_st (σ' := [some x]) rfl ?_
    try dsimp only [cxOf]
    obtain ⟨A, M, rfl, hA, hq⟩ := h
    walk_at "sx"
    refine r_breakings TX.hl hA ?_
    walk_at "sx"
    exact ls_copy hA.br hq
theorem sc_t_agents : FnScope ["self"] ["self"] (defScope s_t_agents) := ⟨rfl, rfl, rfl, by decide +kernel, rfl, by decide +kernel, by decide +kernel⟩
theorem ok_t_agents (TX : Txt K mg) : OkF P w K mg base 1 (He.ma K (He.ga K "Table") "agents") ["self"] (sp_t_agents K) := by
  refine okF TX.f_t_agents sc_t_agents (fun _ _ _ _ _ _ us hl => match us, hl with | [_], _ => rfl) (fun vs H Q E h => ?_) (fun cdv A outer s H vs Q E hr h => ?_)
  · obtain ⟨_, rfl, _⟩ := h
    rfl
  · obtain ⟨x, rfl, h⟩ := h
    refine ⟨_, (pss_one (ps_ret (pe_callB (k_len (K := K) rfl) (by rfl) TX.z_len (by decide +kernel) (pa_cons (k_fld (K := K) rfl (pv 0) rfl) pa_nil)))), ?_⟩
    refine r_st (σ' := [some x]) rfl ?_
    try dsimp only [cxOf]
    obtain ⟨A, T, rfl, hT, q⟩ := h
    walk_at "sx"
    refine r_wants TX.tb hT ?_
    walk_at "sx"
    exact r_lenWan hT q
theorem sc_t_need_lock : FnScope ["self", "lock"] ["self", "lock"] (defScope s_t_need_lock) := ⟨rfl, rfl, rfl, by decide +kernel, rfl, by decide +kernel, by decide +kernel⟩
theorem ok_t_need_lock (TX : Txt K mg) : OkF P w K mg base 1 (He.ma K (He.ga K "Table") "need_lock") ["self", "lock"] (sp_t_need_lock K) := by
  refine okF TX.f_t_need_lock sc_t_need_lock (fun _ _ _ _ _ _ us hl => match us, hl with | [_, _], _ => rfl) (fun vs H Q E h => ?_) (fun cdv A outer s H vs Q E hr h => ?_)
  · obtain ⟨_, _, rfl, _⟩ := h
    rfl
  · obtain ⟨x, y, rfl, h⟩ := h
    refine ⟨_, (pss_one (ps_if (pt_not (pt_chain op_le op_lt pe_int (pv 1) (pe_callB (k_len (K := K) rfl) (by rfl) TX.z_len (by decide +kernel) (pa_cons (k_fld (K := K) rfl (pv 0) rfl) pa_nil)))) (pss_one (ps_raise rfl (takes_of rfl rfl rfl rfl) (pmk_own PySem.F.excBase_ValueError TX.e_NoLock.ex TX.e_NoLock.g TX.e_NoLock.k (raises_own TX.e_NoLock.b TX.e_NoLock.t) rfl))) pss_nil)), ?_⟩
    refine r_st (σ' := [some x, some y]) rfl ?_
    try dsimp only [cxOf]
    obtain ⟨A, T, a, rfl, rfl, hT, h1, h2⟩ := h
    walk_at "sx"
    refine r_range (fun _ q => by walk_at "sx"; exact q) (fun _ q => by walk_at "sx"; exact r_owners TX.tb hT (by walk_at "sx"; exact r_lenOwn hT q)) ?_
    walk_at "sx"
    refine r_decN (fun g => ?_) (fun g => ?_)
    · exact h2 g
    · walk_at "sx"
      exact h1 g
theorem sc_t_holder : FnScope ["self", "lock"] ["self", "lock"] (defScope s_t_holder) := ⟨rfl, rfl, rfl, by decide +kernel, rfl, by decide +kernel, by decide +kernel⟩
theorem ok_t_holder (TX : Txt K mg) : OkF P w K mg base 2 (He.ma K (He.ga K "Table") "holder") ["self", "lock"] (sp_t_holder K) := by
  obtain ⟨⟨fd_t_need_lock, G_t_need_lock, b_t_need_lock⟩, k_t_need_lock⟩ := (ok_t_need_lock TX : OkF P w K mg base _ _ _ _)
  refine okF TX.f_t_holder sc_t_holder (fun _ _ _ _ _ _ us hl => match us, hl with | [_, _], _ => rfl) (fun vs H Q E h => ?_) (fun cdv A outer s H vs Q E hr h => ?_)
  · obtain ⟨_, _, rfl, _⟩ := h
    rfl
  · obtain ⟨x, y, rfl, h⟩ := h
    refine ⟨_, (pss_cons (ps_expr (pe_meth (pv 0) TX.c_Table TX.m_t_need_lock G_t_need_lock (hr.mono (by decide)) b_t_need_lock .nil pE (pa_cons (pv 1) pa_nil))) (pss_one (ps_ret (pe_ix (k_ixl (K := K) rfl) (k_fld (K := K) rfl (pv 0) rfl) (pv 1) (fun _ _ => rfl))))), ?_⟩
    refine r_st (σ' := [some x, some y]) rfl ?_
    try dsimp only [cxOf]
    obtain ⟨A, T, a, rfl, rfl, hT, h1, h2⟩ := h
    walk_at "sx"
    refine r_tmeth hT (by decide +kernel) ?_
    walk_at "sx"
    refine ⟨A, T, a, rfl, rfl, hT, fun g => ?_, h2⟩
    have q := h1 g
    obtain ⟨a, rfl, ha⟩ := Tb.isL_nat g
    walk_at "sx"
    refine r_owners TX.tb hT ?_
    walk_at "sx"
    exact r_ixOwn hT ha q
theorem sc_t_need_agent : FnScope ["self", "agent"] ["self", "agent"] (defScope s_t_need_agent) := ⟨rfl, rfl, rfl, by decide +kernel, rfl, by decide +kernel, by decide +kernel⟩
theorem ok_t_need_agent (TX : Txt K mg) : OkF P w K mg base 1 (He.ma K (He.ga K "Table") "need_agent") ["self", "agent"] (sp_t_need_agent K) := by
  refine okF TX.f_t_need_agent sc_t_need_agent (fun _ _ _ _ _ _ us hl => match us, hl with | [_, _], _ => rfl) (fun vs H Q E h => ?_) (fun cdv A outer s H vs Q E hr h => ?_)
  · obtain ⟨_, _, rfl, _⟩ := h
    rfl
  · obtain ⟨x, y, rfl, h⟩ := h
    refine ⟨_, (pss_one (ps_if (pt_not (pt_chain op_le op_lt pe_int (pv 1) (pe_callB (k_len (K := K) rfl) (by rfl) TX.z_len (by decide +kernel) (pa_cons (k_fld (K := K) rfl (pv 0) rfl) pa_nil)))) (pss_one (ps_raise rfl (takes_of rfl rfl rfl rfl) (pmk_own PySem.F.excBase_ValueError TX.e_NoAgent.ex TX.e_NoAgent.g TX.e_NoAgent.k (raises_own TX.e_NoAgent.b TX.e_NoAgent.t) rfl))) pss_nil)), ?_⟩
    refine r_st (σ' := [some x, some y]) rfl ?_
    try dsimp only [cxOf]
    obtain ⟨A, T, a, rfl, rfl, hT, h1, h2⟩ := h
    walk_at "sx"
    refine r_range (fun _ q => by walk_at "sx"; exact q) (fun _ q => by walk_at "sx"; exact r_wants TX.tb hT (by walk_at "sx"; exact r_lenWan hT q)) ?_
    walk_at "sx"
    refine r_decN (fun g => ?_) (fun g => ?_)
    · exact h2 g
    · walk_at "sx"
      exact h1 g
theorem sc_t_waits : FnScope ["self", "agent"] ["self", "agent"] (defScope s_t_waits) := ⟨rfl, rfl, rfl, by decide +kernel, rfl, by decide +kernel, by decide +kernel⟩
theorem ok_t_waits (TX : Txt K mg) : OkF P w K mg base 2 (He.ma K (He.ga K "Table") "waits") ["self", "agent"] (sp_t_waits K) := by
  obtain ⟨⟨fd_t_need_agent, G_t_need_agent, b_t_need_agent⟩, k_t_need_agent⟩ := (ok_t_need_agent TX : OkF P w K mg base _ _ _ _)
  refine okF TX.f_t_waits sc_t_waits (fun _ _ _ _ _ _ us hl => match us, hl with | [_, _], _ => rfl) (fun vs H Q E h => ?_) (fun cdv A outer s H vs Q E hr h => ?_)
  · obtain ⟨_, _, rfl, _⟩ := h
    rfl
  · obtain ⟨x, y, rfl, h⟩ := h
    refine ⟨_, (pss_cons (ps_expr (pe_meth (pv 0) TX.c_Table TX.m_t_need_agent G_t_need_agent (hr.mono (by decide)) b_t_need_agent .nil pE (pa_cons (pv 1) pa_nil))) (pss_one (ps_ret (pe_ix (k_ixl (K := K) rfl) (k_fld (K := K) rfl (pv 0) rfl) (pv 1) (fun _ _ => rfl))))), ?_⟩
    refine r_st (σ' := [some x, some y]) rfl ?_
    try dsimp only [cxOf]
    obtain ⟨A, T, a, rfl, rfl, hT, h1, h2⟩ := h
    walk_at "sx"
    refine r_tmeth hT (by decide +kernel) ?_
    walk_at "sx"
    refine ⟨A, T, a, rfl, rfl, hT, fun g => ?_, h2⟩
    have q := h1 g
    obtain ⟨a, rfl, ha⟩ := Tb.isA_nat g
    walk_at "sx"
    refine r_wants TX.tb hT ?_
    walk_at "sx"
    exact r_ixWan hT ha q
theorem sc_next_of : FnScope ["table", "agent", "lock"] ["table", "agent"] (defScope s_next_of) := ⟨rfl, rfl, rfl, by decide +kernel, rfl, by decide +kernel, by decide +kernel⟩
theorem ok_next_of (TX : Txt K mg) : OkF P w K mg base 3 (He.ga K "next_of") ["table", "agent"] (sp_next_of K) := by
  obtain ⟨⟨fd_t_holder, G_t_holder, b_t_holder⟩, k_t_holder⟩ := (ok_t_holder TX : OkF P w K mg base _ _ _ _)
  obtain ⟨⟨fd_t_waits, G_t_waits, b_t_waits⟩, k_t_waits⟩ := (ok_t_waits TX : OkF P w K mg base _ _ _ _)
  refine okF TX.f_next_of sc_next_of (fun _ _ _ _ _ _ us hl => match us, hl with | [_, _], _ => rfl) (fun vs H Q E h => ?_) (fun cdv A outer s H vs Q E hr h => ?_)
  · obtain ⟨_, _, rfl, _⟩ := h
    rfl
  · obtain ⟨x, y, rfl, h⟩ := h
    refine ⟨_, (pss_cons (ps_set (i := 2) sc_next_of.nd rfl (Or.inl rfl) (pe_meth (pv 0) TX.c_Table TX.m_t_waits G_t_waits (hr.mono (by decide)) b_t_waits .nil pE (pa_cons (pv 1) pa_nil))) (pss_one (ps_ret (pe_ifExp (pt_cmpR (op_isN) (pv 2) pe_non (nomark _)) pe_non (pe_meth (pv 0) TX.c_Table TX.m_t_holder G_t_holder (hr.mono (by decide)) b_t_holder .nil pE (pa_cons (pv 2) pa_nil)))))), ?_⟩
    refine r_st (σ' := [some x, some y, none]) rfl ?_
    try dsimp only [cxOf]
    obtain ⟨A, T, a, rfl, rfl, hT, hW, ha, q⟩ := h
    walk_at "sx"
    refine r_tmeth hT (by decide +kernel) ?_
    walk_at "sx"
    refine ⟨A, T, (a : Int), rfl, rfl, hT, fun _ => ?_, fun z => absurd (Tb.isA_of ha) z⟩
    rw [Int.toNat_natCast]
    walk_at "sx"
    refine ⟨rfl, ?_⟩
    walk_at "sx"
    unfold Tb.nx at q
    cases hw : T.wa a with
    | none =>
      rw [hw] at q
      refine r_dec (fun _ => ?_) (fun g => absurd rfl g)
      walk_at "sx"
      exact q
    | some l =>
      rw [hw] at q
      refine r_dec (fun g => by cases g) (fun _ => ?_)
      walk_at "sx"
      refine r_tmeth hT (by decide +kernel) ?_
      walk_at "sx"
      refine ⟨A, T, (l : Int), rfl, rfl, hT, fun _ => ?_, fun z => absurd (Tb.isL_of (hW.wl a l hw).1) z⟩
      rw [Int.toNat_natCast]
      exact q
theorem sc_chain : FnScope ["table", "agent", "found", "here"] ["table", "agent"] (defScope s_chain) := ⟨rfl, rfl, rfl, by decide +kernel, rfl, by decide +kernel, by decide +kernel⟩
theorem ok_chain (TX : Txt K mg) : OkF P w K mg base 4 (He.ga K "chain") ["table", "agent"] (sp_chain K) := by
  obtain ⟨⟨fd_next_of, G_next_of, b_next_of⟩, k_next_of⟩ := (ok_next_of TX : OkF P w K mg base _ _ _ _)
  refine okF TX.f_chain sc_chain (fun _ _ _ _ _ _ us hl => match us, hl with | [_, _], _ => rfl) (fun vs H Q E h => ?_) (fun cdv A outer s H vs Q E hr h => ?_)
  · obtain ⟨_, _, rfl, _⟩ := h
    rfl
  · obtain ⟨x, y, rfl, h⟩ := h
    refine ⟨_, (pss_cons (ps_set (i := 2) sc_chain.nd rfl (Or.inl rfl) (pe_lst (pa_cons (pv 1) pa_nil))) (pss_cons (ps_set (i := 3) sc_chain.nd rfl (Or.inl rfl) (pe_call G_next_of (hr.mono (by decide)) (by rfl) TX.g_next_of k_next_of b_next_of .nil pE (pa_cons (pv 0) (pa_cons (pv 1) pa_nil)))) (pss_cons (ps_while pOwn (PW.pt (pw_and (pt_cmpR (op_notN) (pv 3) pe_non (nomark _)) (pw_and1 (pt_cmpR (k_notInS (K := K) rfl) (pv 3) (pv 2) (by with_unfolding_all rfl))))) (pss_cons (ps_expr (pe_bm PySem.F.plainAttrs_list PySem.F.slot_list_append PySem.F.type_list_append mt_append (pv 2) (pa_cons (pv 3) pa_nil))) (pss_one (ps_set (i := 3) sc_chain.nd rfl (Or.inl rfl) (pe_call G_next_of (hr.mono (by decide)) (by rfl) TX.g_next_of k_next_of b_next_of .nil pE (pa_cons (pv 0) (pa_cons (pv 3) pa_nil))))))) (pss_one (ps_ret (pv 2)))))), ?_⟩
    refine r_st (σ' := [some x, some y, none, none]) rfl ?_
    try dsimp only [cxOf]
    obtain ⟨A, T, a, rfl, rfl, hT, hW, ha, q⟩ := h
    walk_at "sx"
    refine r_newL (by show 1 ≤ 2000; decide) (fun p H1 hp e1 f1 => ?_)
    walk_at "sx"
    refine ⟨A, T, a, rfl, rfl, hT.fr0 f1, hW, ha, ?_⟩
    walk_at "sx"
    refine ⟨fun m σ' H' => ∃ (f : List Nat) (h : Option Nat), m = T.n + 1 - f.length ∧ σ' = [some (.ref A.p), some (.int (a : Int)), some (.ref p), some (oV h)] ∧ Fr No H H' ∧ H' p = some (.lst (f.map nV)) ∧ T.Wk f h (T.way a), ⟨_, [a], T.nx a, rfl, rfl, f1, e1, Tb.Wk.init hW ha⟩, ?_⟩
    rintro m σ' H' ⟨f, h, rfl, rfl, f2, e2, w⟩
    have hl := w.len
    have h8 := hT.sz.n8
    walk_at "sx"
    refine ⟨rfl, ?_⟩
    walk_at "sx"
    cases h with
    | none =>
      refine r_decN (fun g => absurd rfl g) (fun _ => ?_)
      walk_at "sx"
      have e : T.chainT a = f := by unfold Tb.chainT; rw [w.stop0]
      exact q p H' hp (by rw [e]; exact e2) f2
    | some b =>
      refine r_decN (fun _ => ?_) (fun g => by cases g)
      walk_at "sx"
      refine r_notInL e2 ?_
      walk_at "sx"
      refine r_decN (fun hb => ?_) (fun hb => ?_)
      · obtain ⟨w', hl'⟩ := w.step hW hb
        refine ⟨fun σ2 H2 => ∃ m', m' < T.n + 1 - f.length ∧ ∃ (f' : List Nat) (h' : Option Nat), m' = T.n + 1 - f'.length ∧ σ2 = [some (.ref A.p), some (.int (a : Int)), some (.ref p), some (oV h')] ∧ Fr No H H2 ∧ H2 p = some (.lst (f'.map nV)) ∧ T.Wk f' h' (T.way a), fun σ2 H2 z => z, ?_⟩
        walk_at "sx"
        refine r_tyL e2 ?_
        walk_at "sx"
        refine r_append e2 (by rw [List.length_map]; omega) ?_
        have f3 : Fr No H (upd H' p (.lst (f.map nV ++ [V.int (b : Int)]))) := f2.mut hp
        walk_at "sx"
        refine ⟨A, T, b, rfl, rfl, hT.fr0 f3, hW, w.hl b rfl, ?_⟩
        walk_at "sx"
        refine ⟨_, ?_, f ++ [b], T.nx b, rfl, rfl, f3, ?_, w'⟩
        · rw [List.length_append, List.length_singleton]; omega
        · rw [upd_same, List.map_append]; rfl
      · walk_at "sx"
        have e : T.chainT a = f := by unfold Tb.chainT; rw [w.stop1 hb]
        exact q p H' hp (by rw [e]; exact e2) f2
theorem sc_ring_of : FnScope ["table", "agent", "found"] ["table", "agent"] (defScope s_ring_of) := ⟨rfl, rfl, rfl, by decide +kernel, rfl, by decide +kernel, by decide +kernel⟩
theorem ok_ring_of (TX : Txt K mg) : OkF P w K mg base 5 (He.ga K "ring_of") ["table", "agent"] (sp_ring_of K) := by
  obtain ⟨⟨fd_next_of, G_next_of, b_next_of⟩, k_next_of⟩ := (ok_next_of TX : OkF P w K mg base _ _ _ _)
  obtain ⟨⟨fd_chain, G_chain, b_chain⟩, k_chain⟩ := (ok_chain TX : OkF P w K mg base _ _ _ _)
  refine okF TX.f_ring_of sc_ring_of (fun _ _ _ _ _ _ us hl => match us, hl with | [_, _], _ => rfl) (fun vs H Q E h => ?_) (fun cdv A outer s H vs Q E hr h => ?_)
  · obtain ⟨_, _, rfl, _⟩ := h
    rfl
  · obtain ⟨x, y, rfl, h⟩ := h
    refine ⟨_, (pss_cons (ps_set (i := 2) sc_ring_of.nd rfl (Or.inl rfl) (pe_call G_chain (hr.mono (by decide)) (by rfl) TX.g_chain k_chain b_chain .nil pE (pa_cons (pv 0) (pa_cons (pv 1) pa_nil)))) (pss_cons (ps_if (PW.pt (pw_or (pt_cmpR (op_ne) (pe_call G_next_of (hr.mono (by decide)) (by rfl) TX.g_next_of k_next_of b_next_of .nil pE (pa_cons (pv 0) (pa_cons (pe_ix (k_ixl (K := K) rfl) (pv 2) (pe_un un_neg pe_int) (fun _ _ => rfl)) pa_nil))) (pv 1) (nomark _)) (pw_or1 (pt_cmpR (op_ne) (pe_callB (k_max (K := K) rfl rfl) (by rfl) TX.z_max (by decide +kernel) (pa_cons (pv 2) pa_nil)) (pv 1) (nomark _))))) (pss_one (ps_ret pe_non)) pss_nil) (pss_one (ps_ret (pe_callTy (k_tupOf (K := K) rfl) (by rfl) TX.z_tuple (by decide +kernel) (pa_cons (pv 2) pa_nil)))))), ?_⟩
    refine r_st (σ' := [some x, some y, none]) rfl ?_
    try dsimp only [cxOf]
    obtain ⟨A, T, a, rfl, rfl, hT, hW, ha, q0, q1⟩ := h
    walk_at "sx"
    refine ⟨A, T, a, rfl, rfl, hT, hW, ha, fun p H1 hp e1 f1 => ?_⟩
    obtain ⟨w1, w2, i, z, w3, w4⟩ := Tb.way_ok hW ha
    have hz : z < T.n := w2 z (by rw [w3]; simp)
    have e1' : H1 p = some (.lst (i.map nV ++ [V.int (z : Int)])) := by
      rw [e1]
      show some (HO.lst ((T.way a).1.map nV)) = _
      rw [w3, List.map_append]
      rfl
    have hT1 := hT.fr0 f1
    walk_at "sx"
    refine r_un ?_
    walk_at "sx"
    refine r_rU ?_
    refine r_ixLast e1' ?_
    walk_at "sx"
    refine ⟨A, T, z, rfl, rfl, hT1, hW, hz, ?_⟩
    rw [w4]
    walk_at "sx"
    refine r_ne (scal_oo _ _) ?_
    walk_at "sx"
    refine r_decN (fun g => ?_) (fun g => ?_)
    · walk_at "sx"
      refine q0 H1 ?_ f1
      unfold Tb.ringAt
      rw [if_neg (fun k => g ((oV_int _ _).mpr k.1))]
    have g' := (oV_int _ _).mp g
    walk_at "sx"
    refine r_maxN (xs := T.chainT a) e1 (by unfold Tb.chainT; rw [w3]; simp) ?_
    walk_at "sx"
    refine r_ne rfl ?_
    walk_at "sx"
    refine r_decN (fun g2 => ?_) (fun g2 => ?_)
    · walk_at "sx"
      refine q0 H1 ?_ f1
      unfold Tb.ringAt
      rw [if_neg (fun k => g2 (by show V.int (Tb.mx (T.way a).1 : Int) = _; rw [k.2]))]
    · walk_at "sx"
      refine r_tupN e1 (fun t H2 ht e2 f2 => ?_)
      refine q1 (T.chainT a) t H2 ?_ (f1.fresh ht) e2 (f1.trans f2)
      unfold Tb.ringAt
      have g2' : Tb.mx (T.way a).1 = a := by
        have := V.int.inj g2
        exact Int.ofNat.inj this
      rw [if_pos ⟨g', g2'⟩]
      rfl
theorem sc_rings : FnScope ["table", "found", "agent", "ring"] ["table"] (defScope s_rings) := ⟨rfl, rfl, rfl, by decide +kernel, rfl, by decide +kernel, by decide +kernel⟩
theorem ok_rings (TX : Txt K mg) : OkF P w K mg base 6 (He.ga K "rings") ["table"] (sp_rings K) := by
  obtain ⟨⟨fd_t_agents, G_t_agents, b_t_agents⟩, k_t_agents⟩ := (ok_t_agents TX : OkF P w K mg base _ _ _ _)
  obtain ⟨⟨fd_ring_of, G_ring_of, b_ring_of⟩, k_ring_of⟩ := (ok_ring_of TX : OkF P w K mg base _ _ _ _)
  refine okF TX.f_rings sc_rings (fun _ _ _ _ _ _ us hl => match us, hl with | [_], _ => rfl) (fun vs H Q E h => ?_) (fun cdv A outer s H vs Q E hr h => ?_)
  · obtain ⟨_, rfl, _⟩ := h
    rfl
  · obtain ⟨x, rfl, h⟩ := h
    refine ⟨_, (pss_cons (ps_setLc (i := 1) (own := [("agent", 2)]) (g := gName 2) rfl sc_rings.nd rfl rfl (sw_true rfl rfl rfl (by decide +kernel)) (pi_range1 (by rfl) TX.z_range (pa_cons (pe_meth0 (pv 0) TX.c_Table TX.m_t_agents G_t_agents (hr.mono (by decide)) b_t_agents .nil pE) pa_nil)) (blkOk_by (N := ["table", "found", "agent", "ring"]) (sc := defScope s_rings) (by decide +kernel)) (fun _ _ _ _ _ => pg_name (i := 2) sc_rings.nd rfl (Or.inl rfl)) (fun _ _ _ _ _ => by exact pts_nil) (fun _ _ _ _ _ => by exact (pe_call G_ring_of (hr.mono (by decide)) (by rfl) TX.g_ring_of k_ring_of b_ring_of .nil passL (pa_cons (pv 0) (pa_cons (pv 2) pa_nil))))) (pss_one (ps_ret (pe_lc (own := [("ring", 3)]) (g := gName 3) rfl sc_rings.nd (k_listI (K := K) rfl (pv 1)) (blkOk_by (N := ["table", "found", "agent", "ring"]) (sc := defScope s_rings) (by decide +kernel)) (fun _ _ _ _ _ => pg_name (i := 3) sc_rings.nd rfl (Or.inl rfl)) (fun _ _ _ _ _ => by exact (pts_one (pt_cmpR (op_notN) (pv 3) pe_non (nomark _)))) (fun _ _ _ _ _ => by exact (pv 3)))))), ?_⟩
    refine r_st (σ' := [some x, none, none, none]) rfl ?_
    try dsimp only [cxOf]
    obtain ⟨A, T, rfl, hT, hW, q⟩ := h
    walk_at "sx"
    refine r_lcR (n := T.n) (fun _ => true) (fun a => match T.ringAt a with | none => .none | some r => ringD r) (by have := hT.sz.n8; omega) (fun Q q => by walk_at "sx"; refine r_tmeth hT (by decide +kernel) ?_; walk_at "sx"; exact ⟨A, T, rfl, hT, q⟩) (fun _ => rfl) (fun i H' hi f => tells_yes) (fun i H' hi _ f Q q => ?_) (fun p1 H1 hp1 hl1 f1 => ?_)
    · walk_at "sx"
      refine ⟨A, T, i, rfl, rfl, hT.fr0 f, hW, hi, fun H2 e f2 => ?_, fun r p H2 e hp e2 f2 => ?_⟩
      · refine q _ H2 f2 ?_
        rw [e]
        exact .non
      · refine q _ H2 f2 ?_
        rw [e]
        exact .tup e2 (td_nats H2 r)
    rw [turns_all] at hl1
    obtain ⟨vs, e1, a1⟩ := hl1
    walk_at "sx"
    have hvl : vs.length = T.n := by rw [a1.len, List.length_map, List.length_range]
    have vat : ∀ i v, vs[i]? = some v → i < T.n ∧ Td H1 v (match T.ringAt i with | none => .none | some r => ringD r) := fun i v hv => by
      have hi : i < T.n := by rw [← hvl]; exact (List.getElem?_eq_some_iff.mp hv).1
      obtain ⟨u, e2, t⟩ := a1.at (i := i) (d := match T.ringAt i with | none => .none | some r => ringD r) (by rw [List.getElem?_map, List.getElem?_range hi]; rfl)
      rw [hv] at e2
      cases e2
      exact ⟨hi, t⟩
    refine r_lcL (a := p1) (xs := vs) (fun i => (T.ringAt i).isSome) (fun i => match T.ringAt i with | none => .none | some r => ringD r) (by rw [hvl]; have := hT.sz.n8; omega) (fun Q q => by walk_at "sx"; exact q) e1 (fun _ => rfl) (fun i v H' hv f Q q => ?_) (fun i v H' hv hf f Q q => ?_) (fun p2 H2 hp2 hl2 f2 => ?_)
    · obtain ⟨hi, t⟩ := vat i v hv
      walk_at "sx"
      refine ⟨rfl, ?_⟩
      walk_at "sx"
      have e : (!decide (v = V.non)) = (T.ringAt i).isSome := by
        cases qr : T.ringAt i with
        | none => rw [qr] at t; cases t; rfl
        | some r => rw [qr] at t; cases t; rfl
      rw [e]
      exact q H' Fr.refl
    · obtain ⟨hi, t⟩ := vat i v hv
      walk_at "sx"
      exact q _ H' Fr.refl (t.fr f)
    · rw [hvl] at hl2
      have e : turns (fun i => (T.ringAt i).isSome) (fun i => match T.ringAt i with | none => .none | some r => ringD r) T.n = T.ringsT.map ringD := by
        unfold turns Tb.ringsT
        exact some_map (List.range T.n) T.ringAt
      rw [e] at hl2
      exact q p2 H2 (f1.fresh hp2) hl2 (f1.trans f2)
theorem sc_t_init : FnScope ["self", "agents", "locks", "lock"] ["self", "agents", "locks"] (defScope s_t_init) := ⟨rfl, rfl, rfl, by decide +kernel, rfl, by decide +kernel, by decide +kernel⟩
theorem ok_t_init (TX : Txt K mg) : OkN P w K mg base 1 (He.ma K (He.ga K "Table") "__init__") ["self", "agents", "locks"] (sp_t_init K) := by
  refine okN TX.f_t_init sc_t_init (fun _ _ _ _ _ _ us hl => match us, hl with | [_, _, _], _ => rfl) (fun vs H Q E h => ?_) (fun cdv A outer s H vs Q E hr h => ?_)
  · obtain ⟨_, _, _, rfl, _⟩ := h
    rfl
  · obtain ⟨x, y, z, rfl, h⟩ := h
    refine ⟨_, (pss_cons (ps_if (PW.pt (pw_or (pt_not (pt_chain op_le op_le pe_int (pv 1) (pe_glob (v := .int 8) rfl TX.i_MOST_AGENTS.choose_spec ⟨_, rfl⟩))) (pw_or1 (pt_not (pt_chain op_le op_le pe_int (pv 2) (pe_glob (v := .int 12) rfl TX.i_MOST_LOCKS.choose_spec ⟨_, rfl⟩)))))) (pss_one (L2N.ps_raise rfl (L2N.takes_of rfl rfl rfl rfl) (L2N.pmk_own PySem.F.excBase_ValueError TX.e_NoTable.ex TX.e_NoTable.g TX.e_NoTable.k (raises_own TX.e_NoTable.b TX.e_NoTable.t) rfl))) pss_nil) (pss_cons (kp_fld (K := K) rfl (pv 0) (pe_op op_rep (pe_lst (pa_cons pe_non pa_nil)) (pv 2)) rfl) (pss_cons (kp_fld (K := K) rfl (pv 0) (pe_lc (own := [("lock", 3)]) (g := gName 3) rfl sc_t_init.nd (pi_range1 (by rfl) TX.z_range (pa_cons (pv 2) pa_nil)) (blkOk_by (N := ["self", "agents", "locks", "lock"]) (sc := defScope s_t_init) (by decide +kernel)) (fun _ _ _ _ _ => pg_name (i := 3) sc_t_init.nd rfl (Or.inl rfl)) (fun _ _ _ _ _ => by exact pts_nil) (fun _ _ _ _ _ => by exact (pe_lst pa_nil))) rfl) (pss_cons (kp_fld (K := K) rfl (pv 0) (pe_op op_rep (pe_lst (pa_cons pe_int pa_nil)) (pv 2)) rfl) (pss_cons (kp_fld (K := K) rfl (pv 0) (pe_op op_rep (pe_lst (pa_cons pe_non pa_nil)) (pv 1)) rfl) (pss_one (kp_fld (K := K) rfl (pv 0) (pe_op op_rep (pe_lst (pa_cons pe_int pa_nil)) (pv 1)) rfl))))))), ?_⟩
    refine r_st (σ' := [some x, some y, some z, none]) rfl ?_
    try dsimp only [cxOf]
    obtain ⟨p, dx, a, l, rfl, rfl, rfl, hp, hb, ho⟩ := h
    walk_at "sx"
    refine r_between (fun _ q => by walk_at "sx"; exact q) (fun _ q => q) ?_
    walk_at "sx"
    refine r_decN (fun g => ?_) (fun g => ?_)
    · exact hb (fun z => g z.1)
    walk_at "sx"
    refine r_between (fun _ q => by walk_at "sx"; exact q) (fun _ q => q) ?_
    walk_at "sx"
    refine r_decN (fun g2 => ?_) (fun g2 => ?_)
    · exact hb (fun z => g2 z.2)
    have hok : TbOk a l := ⟨g, g2⟩
    obtain ⟨n, rfl⟩ : ∃ n : Nat, a = (n : Int) := ⟨a.toNat, by omega⟩
    obtain ⟨m, rfl⟩ : ∃ m : Nat, l = (m : Int) := ⟨l.toNat, by omega⟩
    have hs : (Tb.new n m).Sz := Tb.Sz.new (by omega) (by omega) (by omega) (by omega)
    replace ho := ho hok
    rw [Int.toNat_natCast, Int.toNat_natCast] at ho
    walk_at "sx"
    refine r_newL (by show 1 ≤ 2000; decide) (fun t1 H1 ht1 et1 h1 => ?_)
    walk_at "sx"
    refine r_rep et1 (by omega) (fun ow H2 how eow h2 => ?_)
    walk_at "sx"
    refine r_putOn ((h1.trans h2).lst hp) TX.tb.c TX.tb.o (by show 0 < 1000; decide) (fun H3 e3 g1 => ?_)
    walk_at "sx"
    refine r_lcMR (n := m) (fun _ => []) (by omega) (fun Q q => by walk_at "sx"; exact q) (fun _ => rfl) (fun i H' hi f Q q => by walk_at "sx"; exact r_newL (by show 0 ≤ 2000; decide) q) (fun li ls H4 hli hll w => ?_)
    walk_at "sx"
    refine r_putOn (w.fr.lst e3) TX.tb.c TX.tb.l (by show 1 < 1000; decide) (fun H5 e5 g2' => ?_)
    walk_at "sx"
    refine r_newL (by show 1 ≤ 2000; decide) (fun t2 H6 ht2 et2 h6 => ?_)
    walk_at "sx"
    refine r_rep et2 (by omega) (fun ti H7 hti eti h7 => ?_)
    walk_at "sx"
    refine r_putOn ((h6.trans h7).lst e5) TX.tb.c TX.tb.t (by show 2 < 1000; decide) (fun H8 e8 g3 => ?_)
    walk_at "sx"
    refine r_newL (by show 1 ≤ 2000; decide) (fun t3 H9 ht3 et3 h9 => ?_)
    walk_at "sx"
    refine r_rep et3 (by omega) (fun wa H10 hwa ewa h10 => ?_)
    walk_at "sx"
    refine r_putOn ((h9.trans h10).lst e8) TX.tb.c TX.tb.w (by show 3 < 1000; decide) (fun H11 e11 g4 => ?_)
    walk_at "sx"
    refine r_newL (by show 1 ≤ 2000; decide) (fun t4 H12 ht4 et4 h12 => ?_)
    walk_at "sx"
    refine r_rep et4 (by omega) (fun ro H13 hro ero h13 => ?_)
    walk_at "sx"
    refine r_putOn ((h12.trans h13).lst e11) TX.tb.c TX.tb.r (by show 4 < 1000; decide) (fun H14 e14 g5 => ?_)
    walk_at "sx"
    obtain ⟨q1, q2, q3⟩ := five (K := K) (T := Tb.new n m) hs hp fs_nil (h1.trans h2) (h1.fresh how) (by rw [eow]; simp [Tb.new, oV]) g1 w (by rw [hll]; simp [Tb.new]) (fun i _ => by rw [Tb.new_ln]; rfl) g2' (h6.trans h7) (h6.fresh hti) (by rw [eti]; simp [Tb.new, nV]) g3 (h9.trans h10) (h9.fresh hwa) (by rw [ewa]; simp [Tb.new, oV]) g4 (h12.trans h13) (h12.fresh hro) (by rw [ero]; simp [Tb.new, nV]) g5 e14
    exact ho _ H14 rfl q1 q2 q3
theorem sc_t_copied : FnScope ["self", "found", "line"] ["self"] (defScope s_t_copied) := ⟨rfl, rfl, rfl, by decide +kernel, rfl, by decide +kernel, by decide +kernel⟩
theorem ok_t_copied (TX : Txt K mg) : OkF P w K mg base 3 (He.ma K (He.ga K "Table") "copied") ["self"] (sp_t_copied K) := by
  obtain ⟨⟨fd_t_init, G_t_init, b_t_init⟩, k_t_init⟩ := (ok_t_init TX : OkN P w K mg base _ _ _ _)
  refine okF TX.f_t_copied sc_t_copied (fun _ _ _ _ _ _ us hl => match us, hl with | [_], _ => rfl) (fun vs H Q E h => ?_) (fun cdv A outer s H vs Q E hr h => ?_)
  · obtain ⟨_, rfl, _⟩ := h
    rfl
  · obtain ⟨x, rfl, h⟩ := h
    refine ⟨_, (pss_cons (ps_set (i := 1) sc_t_copied.nd rfl (Or.inl rfl) (pe_make TX.k_Table G_t_init (hr.mono (by decide)) (by rfl) TX.g_Table b_t_init .nil (pN pE) (pa_cons (pe_callB (k_len (K := K) rfl) (by rfl) TX.z_len (by decide +kernel) (pa_cons (k_fld (K := K) rfl (pv 0) rfl) pa_nil)) (pa_cons (pe_callB (k_len (K := K) rfl) (by rfl) TX.z_len (by decide +kernel) (pa_cons (k_fld (K := K) rfl (pv 0) rfl) pa_nil)) pa_nil)))) (pss_cons (kp_fld (K := K) rfl (pv 1) (pe_callTy (k_listOf (K := K) rfl) (by rfl) TX.z_list (by decide +kernel) (pa_cons (k_fld (K := K) rfl (pv 0) rfl) pa_nil)) rfl) (pss_cons (kp_fld (K := K) rfl (pv 1) (pe_lc (own := [("line", 2)]) (g := gName 2) rfl sc_t_copied.nd (k_listI (K := K) rfl (k_fld (K := K) rfl (pv 0) rfl)) (blkOk_by (N := ["self", "found", "line"]) (sc := defScope s_t_copied) (by decide +kernel)) (fun _ _ _ _ _ => pg_name (i := 2) sc_t_copied.nd rfl (Or.inl rfl)) (fun _ _ _ _ _ => by exact pts_nil) (fun _ _ _ _ _ => by exact (pe_callTy (k_listOf (K := K) rfl) (by rfl) TX.z_list (by decide +kernel) (pa_cons (pv 2) pa_nil)))) rfl) (pss_cons (kp_fld (K := K) rfl (pv 1) (pe_callTy (k_listOf (K := K) rfl) (by rfl) TX.z_list (by decide +kernel) (pa_cons (k_fld (K := K) rfl (pv 0) rfl) pa_nil)) rfl) (pss_cons (kp_fld (K := K) rfl (pv 1) (pe_callTy (k_listOf (K := K) rfl) (by rfl) TX.z_list (by decide +kernel) (pa_cons (k_fld (K := K) rfl (pv 0) rfl) pa_nil)) rfl) (pss_cons (kp_fld (K := K) rfl (pv 1) (pe_callTy (k_listOf (K := K) rfl) (by rfl) TX.z_list (by decide +kernel) (pa_cons (k_fld (K := K) rfl (pv 0) rfl) pa_nil)) rfl) (pss_one (ps_ret (pv 1))))))))), ?_⟩
    refine r_st (σ' := [some x, none, none]) rfl ?_
    try dsimp only [cxOf]
    obtain ⟨A, T, rfl, hT, ho⟩ := h
    have hs := hT.sz
    walk_at "sx"
    refine r_wants TX.tb hT ?_
    walk_at "sx"
    refine r_lenWan hT ?_
    walk_at "sx"
    refine r_owners TX.tb hT ?_
    walk_at "sx"
    refine r_lenOwn hT ?_
    walk_at "sx"
    refine r_makeOn (fun x dx H1 hx e1 h1 => ?_)
    walk_at "sx"
    refine ⟨x, dx, (T.n : Int), (T.m : Int), rfl, rfl, rfl, e1, fun z => absurd ⟨⟨by have := hs.n1; omega, by have := hs.n8; omega⟩, by have := hs.m1; omega, by have := hs.m12; omega⟩ z, fun _ B H2 eB hB h2 hnew => ⟨rfl, ?_⟩⟩
    subst eB
    have hA : ∀ b, A.has b → ¬ b = B.p := fun b hb z => by
      obtain ⟨o, e, _⟩ := hT.old hb
      rw [z, hx] at e
      cases e
    have hT2 := (hT.fr0 h1).fr h2 hA
    walk_at "sx"
    refine r_owners TX.tb hT2 ?_
    walk_at "sx"
    refine r_listOf hT2.own (fun ow H3 how eow h3 => ?_)
    walk_at "sx"
    refine r_putOn (h3.lst hB.ins) TX.tb.c TX.tb.o (by show 5 < 1000; decide) (fun H4 e4 g1 => ?_)
    have hT4 := (hT2.fr0 h3).fr g1 hA
    walk_at "sx"
    refine r_lcML (fun i => (T.ln i).map nV) (by rw [List.length_map, hT4.ll, hs.li]; have := hs.m12; omega) (fun Q q => by walk_at "sx"; refine r_lines TX.tb hT4 ?_; exact q) hT4.lin (fun _ => rfl) (fun i v H' hi f Q q => ?_) (fun li ls H5 hli hll w => ?_)
    · obtain ⟨b, hb, rfl⟩ : ∃ b, A.ls[i]? = some b ∧ v = .ref b := by
        rw [List.getElem?_map] at hi
        cases q : A.ls[i]? with
        | none => rw [q] at hi; cases hi
        | some l => rw [q] at hi; exact ⟨l, rfl, (Option.some.inj hi).symm⟩
      walk_at "sx"
      exact r_listOf ((hT4.fr0 f).each i b hb) q
    have hT5 := hT4.fr0 w.fr
    walk_at "sx"
    refine r_putOn (w.fr.lst e4) TX.tb.c TX.tb.l (by show 5 < 1000; decide) (fun H6 e6 g2 => ?_)
    have hT6 := hT5.fr g2 hA
    walk_at "sx"
    refine r_times TX.tb hT6 ?_
    walk_at "sx"
    refine r_listOf hT6.tim (fun ti H7 hti eti h7 => ?_)
    walk_at "sx"
    refine r_putOn (h7.lst e6) TX.tb.c TX.tb.t (by show 5 < 1000; decide) (fun H8 e8 g3 => ?_)
    have hT8 := (hT6.fr0 h7).fr g3 hA
    walk_at "sx"
    refine r_wants TX.tb hT8 ?_
    walk_at "sx"
    refine r_listOf hT8.wan (fun wa H9 hwa ewa h9 => ?_)
    walk_at "sx"
    refine r_putOn (h9.lst e8) TX.tb.c TX.tb.w (by show 5 < 1000; decide) (fun H10 e10 g4 => ?_)
    have hT10 := (hT8.fr0 h9).fr g4 hA
    walk_at "sx"
    refine r_rounds TX.tb hT10 ?_
    walk_at "sx"
    refine r_listOf hT10.rou (fun ro H11 hro ero h11 => ?_)
    walk_at "sx"
    refine r_putOn (h11.lst e10) TX.tb.c TX.tb.r (by show 5 < 1000; decide) (fun H12 e12 g5 => ?_)
    walk_at "sx"
    obtain ⟨q1, q2, q3⟩ := five (K := K) (T := T) (ls := ls) hs hB.ins fs_old h3 how eow g1 w (by rw [hll, List.length_map, hT.ll]) (fun i _ => rfl) g2 h7 hti eti g3 h9 hwa ewa g4 h11 hro ero g5 e12
    refine ho (TA.mk B.p B.dx ow li ti wa ro ls) H12 q1 ?_ (fun b hb => ?_)
    · have f : Fr (fun b => b = B.p) H1 H12 := h2.trans q2
      refine ⟨fun b o e _ => f.old b o (h1.lst e) (fun z => ?_), fun b xs e => f.tup b xs (h1.tup b xs e), fun b e => h1.thr b (f.thr b e)⟩
      rw [z, hx] at e
      cases e
    · by_cases z : b = B.p
      · rw [z]; exact hx
      · exact h1.fresh (h2.fresh (q3 b hb z))
theorem sc_h_table : FnScope ["self"] ["self"] (defScope s_h_table) := ⟨rfl, rfl, rfl, by decide +kernel, rfl, by decide +kernel, by decide +kernel⟩
theorem ok_h_table (TX : Txt K mg) : OkF P w K mg base 4 (He.ma K (He.ga K "Hall") "table") ["self"] (sp_h_table K) := by
  obtain ⟨⟨fd_t_copied, G_t_copied, b_t_copied⟩, k_t_copied⟩ := (ok_t_copied TX : OkF P w K mg base _ _ _ _)
  refine okF TX.f_h_table sc_h_table (fun _ _ _ _ _ _ us hl => match us, hl with | [_], _ => rfl) (fun vs H Q E h => ?_) (fun cdv A outer s H vs Q E hr h => ?_)
  · obtain ⟨_, rfl, _⟩ := h
    rfl
  · obtain ⟨x, rfl, h⟩ := h
    refine ⟨_, (pss_one (ps_ret (pe_meth0 (k_fld (K := K) rfl (pv 0) rfl) TX.c_Table TX.m_t_copied G_t_copied (hr.mono (by decide)) b_t_copied .nil pE))), ?_⟩
    refine r_st (σ' := [some x]) rfl ?_
    try dsimp only [cxOf]
    obtain ⟨A, M, rfl, hA, hq⟩ := h
    walk_at "sx"
    refine r_main TX.hl hA ?_
    refine r_tmeth hA.tb (by decide +kernel) ?_
    walk_at "sx"
    exact ⟨A.t, M.t, rfl, hA.tb, hq⟩
theorem sc_h_told : FnScope ["self"] ["self"] (defScope s_h_told) := ⟨rfl, rfl, rfl, by decide +kernel, rfl, by decide +kernel, by decide +kernel⟩
theorem ok_h_told (TX : Txt K mg) : OkF P w K mg base 1 (He.ma K (He.ga K "Hall") "told") ["self"] (sp_h_told K) := by
  refine okF TX.f_h_told sc_h_told (fun _ _ _ _ _ _ us hl => match us, hl with | [_], _ => rfl) (fun vs H Q E h => ?_) (fun cdv A outer s H vs Q E hr h => ?_)
  · obtain ⟨_, rfl, _⟩ := h
    rfl
  · obtain ⟨x, rfl, h⟩ := h
    refine ⟨_, (pss_one (ps_ret (pe_callTy (k_listOf (K := K) rfl) (by rfl) TX.z_list (by decide +kernel) (pa_cons (k_fld (K := K) rfl (pv 0) rfl) pa_nil)))), ?_⟩
    refine r_st (σ' := [some x]) rfl ?_
    try dsimp only [cxOf]
    obtain ⟨A, M, rfl, hA, hq⟩ := h
    walk_at "sx"
    refine r_tellings TX.hl hA ?_
    walk_at "sx"
    exact ls_copy hA.te hq
theorem sc_h_road : FnScope ["self"] ["self"] (defScope s_h_road) := ⟨rfl, rfl, rfl, by decide +kernel, rfl, by decide +kernel, by decide +kernel⟩
theorem ok_h_road (TX : Txt K mg) : OkF P w K mg base 1 (He.ma K (He.ga K "Hall") "road") ["self"] (sp_h_road K) := by
  refine okF TX.f_h_road sc_h_road (fun _ _ _ _ _ _ us hl => match us, hl with | [_], _ => rfl) (fun vs H Q E h => ?_) (fun cdv A outer s H vs Q E hr h => ?_)
  · obtain ⟨_, rfl, _⟩ := h
    rfl
  · obtain ⟨x, rfl, h⟩ := h
    refine ⟨_, (pss_one (ps_ret (pe_callTy (k_listOf (K := K) rfl) (by rfl) TX.z_list (by decide +kernel) (pa_cons (k_fld (K := K) rfl (pv 0) rfl) pa_nil)))), ?_⟩
    refine r_st (σ' := [some x]) rfl ?_
    try dsimp only [cxOf]
    obtain ⟨A, M, rfl, hA, hq⟩ := h
    walk_at "sx"
    refine r_letters TX.hl hA ?_
    walk_at "sx"
    exact ls_copy hA.le hq
theorem sc_t_hold_number : FnScope ["self", "lock"] ["self", "lock"] (defScope s_t_hold_number) := ⟨rfl, rfl, rfl, by decide +kernel, rfl, by decide +kernel, by decide +kernel⟩
theorem ok_t_hold_number (TX : Txt K mg) : OkF P w K mg base 2 (He.ma K (He.ga K "Table") "hold_number") ["self", "lock"] (sp_t_hold_number K) := by
  obtain ⟨⟨fd_t_need_lock, G_t_need_lock, b_t_need_lock⟩, k_t_need_lock⟩ := (ok_t_need_lock TX : OkF P w K mg base _ _ _ _)
  refine okF TX.f_t_hold_number sc_t_hold_number (fun _ _ _ _ _ _ us hl => match us, hl with | [_, _], _ => rfl) (fun vs H Q E h => ?_) (fun cdv A outer s H vs Q E hr h => ?_)
  · obtain ⟨_, _, rfl, _⟩ := h
    rfl
  · obtain ⟨x, y, rfl, h⟩ := h
    refine ⟨_, (pss_cons (ps_expr (pe_meth (pv 0) TX.c_Table TX.m_t_need_lock G_t_need_lock (hr.mono (by decide)) b_t_need_lock .nil pE (pa_cons (pv 1) pa_nil))) (pss_one (ps_ret (pe_ix (k_ixl (K := K) rfl) (k_fld (K := K) rfl (pv 0) rfl) (pv 1) (fun _ _ => rfl))))), ?_⟩
    refine r_st (σ' := [some x, some y]) rfl ?_
    try dsimp only [cxOf]
    obtain ⟨A, T, a, rfl, rfl, hT, h1, h2⟩ := h
    walk_at "sx"
    refine r_tmeth hT (by decide +kernel) ?_
    walk_at "sx"
    refine ⟨A, T, a, rfl, rfl, hT, fun g => ?_, h2⟩
    have q := h1 g
    obtain ⟨a, rfl, ha⟩ := Tb.isL_nat g
    walk_at "sx"
    refine r_times TX.tb hT ?_
    walk_at "sx"
    exact r_ixTim hT ha q
theorem sc_h_who : FnScope ["self", "path", "lock", "agent"] ["self", "path", "lock"] (defScope s_h_who) := ⟨rfl, rfl, rfl, by decide +kernel, rfl, by decide +kernel, by decide +kernel⟩
theorem ok_h_who (TX : Txt K mg) : OkF P w K mg base 3 (He.ma K (He.ga K "Hall") "who") ["self", "path", "lock"] (sp_h_who K) := by
  obtain ⟨⟨fd_t_hold_number, G_t_hold_number, b_t_hold_number⟩, k_t_hold_number⟩ := (ok_t_hold_number TX : OkF P w K mg base _ _ _ _)
  obtain ⟨⟨fd_t_holder, G_t_holder, b_t_holder⟩, k_t_holder⟩ := (ok_t_holder TX : OkF P w K mg base _ _ _ _)
  refine okF TX.f_h_who sc_h_who (fun _ _ _ _ _ _ us hl => match us, hl with | [_, _, _], _ => rfl) (fun vs H Q E h => ?_) (fun cdv A outer s H vs Q E hr h => ?_)
  · obtain ⟨_, _, _, rfl, _⟩ := h
    rfl
  · obtain ⟨x, y, z, rfl, h⟩ := h
    refine ⟨_, (pss_cons (ps_set (i := 3) sc_h_who.nd rfl (Or.inl rfl) (pe_meth (k_fld (K := K) rfl (pv 0) rfl) TX.c_Table TX.m_t_holder G_t_holder (hr.mono (by decide)) b_t_holder .nil pE (pa_cons (pv 2) pa_nil))) (pss_one (ps_if (pt_cmpR (op_notN) (pv 3) pe_non (nomark _)) (pss_one (ps_expr (pe_bm PySem.F.plainAttrs_list PySem.F.slot_list_append PySem.F.type_list_append mt_append (k_fld (K := K) rfl (pv 0) rfl) (pa_cons (pe_tup (pa_cons pe_str (pa_cons (pv 1) (pa_cons (pv 3) (pa_cons (pv 2) (pa_cons (pe_meth (k_fld (K := K) rfl (pv 0) rfl) TX.c_Table TX.m_t_hold_number G_t_hold_number (hr.mono (by decide)) b_t_hold_number .nil pE (pa_cons (pv 2) pa_nil)) pa_nil)))))) pa_nil)))) pss_nil))), ?_⟩
    refine r_st (σ' := [some x, some y, some z, none]) rfl ?_
    try dsimp only [cxOf]
    obtain ⟨A, M, p, l, rfl, rfl, hA, hO, hp, hll, hl, hq⟩ := h
    walk_at "sx"
    refine r_main TX.hl hA ?_
    refine r_tmeth hA.tb (by decide +kernel) ?_
    walk_at "sx"
    refine ⟨A.t, M.t, (l : Int), rfl, rfl, hA.tb, fun _ => ?_, fun z => absurd (Tb.isL_of hll) z⟩
    rw [Int.toNat_natCast]
    walk_at "sx"
    refine ⟨rfl, ?_⟩
    walk_at "sx"
    unfold Hl.who at hq
    cases eo : M.t.ow l with
    | none =>
      rw [eo] at hq
      refine r_decN (fun g => absurd rfl g) (fun _ => ?_)
      walk_at "sx"
      exact hq H hA Fr.refl
    | some a =>
      rw [eo] at hq
      refine r_decN (fun _ => ?_) (fun g => by cases g)
      walk_at "sx"
      refine r_letters TX.hl hA ?_
      obtain ⟨ve, eve, tve⟩ := hA.le
      refine r_tyL eve ?_
      walk_at "sx"
      refine r_main TX.hl hA ?_
      refine r_tmeth hA.tb (by decide +kernel) ?_
      walk_at "sx"
      refine ⟨A.t, M.t, (l : Int), rfl, rfl, hA.tb, fun _ => ?_, fun z => absurd (Tb.isL_of hll) z⟩
      rw [Int.toNat_natCast]
      walk_at "sx"
      refine r_newT (by show 5 ≤ 2000; decide) (fun t H1 ht et f1 => ?_)
      walk_at "sx"
      refine h_lay (x := .is p a l (M.t.ti l)) (hA.fr0 f1) (.tup et (.cons (.str _) (.cons (hp.fr f1) (.cons (.int _) (.cons (.int _) (.cons (.int _) .nil)))))) hl (fun H2 hA2 f2 => ?_)
      walk_at "sx"
      exact hq H2 hA2 (f1.up.trans f2)
theorem sc_t_wait_number : FnScope ["self", "agent"] ["self", "agent"] (defScope s_t_wait_number) := ⟨rfl, rfl, rfl, by decide +kernel, rfl, by decide +kernel, by decide +kernel⟩
theorem ok_t_wait_number (TX : Txt K mg) : OkF P w K mg base 2 (He.ma K (He.ga K "Table") "wait_number") ["self", "agent"] (sp_t_wait_number K) := by
  obtain ⟨⟨fd_t_need_agent, G_t_need_agent, b_t_need_agent⟩, k_t_need_agent⟩ := (ok_t_need_agent TX : OkF P w K mg base _ _ _ _)
  refine okF TX.f_t_wait_number sc_t_wait_number (fun _ _ _ _ _ _ us hl => match us, hl with | [_, _], _ => rfl) (fun vs H Q E h => ?_) (fun cdv A outer s H vs Q E hr h => ?_)
  · obtain ⟨_, _, rfl, _⟩ := h
    rfl
  · obtain ⟨x, y, rfl, h⟩ := h
    refine ⟨_, (pss_cons (ps_expr (pe_meth (pv 0) TX.c_Table TX.m_t_need_agent G_t_need_agent (hr.mono (by decide)) b_t_need_agent .nil pE (pa_cons (pv 1) pa_nil))) (pss_one (ps_ret (pe_ix (k_ixl (K := K) rfl) (k_fld (K := K) rfl (pv 0) rfl) (pv 1) (fun _ _ => rfl))))), ?_⟩
    refine r_st (σ' := [some x, some y]) rfl ?_
    try dsimp only [cxOf]
    obtain ⟨A, T, a, rfl, rfl, hT, h1, h2⟩ := h
    walk_at "sx"
    refine r_tmeth hT (by decide +kernel) ?_
    walk_at "sx"
    refine ⟨A, T, a, rfl, rfl, hT, fun g => ?_, h2⟩
    have q := h1 g
    obtain ⟨a, rfl, ha⟩ := Tb.isA_nat g
    walk_at "sx"
    refine r_rounds TX.tb hT ?_
    walk_at "sx"
    exact r_ixRou hT ha q
theorem sc_h_waits_by : FnScope ["self", "agent", "number"] ["self", "agent", "number"] (defScope s_h_waits_by) := ⟨rfl, rfl, rfl, by decide +kernel, rfl, by decide +kernel, by decide +kernel⟩
theorem ok_h_waits_by (TX : Txt K mg) : OkF P w K mg base 3 (He.ma K (He.ga K "Hall") "waits_by") ["self", "agent", "number"] (sp_h_waits_by K) := by
  obtain ⟨⟨fd_t_wait_number, G_t_wait_number, b_t_wait_number⟩, k_t_wait_number⟩ := (ok_t_wait_number TX : OkF P w K mg base _ _ _ _)
  obtain ⟨⟨fd_t_waits, G_t_waits, b_t_waits⟩, k_t_waits⟩ := (ok_t_waits TX : OkF P w K mg base _ _ _ _)
  refine okF TX.f_h_waits_by sc_h_waits_by (fun _ _ _ _ _ _ us hl => match us, hl with | [_, _, _], _ => rfl) (fun vs H Q E h => ?_) (fun cdv A outer s H vs Q E hr h => ?_)
  · obtain ⟨_, _, _, rfl, _⟩ := h
    rfl
  · obtain ⟨x, y, z, rfl, h⟩ := h
    refine ⟨_, (pss_one (ps_ret (pe_and (pe_cmpR (op_notN) (pe_meth (k_fld (K := K) rfl (pv 0) rfl) TX.c_Table TX.m_t_waits G_t_waits (hr.mono (by decide)) b_t_waits .nil pE (pa_cons (pv 1) pa_nil)) pe_non (nomark _)) (pe_one (pe_cmpR (op_eq) (pe_meth (k_fld (K := K) rfl (pv 0) rfl) TX.c_Table TX.m_t_wait_number G_t_wait_number (hr.mono (by decide)) b_t_wait_number .nil pE (pa_cons (pv 1) pa_nil)) (pv 2) (nomark _)))))), ?_⟩
    refine r_st (σ' := [some x, some y, some z]) rfl ?_
    try dsimp only [cxOf]
    obtain ⟨A, M, a, w, rfl, rfl, rfl, hA, ha, hq⟩ := h
    walk_at "sx"
    refine r_main TX.hl hA ?_
    refine r_tmeth hA.tb (by decide +kernel) ?_
    walk_at "sx"
    refine ⟨A.t, M.t, (a : Int), rfl, rfl, hA.tb, fun _ => ?_, fun z => absurd (Tb.isA_of ha) z⟩
    rw [Int.toNat_natCast]
    walk_at "sx"
    refine ⟨rfl, ?_⟩
    walk_at "sx"
    unfold Hl.by_ at hq
    cases ew : M.t.wa a with
    | none =>
      rw [ew, decide_eq_false (fun z => z.1 rfl)] at hq
      exact hq
    | some l =>
      rw [ew] at hq
      refine r_decN (fun _ => ?_) (fun g => by cases g)
      walk_at "sx"
      refine r_main TX.hl hA ?_
      refine r_tmeth hA.tb (by decide +kernel) ?_
      walk_at "sx"
      refine ⟨A.t, M.t, (a : Int), rfl, rfl, hA.tb, fun _ => ?_, fun z => absurd (Tb.isA_of ha) z⟩
      rw [Int.toNat_natCast]
      walk_at "sx"
      refine r_eq rfl ?_
      have e : decide (V.int (M.t.ro a : Int) = V.int (w : Int)) = decide (some l ≠ none ∧ M.t.ro a = w) := by
        rw [decide_eq_decide]
        exact ⟨fun z => ⟨by simp, Int.ofNat.inj (V.int.inj z)⟩, fun z => by rw [z.2]⟩
      rw [e]
      exact hq
theorem sc_t_held : FnScope ["self", "agent", "lock"] ["self", "agent"] (defScope s_t_held) := ⟨rfl, rfl, rfl, by decide +kernel, rfl, by decide +kernel, by decide +kernel⟩
theorem ok_t_held (TX : Txt K mg) : OkF P w K mg base 2 (He.ma K (He.ga K "Table") "held") ["self", "agent"] (sp_t_held K) := by
  obtain ⟨⟨fd_t_need_agent, G_t_need_agent, b_t_need_agent⟩, k_t_need_agent⟩ := (ok_t_need_agent TX : OkF P w K mg base _ _ _ _)
  refine okF TX.f_t_held sc_t_held (fun _ _ _ _ _ _ us hl => match us, hl with | [_, _], _ => rfl) (fun vs H Q E h => ?_) (fun cdv A outer s H vs Q E hr h => ?_)
  · obtain ⟨_, _, rfl, _⟩ := h
    rfl
  · obtain ⟨x, y, rfl, h⟩ := h
    refine ⟨_, (pss_cons (ps_expr (pe_meth (pv 0) TX.c_Table TX.m_t_need_agent G_t_need_agent (hr.mono (by decide)) b_t_need_agent .nil pE (pa_cons (pv 1) pa_nil))) (pss_one (ps_ret (pe_lc (own := [("lock", 2)]) (g := gName 2) rfl sc_t_held.nd (pi_range1 (by rfl) TX.z_range (pa_cons (pe_callB (k_len (K := K) rfl) (by rfl) TX.z_len (by decide +kernel) (pa_cons (k_fld (K := K) rfl (pv 0) rfl) pa_nil)) pa_nil)) (blkOk_by (N := ["self", "agent", "lock"]) (sc := defScope s_t_held) (by decide +kernel)) (fun _ _ _ _ _ => pg_name (i := 2) sc_t_held.nd rfl (Or.inl rfl)) (fun _ _ _ _ _ => by exact (pts_one (pt_cmpR (op_eq) (pe_ix (k_ixl (K := K) rfl) (k_fld (K := K) rfl (pv 0) rfl) (pv 2) (fun _ _ => rfl)) (pv 1) (nomark _)))) (fun _ _ _ _ _ => by exact (pv 2)))))), ?_⟩
    refine r_st (σ' := [some x, some y, none]) rfl ?_
    try dsimp only [cxOf]
    obtain ⟨A, T, a, rfl, rfl, hT, h1, h2⟩ := h
    walk_at "sx"
    refine r_tmeth hT (by decide +kernel) ?_
    walk_at "sx"
    refine ⟨A, T, a, rfl, rfl, hT, fun g => ?_, h2⟩
    have q := h1 g
    obtain ⟨a, rfl, ha⟩ := Tb.isA_nat g
    walk_at "sx"
    refine r_lcR (n := T.m) (fun l => decide (T.ow l = some a)) (fun l => .int (l : Int)) (by have := hT.sz.m12; omega) (fun Q q => by walk_at "sx"; refine r_owners TX.tb hT ?_; walk_at "sx"; exact r_lenOwn hT q) (fun _ => rfl) (fun i H' hi f Q q => ?_) (fun i H' hi _ f Q q => ?_) (fun p H' hp hl f => ?_)
    · walk_at "sx"
      refine r_owners TX.tb (hT.fr0 f) ?_
      walk_at "sx"
      refine r_ixOwn (hT.fr0 f) hi ?_
      walk_at "sx"
      refine r_eq (scal_oo _ _) ?_
      walk_at "sx"
      have e : decide (oV (T.ow i) = V.int (a : Int)) = decide (T.ow i = some a) := by rw [decide_eq_decide]; exact oV_int _ _
      rw [e]
      exact q H' Fr.refl
    · walk_at "sx"
      exact q _ H' Fr.refl (.int _)
    · refine q p H' hp ?_ f
      have e : turns (fun l => decide (T.ow l = some a)) (fun l => PyData.int (l : Int)) T.m = ((T.held a).map fun l : Nat => (l : Int)).map PyData.int := by
        unfold turns Tb.held
        rw [List.map_map]
        rfl
      rw [e] at hl
      have := hl.ints
      rw [List.map_map] at this
      exact this
theorem sc_h_own : FnScope ["self", "agent"] ["self", "agent"] (defScope s_h_own) := ⟨rfl, rfl, rfl, by decide +kernel, rfl, by decide +kernel, by decide +kernel⟩
theorem ok_h_own (TX : Txt K mg) : OkF P w K mg base 3 (He.ma K (He.ga K "Hall") "own") ["self", "agent"] (sp_h_own K) := by
  obtain ⟨⟨fd_t_held, G_t_held, b_t_held⟩, k_t_held⟩ := (ok_t_held TX : OkF P w K mg base _ _ _ _)
  obtain ⟨⟨fd_t_wait_number, G_t_wait_number, b_t_wait_number⟩, k_t_wait_number⟩ := (ok_t_wait_number TX : OkF P w K mg base _ _ _ _)
  refine okF TX.f_h_own sc_h_own (fun _ _ _ _ _ _ us hl => match us, hl with | [_, _], _ => rfl) (fun vs H Q E h => ?_) (fun cdv A outer s H vs Q E hr h => ?_)
  · obtain ⟨_, _, rfl, _⟩ := h
    rfl
  · obtain ⟨x, y, rfl, h⟩ := h
    refine ⟨_, (pss_one (ps_ret (pe_tup (pa_cons (pv 1) (pa_cons (pe_meth (k_fld (K := K) rfl (pv 0) rfl) TX.c_Table TX.m_t_wait_number G_t_wait_number (hr.mono (by decide)) b_t_wait_number .nil pE (pa_cons (pv 1) pa_nil)) (pa_cons (pe_callB (k_len (K := K) rfl) (by rfl) TX.z_len (by decide +kernel) (pa_cons (pe_meth (k_fld (K := K) rfl (pv 0) rfl) TX.c_Table TX.m_t_held G_t_held (hr.mono (by decide)) b_t_held .nil pE (pa_cons (pv 1) pa_nil)) pa_nil)) pa_nil)))))), ?_⟩
    refine r_st (σ' := [some x, some y]) rfl ?_
    try dsimp only [cxOf]
    obtain ⟨A, M, a, rfl, rfl, hA, hO, ha, hq⟩ := h
    walk_at "sx"
    refine r_main TX.hl hA ?_
    refine r_tmeth hA.tb (by decide +kernel) ?_
    walk_at "sx"
    refine ⟨A.t, M.t, (a : Int), rfl, rfl, hA.tb, fun _ => ?_, fun z => absurd (Tb.isA_of ha) z⟩
    rw [Int.toNat_natCast]
    walk_at "sx"
    refine r_main TX.hl hA ?_
    refine r_tmeth hA.tb (by decide +kernel) ?_
    walk_at "sx"
    refine ⟨A.t, M.t, (a : Int), rfl, rfl, hA.tb, fun _ p H1 hp e1 f1 => ?_, fun z => absurd (Tb.isA_of ha) z⟩
    rw [Int.toNat_natCast] at e1
    walk_at "sx"
    refine r_lenS e1 ?_
    rw [List.length_map]
    walk_at "sx"
    refine r_newT (by show 3 ≤ 2000; decide) (fun t H2 ht et f2 => ?_)
    exact hq _ H2 (.tup et (.cons (.int _) (.cons (.int _) (.cons (.int _) .nil)))) (f1.trans f2)
theorem sc_h_come : FnScope ["self", "path", "agent", "lock", "hold", "want", "first", "one"] ["self", "path", "agent", "lock", "hold"] (defScope s_h_come) := ⟨rfl, rfl, rfl, by decide +kernel, rfl, by decide +kernel, by decide +kernel⟩
theorem ok_h_come (TX : Txt K mg) : OkF P w K mg base 4 (He.ma K (He.ga K "Hall") "come") ["self", "path", "agent", "lock", "hold"] (sp_h_come K) := by
  obtain ⟨⟨fd_h_waits_by, G_h_waits_by, b_h_waits_by⟩, k_h_waits_by⟩ := (ok_h_waits_by TX : OkF P w K mg base _ _ _ _)
  obtain ⟨⟨fd_h_own, G_h_own, b_h_own⟩, k_h_own⟩ := (ok_h_own TX : OkF P w K mg base _ _ _ _)
  obtain ⟨⟨fd_t_hold_number, G_t_hold_number, b_t_hold_number⟩, k_t_hold_number⟩ := (ok_t_hold_number TX : OkF P w K mg base _ _ _ _)
  obtain ⟨⟨fd_t_holder, G_t_holder, b_t_holder⟩, k_t_holder⟩ := (ok_t_holder TX : OkF P w K mg base _ _ _ _)
  obtain ⟨⟨fd_t_waits, G_t_waits, b_t_waits⟩, k_t_waits⟩ := (ok_t_waits TX : OkF P w K mg base _ _ _ _)
  refine okF TX.f_h_come sc_h_come (fun _ _ _ _ _ _ us hl => match us, hl with | [_, _, _, _, _], _ => rfl) (fun vs H Q E h => ?_) (fun cdv A outer s H vs Q E hr h => ?_)
  · obtain ⟨_, _, _, _, _, rfl, _⟩ := h
    rfl
  · obtain ⟨x, y, z, u, v, rfl, h⟩ := h
    refine ⟨_, (pss_cons (ps_set (i := 5) sc_h_come.nd rfl (Or.inl rfl) (pe_meth (k_fld (K := K) rfl (pv 0) rfl) TX.c_Table TX.m_t_waits G_t_waits (hr.mono (by decide)) b_t_waits .nil pE (pa_cons (pv 2) pa_nil))) (pss_cons (ps_if (PW.pt (pw_or (pt_cmpR (op_isN) (pv 5) pe_non (nomark _)) (pw_or (pt_cmpR (op_ne) (pe_meth (k_fld (K := K) rfl (pv 0) rfl) TX.c_Table TX.m_t_holder G_t_holder (hr.mono (by decide)) b_t_holder .nil pE (pa_cons (pv 3) pa_nil)) (pv 2) (nomark _)) (pw_or1 (pt_cmpR (op_ne) (pe_meth (k_fld (K := K) rfl (pv 0) rfl) TX.c_Table TX.m_t_hold_number G_t_hold_number (hr.mono (by decide)) b_t_hold_number .nil pE (pa_cons (pv 3) pa_nil)) (pv 4) (nomark _)))))) (pss_one ps_retN) pss_nil) (pss_cons (ps_set (i := 6) sc_h_come.nd rfl (Or.inl rfl) (pe_ix (k_ixt (K := K) rfl) (pv 1) pe_int (fun _ _ => rfl))) (pss_one (ps_if (pt_cmpR (op_eq) (pv 2) (pe_ix (k_ixt (K := K) rfl) (pv 6) pe_int (fun _ _ => rfl)) (nomark _)) (pss_one (ps_if (pt_val (pe_meth (pv 0) TX.c_Hall TX.m_h_waits_by G_h_waits_by (hr.mono (by decide)) b_h_waits_by .nil pE (pa_cons (pv 2) (pa_cons (pe_ix (k_ixt (K := K) rfl) (pv 6) pe_int (fun _ _ => rfl)) pa_nil)))) (pss_one (ps_expr (pe_bm PySem.F.plainAttrs_list PySem.F.slot_list_append PySem.F.type_list_append mt_append (k_fld (K := K) rfl (pv 0) rfl) (pa_cons (pe_tup (pa_cons pe_str (pa_cons (pv 1) (pa_cons pe_int pa_nil)))) pa_nil)))) pss_nil)) (pss_one (ps_if (PW.pt (pw_and (pt_cmpR (op_lt) (pv 2) (pe_ix (k_ixt (K := K) rfl) (pv 6) pe_int (fun _ _ => rfl)) (nomark _)) (pw_and1 (pt_cmpR (k_notInS (K := K) rfl) (pv 2) (pe_lc (own := [("one", 7)]) (g := gName 7) rfl sc_h_come.nd (k_tupI (K := K) rfl (pv 1)) (blkOk_by (N := ["self", "path", "agent", "lock", "hold", "want", "first", "one"]) (sc := defScope s_h_come) (by decide +kernel)) (fun _ _ _ _ _ => pg_name (i := 7) sc_h_come.nd rfl (Or.inl rfl)) (fun _ _ _ _ _ => by exact pts_nil) (fun _ _ _ _ _ => by exact (pe_ix (k_ixt (K := K) rfl) (pv 7) pe_int (fun _ _ => rfl)))) (by with_unfolding_all rfl))))) (pss_one (ps_expr (pe_bm PySem.F.plainAttrs_list PySem.F.slot_list_append PySem.F.type_list_append mt_append (k_fld (K := K) rfl (pv 0) rfl) (pa_cons (pe_tup (pa_cons pe_str (pa_cons (pe_op (k_catA (K := K) rfl) (pv 1) (pe_tup (pa_cons (pe_meth (pv 0) TX.c_Hall TX.m_h_own G_h_own (hr.mono (by decide)) b_h_own .nil pE (pa_cons (pv 2) pa_nil)) pa_nil))) (pa_cons (pv 5) pa_nil)))) pa_nil)))) pss_nil))))))), ?_⟩
    refine r_st (σ' := [some x, some y, some z, some u, some v, none, none, none]) rfl ?_
    try dsimp only [cxOf]
    obtain ⟨A, M, p, a, l, k, rfl, rfl, rfl, rfl, hA, hO, hp, hP, ha, hll, hl, hq⟩ := h
    have hlen := hP.len hO.t
    have hpos : 0 < p.length := List.length_pos_iff.mpr hP.ne
    obtain ⟨pa, vs, rfl, ep, av⟩ := path_at hp
    obtain ⟨x0, ex0, et0⟩ := path_ix av hpos
    rw [head_getD] at et0
    unfold Hl.come at hq
    walk_at "sx"
    refine r_main TX.hl hA ?_
    refine r_tmeth hA.tb (by decide +kernel) ?_
    walk_at "sx"
    refine ⟨A.t, M.t, (a : Int), rfl, rfl, hA.tb, fun _ => ?_, fun z => absurd (Tb.isA_of ha) z⟩
    rw [Int.toNat_natCast]
    walk_at "sx"
    refine ⟨rfl, ?_⟩
    walk_at "sx"
    cases ew : M.t.wa a with
    | none =>
      rw [ew] at hq
      refine r_dec (fun _ => ?_) (fun g => absurd rfl g)
      walk_at "sx"
      exact hq H hA Fr.refl
    | some want =>
      rw [ew] at hq
      refine r_dec (fun g => by cases g) (fun _ => ?_)
      walk_at "sx"
      refine r_main TX.hl hA ?_
      refine r_tmeth hA.tb (by decide +kernel) ?_
      walk_at "sx"
      refine ⟨A.t, M.t, (l : Int), rfl, rfl, hA.tb, fun _ => ?_, fun z => absurd (Tb.isL_of hll) z⟩
      rw [Int.toNat_natCast]
      walk_at "sx"
      refine r_ne (scal_oo _ _) ?_
      walk_at "sx"
      refine r_decN (fun g => ?_) (fun g => ?_)
      · simp only [if_pos (show M.t.ow l ≠ some a ∨ M.t.ti l ≠ k from .inl (fun z => g ((oV_int _ _).mpr z)))] at hq
        walk_at "sx"
        exact hq H hA Fr.refl
      have g1 := (oV_int _ _).mp g
      walk_at "sx"
      refine r_main TX.hl hA ?_
      refine r_tmeth hA.tb (by decide +kernel) ?_
      walk_at "sx"
      refine ⟨A.t, M.t, (l : Int), rfl, rfl, hA.tb, fun _ => ?_, fun z => absurd (Tb.isL_of hll) z⟩
      rw [Int.toNat_natCast]
      walk_at "sx"
      refine r_ne rfl ?_
      walk_at "sx"
      refine r_decN (fun g => ?_) (fun g => ?_)
      · simp only [if_pos (show M.t.ow l ≠ some a ∨ M.t.ti l ≠ k from .inr (fun z => g (by rw [z])))] at hq
        walk_at "sx"
        exact hq H hA Fr.refl
      have g2 : M.t.ti l = k := Int.ofNat.inj (V.int.inj g)
      have nc : ¬ (M.t.ow l ≠ some a ∨ M.t.ti l ≠ k) := fun z => z.elim (fun z => z g1) (fun z => z g2)
      simp only [if_neg nc] at hq
      walk_at "sx"
      refine r_ixt (i := 0) (v := .ref x0) ep ex0 ?_
      walk_at "sx"
      refine r_ixt (i := 0) (v := .int _) et0 rfl ?_
      walk_at "sx"
      refine r_eq rfl ?_
      walk_at "sx"
      refine r_dec (fun g => ?_) (fun g => ?_)
      · have e0 : a = (p.headD ⟨0, 0, 0⟩).a := Int.ofNat.inj (V.int.inj g)
        simp only [if_pos e0] at hq
        walk_at "sx"
        refine r_hmeth hA (by decide +kernel) ?_
        walk_at "sx"
        refine r_ixt (i := 1) (v := .int _) et0 rfl ?_
        walk_at "sx"
        refine ⟨A, M, a, (p.headD ⟨0, 0, 0⟩).w, rfl, rfl, rfl, hA, ha, ?_⟩
        walk_at "sx"
        cases eb : M.by_ a (p.headD ⟨0, 0, 0⟩).w with
        | false =>
          rw [eb] at hq
          simp only [Bool.false_eq_true, if_false] at hq
          walk_at "sx"
          exact hq H hA Fr.refl
        | true =>
          rw [eb] at hq
          simp only [if_true] at hq
          walk_at "sx"
          refine r_letters TX.hl hA ?_
          obtain ⟨ve, eve, tve⟩ := hA.le
          refine r_tyL eve ?_
          walk_at "sx"
          refine r_newT (by show 3 ≤ 2000; decide) (fun t H1 ht et f1 => ?_)
          walk_at "sx"
          refine h_lay (x := .still p 1) (hA.fr0 f1) (.tup et (.cons (.str _) (.cons (hp.fr f1) (.cons (.int _) .nil)))) hl (fun H2 hA2 f2 => ?_)
          walk_at "sx"
          exact hq H2 hA2 (f1.up.trans f2)
      · have e0 : ¬ a = (p.headD ⟨0, 0, 0⟩).a := fun z => g (by rw [z])
        simp only [if_neg e0] at hq
        walk_at "sx"
        refine r_ixt (i := 0) (v := .int _) et0 rfl ?_
        walk_at "sx"
        refine r_dec (fun g3 => ?_) (fun g3 => ?_)
        · have g3' : a < (p.headD ⟨0, 0, 0⟩).a := by omega
          walk_at "sx"
          refine r_lcT (a := pa) (xs := vs) (fun _ => true) (fun i => PyData.int ((p.getD i ⟨0, 0, 0⟩).a : Int)) (by rw [av.len, List.length_map]; omega) (fun Q q => by walk_at "sx"; exact q) ep (fun _ => rfl) (fun i x H' hx f => tells_yes) (fun i x H' hx _ f Q q => ?_) (fun p2 H2 hp2 hl2 f2 => ?_)
          · have hi : i < p.length := by
              have := (List.getElem?_eq_some_iff.mp hx).1
              rw [av.len, List.length_map] at this
              exact this
            obtain ⟨xi, exi, eti⟩ := path_ix av hi
            rw [hx] at exi
            cases exi
            walk_at "sx"
            refine r_ixt (i := 0) (v := .int _) (f.tup _ _ eti) rfl ?_
            exact q _ H' Fr.refl (.int _)
          rw [av.len, List.length_map, turns_list p ⟨0, 0, 0⟩ (fun _ => true) (fun x => PyData.int (x.a : Int)), List.filter_eq_self.mpr (fun _ _ => rfl)] at hl2
          have em : p.map (fun x => PyData.int (x.a : Int)) = ((p.map Pt.a).map fun x : Nat => (x : Int)).map PyData.int := by rw [List.map_map, List.map_map]; rfl
          rw [em] at hl2
          have e2 : H2 p2 = some (.lst ((p.map Pt.a).map nV)) := by
            have := hl2.ints
            rw [List.map_map] at this
            exact this
          refine r_notInL e2 ?_
          walk_at "sx"
          refine r_decN (fun g4 => ?_) (fun g4 => ?_)
          · simp only [if_pos (show a < (p.headD ⟨0, 0, 0⟩).a ∧ a ∉ p.map Pt.a from ⟨g3', g4⟩)] at hq
            have hA2 := hA.fr0 f2
            walk_at "sx"
            refine r_letters TX.hl hA2 ?_
            obtain ⟨ve, eve, tve⟩ := hA2.le
            refine r_tyL eve ?_
            walk_at "sx"
            refine r_hmeth hA2 (by decide +kernel) ?_
            walk_at "sx"
            refine ⟨A, M, a, rfl, rfl, hA2, hO, ha, fun v H3 tv f3 => ?_⟩
            walk_at "sx"
            refine r_newT (by show 1 ≤ 2000; decide) (fun t H4 ht et f4 => ?_)
            have g24 := (f2.trans f3).trans f4
            refine r_catP (g24.tup _ _ ep) (av.fr g24) hP.ne et (tv.fr f4) (by omega) (fun u H5 tu f5 => ?_)
            walk_at "sx"
            refine r_newT (by show 3 ≤ 2000; decide) (fun t3 H6 ht3 et3 f6 => ?_)
            walk_at "sx"
            have g26 := (g24.trans f5).trans f6
            refine h_lay (x := .who (p ++ [M.own a]) want) (hA.fr0 g26) (.tup et3 (.cons (.str _) (.cons (tu.fr f6) (.cons (.int _) .nil)))) hl (fun H7 hA7 f7 => ?_)
            walk_at "sx"
            exact hq H7 hA7 (g26.up.trans f7)
          · simp only [if_neg (show ¬ (a < (p.headD ⟨0, 0, 0⟩).a ∧ a ∉ p.map Pt.a) from fun z => z.2 g4)] at hq
            walk_at "sx"
            exact hq H2 (hA.fr0 f2) f2.up
        · simp only [if_neg (show ¬ (a < (p.headD ⟨0, 0, 0⟩).a ∧ a ∉ p.map Pt.a) from fun z => g3 (by have := z.1; omega))] at hq
          walk_at "sx"
          exact hq H hA Fr.refl
theorem sc_lightest : FnScope ["pairs"] ["pairs"] (defScope s_lightest) := ⟨rfl, rfl, rfl, by decide +kernel, rfl, by decide +kernel, by decide +kernel⟩
theorem ok_lightest (TX : Txt K mg) : OkF P w K mg base 1 (He.ga K "lightest") ["pairs"] (sp_lightest K) := by
  refine okF TX.f_lightest sc_lightest (fun _ _ _ _ _ _ us hl => match us, hl with | [_], _ => rfl) (fun vs H Q E h => ?_) (fun cdv A outer s H vs Q E hr h => ?_)
  · obtain ⟨_, rfl, _⟩ := h
    rfl
  · obtain ⟨x, rfl, h⟩ := h
    refine ⟨_, (pss_one (ps_ret (pe_ix (k_ixt (K := K) rfl) (pe_callB (k_minP (K := K) rfl rfl hr.units) (by rfl) TX.z_min (by decide +kernel) (pa_cons (pv 0) pa_nil)) pe_int (fun _ _ => rfl)))), ?_⟩
    refine r_st (σ' := [some x]) rfl ?_
    try dsimp only [cxOf]
    obtain ⟨p, ps, rfl, hp, h0, hq⟩ := h
    walk_at "sx"
    refine r_minPairs hp h0 (fun m t hm hle ht => ?_)
    exact r_ixt (i := 1) (v := .int m.2) ht rfl (hq m hm hle)
theorem sc_h_still : FnScope ["self", "path", "place", "agent", "one", "number", "row"] ["self", "path", "place"] (defScope s_h_still) := ⟨rfl, rfl, rfl, by decide +kernel, rfl, by decide +kernel, by decide +kernel⟩
theorem ok_h_still (TX : Txt K mg) : OkF P w K mg base 4 (He.ma K (He.ga K "Hall") "still") ["self", "path", "place"] (sp_h_still K) := by
  obtain ⟨⟨fd_lightest, G_lightest, b_lightest⟩, k_lightest⟩ := (ok_lightest TX : OkF P w K mg base _ _ _ _)
  obtain ⟨⟨fd_h_waits_by, G_h_waits_by, b_h_waits_by⟩, k_h_waits_by⟩ := (ok_h_waits_by TX : OkF P w K mg base _ _ _ _)
  refine okF TX.f_h_still sc_h_still (fun _ _ _ _ _ _ us hl => match us, hl with | [_, _, _], _ => rfl) (fun vs H Q E h => ?_) (fun cdv A outer s H vs Q E hr h => ?_)
  · obtain ⟨_, _, _, rfl, _⟩ := h
    rfl
  · obtain ⟨x, y, z, rfl, h⟩ := h
    refine ⟨_, (pss_cons (ps_if (pt_not (pt_val (pe_meth (pv 0) TX.c_Hall TX.m_h_waits_by G_h_waits_by (hr.mono (by decide)) b_h_waits_by .nil pE (pa_cons (pe_ix (k_ixt (K := K) rfl) (pe_ix (k_ixt (K := K) rfl) (pv 1) (pv 2) (fun _ _ => rfl)) pe_int (fun _ _ => rfl)) (pa_cons (pe_ix (k_ixt (K := K) rfl) (pe_ix (k_ixt (K := K) rfl) (pv 1) (pv 2) (fun _ _ => rfl)) pe_int (fun _ _ => rfl)) pa_nil))))) (pss_one ps_retN) pss_nil) (pss_cons (ps_if (pt_cmpR (op_gt) (pv 2) pe_int (nomark _)) (pss_cons (ps_expr (pe_bm PySem.F.plainAttrs_list PySem.F.slot_list_append PySem.F.type_list_append mt_append (k_fld (K := K) rfl (pv 0) rfl) (pa_cons (pe_tup (pa_cons pe_str (pa_cons (pv 1) (pa_cons (pe_op op_mod (pe_op op_add (pv 2) pe_int) (pe_callB (k_len (K := K) rfl) (by rfl) TX.z_len (by decide +kernel) (pa_cons (pv 1) pa_nil))) pa_nil)))) pa_nil))) (pss_one ps_retN)) pss_nil) (pss_cons (ps_set (i := 3) sc_h_still.nd rfl (Or.inr rfl) (pe_call G_lightest (hr.mono (by decide)) (by rfl) TX.g_lightest k_lightest b_lightest .nil pE (pa_cons (pe_lc (own := [("one", 4)]) (g := gName 4) rfl sc_h_still.nd (k_tupI (K := K) rfl (pv 1)) (blkOk_by (N := ["self", "path", "place", "agent", "one", "number", "row"]) (sc := defScope s_h_still) (by decide +kernel)) (fun _ _ _ _ _ => pg_name (i := 4) sc_h_still.nd rfl (Or.inl rfl)) (fun _ _ _ _ _ => by exact pts_nil) (fun _ _ _ _ _ => by exact (pe_tup (pa_cons (pe_ix (k_ixt (K := K) rfl) (pv 4) pe_int (fun _ _ => rfl)) (pa_cons (pe_ix (k_ixt (K := K) rfl) (pv 4) pe_int (fun _ _ => rfl)) pa_nil))))) pa_nil))) (pss_cons (ps_set (i := 5) sc_h_still.nd rfl (Or.inl rfl) (pe_ix (k_ixl (K := K) rfl) (pe_lc (own := [("one", 4)]) (g := gName 4) rfl sc_h_still.nd (k_tupI (K := K) rfl (pv 1)) (blkOk_by (N := ["self", "path", "place", "agent", "one", "number", "row"]) (sc := defScope s_h_still) (by decide +kernel)) (fun _ _ _ _ _ => pg_name (i := 4) sc_h_still.nd rfl (Or.inl rfl)) (fun _ _ _ _ _ => by exact (pts_one (pt_cmpR (op_eq) (pe_ix (k_ixt (K := K) rfl) (pv 4) pe_int (fun _ _ => rfl)) (pv 3) (nomark _)))) (fun _ _ _ _ _ => by exact (pe_ix (k_ixt (K := K) rfl) (pv 4) pe_int (fun _ _ => rfl)))) pe_int (fun _ _ => rfl))) (pss_cons (ps_expr (pe_bm PySem.F.plainAttrs_list PySem.F.slot_list_append PySem.F.type_list_append mt_append (k_fld (K := K) rfl (pv 0) rfl) (pa_cons (pe_tup (pa_cons pe_str (pa_cons (pv 3) (pa_cons (pv 5) pa_nil)))) pa_nil))) (pss_one (ps_if (pt_cmpR (k_notInD (K := K) rfl (units1 hr)) (pv 1) (pe_lc (own := [("row", 6)]) (g := gName 6) rfl sc_h_still.nd (k_listI (K := K) rfl (k_fld (K := K) rfl (pv 0) rfl)) (blkOk_by (N := ["self", "path", "place", "agent", "one", "number", "row"]) (sc := defScope s_h_still) (by decide +kernel)) (fun _ _ _ _ _ => pg_name (i := 6) sc_h_still.nd rfl (Or.inl rfl)) (fun _ _ _ _ _ => by exact pts_nil) (fun _ _ _ _ _ => by exact (pe_ix (k_ixt (K := K) rfl) (pv 6) pe_int (fun _ _ => rfl)))) (by with_unfolding_all rfl)) (pss_one (ps_expr (pe_bm PySem.F.plainAttrs_list PySem.F.slot_list_append PySem.F.type_list_append mt_append (k_fld (K := K) rfl (pv 0) rfl) (pa_cons (pe_tup (pa_cons (pv 1) (pa_cons (pv 3) pa_nil))) pa_nil)))) pss_nil))))))), ?_⟩
    refine r_st (σ' := [some x, some y, some z, none, none, none, none]) rfl ?_
    try dsimp only [cxOf]
    obtain ⟨A, M, p, k, rfl, rfl, hA, hO, hp, hP, hk, hl, htl, hq⟩ := h
    have hlen := hP.len hO.t
    obtain ⟨pa, vs, rfl, ep, av⟩ := path_at hp
    obtain ⟨xk, exk, etk⟩ := path_ix av hk
    have hvl : vs.length = p.length := by rw [av.len, List.length_map]
    unfold Hl.still at hq
    walk_at "sx"
    refine r_hmeth hA (by decide +kernel) ?_
    walk_at "sx"
    refine r_ixt (i := k) (v := .ref xk) ep exk ?_
    walk_at "sx"
    refine r_ixt (i := 0) (v := .int _) etk rfl ?_
    walk_at "sx"
    refine r_ixt (i := k) (v := .ref xk) ep exk ?_
    walk_at "sx"
    refine r_ixt (i := 1) (v := .int _) etk rfl ?_
    walk_at "sx"
    have hka : (p.getD k ⟨0, 0, 0⟩).a < M.t.n := hP.lt _ (List.mem_of_getElem? (getD_some hk))
    refine ⟨A, M, _, _, rfl, rfl, rfl, hA, hka, ?_⟩
    walk_at "sx"
    cases eb : M.by_ (p.getD k ⟨0, 0, 0⟩).a (p.getD k ⟨0, 0, 0⟩).w with
    | false =>
      rw [eb] at hq
      simp only [Bool.false_eq_true, if_false] at hq
      walk_at "sx"
      exact hq H hA Fr.refl
    | true =>
      rw [eb] at hq
      simp only [if_true] at hq
      walk_at "sx"
      refine r_dec (fun g => ?_) (fun g => ?_)
      · simp only [if_pos (show 0 < k by omega)] at hq
        walk_at "sx"
        refine r_letters TX.hl hA ?_
        obtain ⟨ve, eve, tve⟩ := hA.le
        refine r_tyL eve ?_
        walk_at "sx"
        refine r_lenT ep ?_
        rw [hvl]
        walk_at "sx"
        refine r_I (by have := List.length_pos_iff.mpr hP.ne; first | omega | (constructor <;> omega)) ?_
        have em : ((k : Int) + 1) % (p.length : Int) = (((k + 1) % p.length : Nat) : Int) := by rw [Int.natCast_emod, Int.natCast_add]; rfl
        rw [em]
        walk_at "sx"
        refine r_newT (by show 3 ≤ 2000; decide) (fun t H1 ht et f1 => ?_)
        walk_at "sx"
        refine h_lay (x := .still p ((k + 1) % p.length)) (hA.fr0 f1) (.tup et (.cons (.str _) (.cons (hp.fr f1) (.cons (.int _) .nil)))) hl (fun H2 hA2 f2 => ?_)
        walk_at "sx"
        exact hq H2 hA2 (f1.up.trans f2)
      simp only [if_neg (show ¬ 0 < k by omega)] at hq
      have item : ∀ {H' : Hp} {i : Nat} {x : V}, vs[i]? = some x → Fr No H H' → ∃ xi, x = .ref xi ∧ H' xi = some (.tup [.int ((p.getD i ⟨0, 0, 0⟩).a : Int), .int ((p.getD i ⟨0, 0, 0⟩).w : Int), .int ((p.getD i ⟨0, 0, 0⟩).g : Int)]) := fun {H' i x} hx f => by
        have hi : i < p.length := by
          have := (List.getElem?_eq_some_iff.mp hx).1
          omega
        obtain ⟨xi, exi, eti⟩ := path_ix av hi
        rw [hx] at exi
        cases exi
        exact ⟨xi, rfl, f.tup _ _ eti⟩
      walk_at "sx"
      refine r_lcT (a := pa) (xs := vs) (fun _ => true) (fun i => pairD ((p.getD i ⟨0, 0, 0⟩).k)) (by omega) (fun Q q => by walk_at "sx"; exact q) ep (fun _ => rfl) (fun i x H' hx f => tells_yes) (fun i x H' hx _ f Q q => ?_) (fun p2 H2 hp2 hl2 f2 => ?_)
      · obtain ⟨xi, rfl, eti⟩ := item hx f
        walk_at "sx"
        refine r_ixt (i := 2) (v := .int _) eti rfl ?_
        walk_at "sx"
        refine r_ixt (i := 0) (v := .int _) eti rfl ?_
        walk_at "sx"
        refine r_newT (by show 2 ≤ 2000; decide) (fun t H6 ht et f6 => ?_)
        exact q _ H6 f6 (.tup et (.cons (.int _) (.cons (.int _) .nil)))
      rw [hvl, turns_list p ⟨0, 0, 0⟩ (fun _ => true) (fun x => pairD x.k), List.filter_eq_self.mpr (fun _ _ => rfl)] at hl2
      have em : p.map (fun x => pairD x.k) = (p.map Pt.k).map pairD := by rw [List.map_map]; rfl
      rw [em] at hl2
      walk_at "sx"
      refine ⟨p2, p.map Pt.k, rfl, hl2, (fun z => hP.ne (List.map_eq_nil_iff.mp z)), fun m hm hle => ?_⟩
      obtain ⟨x, hx, rfl⟩ := List.mem_map.mp hm
      have ebest := best_one hP.nd hx (fun y hy => hle _ (List.mem_map.mpr ⟨y, hy, rfl⟩))
      rw [ebest] at hq
      walk_at "sx"
      refine r_lcT (a := pa) (xs := vs) (fun i => decide ((p.getD i ⟨0, 0, 0⟩).a = x.a)) (fun i => PyData.int ((p.getD i ⟨0, 0, 0⟩).w : Int)) (by omega) (fun Q q => by walk_at "sx"; exact q) (f2.tup _ _ ep) (fun _ => rfl) (fun i y H' hy f Q q => ?_) (fun i y H' hy _ f Q q => ?_) (fun p3 H3 hp3 hl3 f3 => ?_)
      · obtain ⟨xi, rfl, eti⟩ := item hy (f2.trans f)
        walk_at "sx"
        refine r_ixt (i := 0) (v := .int _) eti rfl ?_
        walk_at "sx"
        refine r_eq rfl ?_
        walk_at "sx"
        have e : decide (V.int ((p.getD i ⟨0, 0, 0⟩).a : Int) = V.int x.k.2) = decide ((p.getD i ⟨0, 0, 0⟩).a = x.a) := by
          rw [decide_eq_decide]
          exact ⟨fun z => Int.ofNat.inj (V.int.inj z), fun z => by rw [z]; rfl⟩
        rw [e]
        exact q H' Fr.refl
      · obtain ⟨xi, rfl, eti⟩ := item hy (f2.trans f)
        walk_at "sx"
        refine r_ixt (i := 1) (v := .int _) eti rfl ?_
        exact q _ H' Fr.refl (.int _)
      rw [hvl, turns_list p ⟨0, 0, 0⟩ (fun y => decide (y.a = x.a)) (fun y => PyData.int (y.w : Int)), filter_one hP.nd hx] at hl3
      walk_at "sx"
      refine ls_ix hl3 (i := 0) (d := .int (x.w : Int)) rfl (fun v tv => ?_)
      rw [td_int tv]
      walk_at "sx"
      have g3 := f2.trans f3
      have hA3 := hA.fr0 g3
      refine r_letters TX.hl hA3 ?_
      obtain ⟨ve, eve, tve⟩ := hA3.le
      refine r_tyL eve ?_
      walk_at "sx"
      refine r_newT (by show 3 ≤ 2000; decide) (fun t H4 ht et f4 => ?_)
      walk_at "sx"
      refine h_lay (x := .brk x.a x.w) (hA3.fr0 f4) (.tup et (.cons (.str _) (.cons (.int _) (.cons (.int _) .nil)))) hl (fun H5 hA5 f5 => ?_)
      have g5 : Fr A.foot H H5 := (g3.trans f4).up.trans f5
      have ep5 := g5.tup _ _ ep
      have hp5 : Td H5 (.ref pa) (pathD p) := hp.fr g5
      walk_at "sx"
      obtain ⟨vt, evt, tvt⟩ := hA5.te
      have hvt : vt.length = M.tl.length := by rw [tvt.len, List.length_map]; rfl
      refine r_lcLx ?_
      walk_at "sx"
      refine r_tellings TX.hl hA5 ?_
      refine r_lcL (a := A.te) (xs := vt) (fun _ => true) (fun i => pathD (M.tl.getD i ([], 0)).1) (by omega) (fun Q q => q) evt (fun _ => rfl) (fun i y H' hy f => tells_yes) (fun i y H' hy _ f Q q => ?_) (fun p6 H6 hp6 hl6 f6 => ?_)
      · have hi : i < M.tl.length := by
          have := (List.getElem?_eq_some_iff.mp hy).1
          omega
        obtain ⟨w, ew, tw⟩ := tvt.at (i := i) (d := tellD (M.tl.getD i ([], 0))) (by
          show (M.tl.map tellD)[i]? = _
          rw [List.getElem?_map, getD_some hi]; rfl)
        rw [hy] at ew
        cases ew
        obtain ⟨ra, pv, rfl, era, tpv⟩ := tell_at tw
        walk_at "sx"
        refine r_ixt (i := 0) (v := pv) (f.tup _ _ era) rfl ?_
        exact q _ H' Fr.refl (tpv.fr f)
      rw [hvt, turns_list M.tl ([], 0) (fun _ => true) (fun r => pathD r.1), List.filter_eq_self.mpr (fun _ _ => rfl)] at hl6
      refine ⟨_, _, (hp5.fr f6).dp, hl6.dp, path_shaped p, tells_shaped _, ?_⟩
      walk_at "sx"
      have eh : ((M.tl.map fun r => pathD r.1).any fun e => PyData.eqv e (pathD p)) = M.has p := rfl
      rw [eh]
      have hA6 := hA5.fr0 f6
      unfold Hl.tell at hq
      have eh2 : (M.lay (.brk x.a x.w)).has p = M.has p := rfl
      rw [eh2] at hq
      cases eh3 : M.has p with
      | true =>
        rw [eh3] at hq
        simp only [if_true] at hq
        walk_at "sx"
        exact hq H6 hA6 (g5.trans f6.up)
      | false =>
        rw [eh3] at hq
        simp only [Bool.false_eq_true, if_false] at hq
        rw [ebest] at hq
        walk_at "sx"
        refine r_tellings TX.hl hA6 ?_
        obtain ⟨vt6, evt6, tvt6⟩ := hA6.te
        refine r_tyL evt6 ?_
        walk_at "sx"
        refine r_newT (by show 2 ≤ 2000; decide) (fun t H7 ht et f7 => ?_)
        have hA7 := hA6.fr0 f7
        walk_at "sx"
        refine r_appLs (d := tellD (p, x.a)) hA7.te (.tup et (.cons ((hp5.fr f6).fr f7) (.cons (.int _) .nil))) (by rw [List.length_map]; exact htl) (fun H8 hl8 f8 => ?_)
        have hA8 := hA7.uTe (r := M.tl ++ [(p, x.a)]) f8 (by rw [List.map_append]; exact hl8)
        walk_at "sx"
        exact hq H8 hA8 (((g5.trans f6.up).trans f7.up).trans (f8.mono (HlA.foot_1 (by simp))))
theorem sc_t_take : FnScope ["self", "agent", "lock"] ["self", "agent", "lock"] (defScope s_t_take) := ⟨rfl, rfl, rfl, by decide +kernel, rfl, by decide +kernel, by decide +kernel⟩
theorem ok_t_take (TX : Txt K mg) : OkF P w K mg base 1 (He.ma K (He.ga K "Table") "take") ["self", "agent", "lock"] (sp_t_take K) := by
  refine okF TX.f_t_take sc_t_take (fun _ _ _ _ _ _ us hl => match us, hl with | [_, _, _], _ => rfl) (fun vs H Q E h => ?_) (fun cdv A outer s H vs Q E hr h => ?_)
  · obtain ⟨_, _, _, rfl, _⟩ := h
    rfl
  · obtain ⟨x, y, z, rfl, h⟩ := h
    refine ⟨_, (pss_cons (ps_asg (pv 1) (pg_sub (k_fld (K := K) rfl (pv 0) rfl) (pv 2) set_list)) (pss_one (ps_asg (pe_op op_add (pe_ix (k_ixl (K := K) rfl) (k_fld (K := K) rfl (pv 0) rfl) (pv 2) (fun _ _ => rfl)) pe_int) (pg_sub (k_fld (K := K) rfl (pv 0) rfl) (pv 2) set_list)))), ?_⟩
    refine r_st (σ' := [some x, some y, some z]) rfl ?_
    try dsimp only [cxOf]
    obtain ⟨A, T, a, l, rfl, rfl, rfl, hT, hl, h⟩ := h
    walk_at "sx"
    refine r_owners TX.tb hT ?_
    walk_at "sx"
    refine r_setOwn hT hl (some a) (fun H1 hT1 f1 => ?_)
    have hl1 : l < ({ T with own := T.own.set l (some a) } : Tb).m := by show l < (T.own.set l (some a)).length; rw [List.length_set]; exact hl
    walk_at "sx"
    refine r_times TX.tb hT1 ?_
    walk_at "sx"
    refine r_ixTim hT1 hl1 ?_
    walk_at "sx"
    refine r_times TX.tb hT1 ?_
    walk_at "sx"
    exact r_setTim hT1 hl1 (T.ti l + 1) (fun H2 hT2 f2 => h H2 hT2 (f1.trans f2))
theorem sc_t_pass_on : FnScope ["self", "lock", "agent"] ["self", "lock"] (defScope s_t_pass_on) := ⟨rfl, rfl, rfl, by decide +kernel, rfl, by decide +kernel, by decide +kernel⟩
theorem ok_t_pass_on (TX : Txt K mg) : OkF P w K mg base 2 (He.ma K (He.ga K "Table") "pass_on") ["self", "lock"] (sp_t_pass_on K) := by
  obtain ⟨⟨fd_t_take, G_t_take, b_t_take⟩, k_t_take⟩ := (ok_t_take TX : OkF P w K mg base _ _ _ _)
  refine okF TX.f_t_pass_on sc_t_pass_on (fun _ _ _ _ _ _ us hl => match us, hl with | [_, _], _ => rfl) (fun vs H Q E h => ?_) (fun cdv A outer s H vs Q E hr h => ?_)
  · obtain ⟨_, _, rfl, _⟩ := h
    rfl
  · obtain ⟨x, y, rfl, h⟩ := h
    refine ⟨_, (pss_cons (ps_asg pe_non (pg_sub (k_fld (K := K) rfl (pv 0) rfl) (pv 1) set_list)) (pss_cons (ps_if (pt_cmpR (k_eqD (K := K) rfl hr.units) (pe_ix (k_ixl (K := K) rfl) (k_fld (K := K) rfl (pv 0) rfl) (pv 1) (fun _ _ => rfl)) (pe_lst pa_nil) (nomark _)) (pss_one (ps_ret pe_non)) pss_nil) (pss_cons (ps_set (i := 2) sc_t_pass_on.nd rfl (Or.inl rfl) (pe_bm PySem.F.plainAttrs_list PySem.F.slot_list_pop PySem.F.type_list_pop mt_popAt (pe_ix (k_ixl (K := K) rfl) (k_fld (K := K) rfl (pv 0) rfl) (pv 1) (fun _ _ => rfl)) (pa_cons pe_int pa_nil))) (pss_cons (ps_asg pe_non (pg_sub (k_fld (K := K) rfl (pv 0) rfl) (pv 2) set_list)) (pss_cons (ps_expr (pe_meth (pv 0) TX.c_Table TX.m_t_take G_t_take (hr.mono (by decide)) b_t_take .nil pE (pa_cons (pv 2) (pa_cons (pv 1) pa_nil)))) (pss_one (ps_ret (pv 2)))))))), ?_⟩
    refine r_st (σ' := [some x, some y, none]) rfl ?_
    try dsimp only [cxOf]
    obtain ⟨A, T, l, rfl, rfl, hT, hl, hb, h⟩ := h
    walk_at "sx"
    refine r_owners TX.tb hT ?_
    walk_at "sx"
    refine r_setOwn hT hl none (fun H1 hT1 f1 => ?_)
    have hl1 : l < (T.free l).m := by show l < (T.own.set l none).length; rw [List.length_set]; exact hl
    walk_at "sx"
    refine r_lines TX.tb hT1 ?_
    walk_at "sx"
    refine r_ixLin hT1 hl1 (fun b eb hb1 => ?_)
    walk_at "sx"
    refine r_newL (Nat.zero_le _) (fun p H2 hp e f2 => ?_)
    have hT2 := hT1.fr0 f2
    refine r_eqNil (nats_dp (hT2.each _ _ eb)) (nats_cmp _) e ?_
    walk_at "sx"
    refine r_dec (fun g => ?_) (fun g => ?_)
    · have e0 : T.ln l = [] := nats_nil.mp g
      walk_at "sx"
      have e1 : T.pass l = T.free l := by unfold Tb.pass; rw [e0]
      have e2 : T.heir l = none := by unfold Tb.heir; rw [e0]; rfl
      have := h H2 (by rw [e1]; exact hT2) (f1.trans f2.up)
      rw [e2] at this
      exact this
    obtain ⟨x, r, e0⟩ : ∃ x r, T.ln l = x :: r := by
      cases q : T.ln l with
      | nil => exact absurd (nats_nil.mpr (show (T.free l).ln l = [] from q)) g
      | cons x r => exact ⟨x, r, rfl⟩
    have hx : x < T.n := hb x (by rw [e0]; exact List.mem_cons_self)
    walk_at "sx"
    refine r_lines TX.tb hT2 ?_
    walk_at "sx"
    refine r_ixLin hT2 hl1 (fun b' eb' hb2 => r_tyL hb2 ?_)
    walk_at "sx"
    refine r_popLine hT2 eb' e0 (fun H3 hT3 f3 => ?_)
    walk_at "sx"
    refine r_wants TX.tb hT3 ?_
    walk_at "sx"
    refine r_setWan hT3 hx none (fun H4 hT4 f4 => ?_)
    walk_at "sx"
    refine r_tmeth hT4 (by decide +kernel) ?_
    walk_at "sx"
    refine ⟨A, ((T.free l).line l r).stop x, x, l, rfl, rfl, rfl, hT4, hl1, fun H5 hT5 f5 => ?_⟩
    walk_at "sx"
    have e1 : T.pass l = (((T.free l).line l r).stop x).take x l := by unfold Tb.pass; rw [e0]
    have e2 : T.heir l = some x := by unfold Tb.heir; rw [e0]; rfl
    have := h H5 (by rw [e1]; exact hT5) ((((f1.trans f2.up).trans f3).trans f4).trans f5)
    rw [e2] at this
    exact this
theorem sc_t_leave : FnScope ["self", "agent", "lock"] ["self", "agent"] (defScope s_t_leave) := ⟨rfl, rfl, rfl, by decide +kernel, rfl, by decide +kernel, by decide +kernel⟩
theorem ok_t_leave (TX : Txt K mg) : OkF P w K mg base 3 (He.ma K (He.ga K "Table") "leave") ["self", "agent"] (sp_t_leave K) := by
  obtain ⟨⟨fd_t_held, G_t_held, b_t_held⟩, k_t_held⟩ := (ok_t_held TX : OkF P w K mg base _ _ _ _)
  obtain ⟨⟨fd_t_pass_on, G_t_pass_on, b_t_pass_on⟩, k_t_pass_on⟩ := (ok_t_pass_on TX : OkF P w K mg base _ _ _ _)
  obtain ⟨⟨fd_t_need_agent, G_t_need_agent, b_t_need_agent⟩, k_t_need_agent⟩ := (ok_t_need_agent TX : OkF P w K mg base _ _ _ _)
  refine okF TX.f_t_leave sc_t_leave (fun _ _ _ _ _ _ us hl => match us, hl with | [_, _], _ => rfl) (fun vs H Q E h => ?_) (fun cdv A outer s H vs Q E hr h => ?_)
  · obtain ⟨_, _, rfl, _⟩ := h
    rfl
  · obtain ⟨x, y, rfl, h⟩ := h
    refine ⟨_, (pss_cons (ps_expr (pe_meth (pv 0) TX.c_Table TX.m_t_need_agent G_t_need_agent (hr.mono (by decide)) b_t_need_agent .nil pE (pa_cons (pv 1) pa_nil))) (pss_cons (ps_if (pt_cmpR (op_notN) (pe_ix (k_ixl (K := K) rfl) (k_fld (K := K) rfl (pv 0) rfl) (pv 1) (fun _ _ => rfl)) pe_non (nomark _)) (pss_cons (ps_expr (pe_bm PySem.F.plainAttrs_list PySem.F.slot_list_remove PySem.F.type_list_remove mt_remove (pe_ix (k_ixl (K := K) rfl) (k_fld (K := K) rfl (pv 0) rfl) (pe_ix (k_ixl (K := K) rfl) (k_fld (K := K) rfl (pv 0) rfl) (pv 1) (fun _ _ => rfl)) (fun _ _ => rfl)) (pa_cons (pv 1) pa_nil))) (pss_one (ps_asg pe_non (pg_sub (k_fld (K := K) rfl (pv 0) rfl) (pv 1) set_list)))) pss_nil) (pss_one (ps_ret (pe_lc (own := [("lock", 2)]) (g := gName 2) rfl sc_t_leave.nd (k_listI (K := K) rfl (pe_meth (pv 0) TX.c_Table TX.m_t_held G_t_held (hr.mono (by decide)) b_t_held .nil pE (pa_cons (pv 1) pa_nil))) (blkOk_by (N := ["self", "agent", "lock"]) (sc := defScope s_t_leave) (by decide +kernel)) (fun _ _ _ _ _ => pg_name (i := 2) sc_t_leave.nd rfl (Or.inl rfl)) (fun _ _ _ _ _ => by exact pts_nil) (fun _ _ _ _ _ => by exact (pe_tup (pa_cons (pv 2) (pa_cons (pe_meth (pv 0) TX.c_Table TX.m_t_pass_on G_t_pass_on (hr.mono (by decide)) b_t_pass_on .nil passL (pa_cons (pv 2) pa_nil)) pa_nil))))))))), ?_⟩
    refine r_st (σ' := [some x, some y, none]) rfl ?_
    try dsimp only [cxOf]
    obtain ⟨A, T, a, rfl, rfl, hT, hW, he, ho⟩ := h
    walk_at "sx"
    refine r_tmeth hT (by decide +kernel) ?_
    walk_at "sx"
    refine ⟨A, T, a, rfl, rfl, hT, fun g => ?_, fun g => he _ T (by unfold Tb.leaveR; rw [if_neg g])⟩
    obtain ⟨a, rfl, ha⟩ := Tb.isA_nat g
    have eR := Tb.leaveR_nat ha
    walk_at "sx"
    refine r_wants TX.tb hT ?_
    walk_at "sx"
    refine r_ixWan hT ha ?_
    walk_at "sx"
    refine ⟨rfl, ?_⟩
    walk_at "sx"
    have rest : ∀ H1, TbK K H1 A (T.unwait a) → Fr A.foot H H1 → tLc (iList K (tMeth (He.ga K "Table") "held" (sp_t_held K) [] E (tVar 0) (tCons (tVar 1) tNil))) (gName 2) tYes (tTup (tCons (tVar 2) (tCons (tMeth (He.ga K "Table") "pass_on" (sp_t_pass_on K) [] E0 (tVar 0) (tCons (tVar 2) tNil)) tNil))) [2] [some (.ref A.p), some (.int (a : Int)), none] H1 Q := by
      intro H1 hT1 f1
      have hW1 := hW.unwait ha
      refine r_lcL0 ?_
      walk_at "sx"
      refine r_tmeth hT1 (by decide +kernel) ?_
      walk_at "sx"
      refine ⟨A, T.unwait a, (a : Int), rfl, rfl, hT1, fun _ h H2 hp e f2 => ?_, fun z => absurd (Tb.isA_of (by rw [Tb.unwait_n]; exact ha)) z⟩
      rw [Int.toNat_natCast] at e
      refine ⟨h, rfl, ⟨_, SqL.of e⟩, fun D hD => ?_⟩
      have hT2 := hT1.fr0 f2
      have nh : ¬ A.foot h := fresh_foot hT1 hp
      refine lc_list (K := K) (a := h) (xs := ((T.unwait a).held a).map nV) (fun i H' => LvW K A (T.unwait a) H2 D (((T.unwait a).held a).take i) H') ⟨hD, (Fr.new hD).up, ⟨[], upd_same, .nil⟩, hT2.fr0 (Fr.new hD)⟩ (fun i H' hi w => SqL.of (w.fr.old _ _ e nh)) (fun i x H' hi w => ?_) (fun H' w => ?_)
      · obtain ⟨l, hl, rfl⟩ : ∃ l, ((T.unwait a).held a)[i]? = some l ∧ x = nV l := by
          rw [List.getElem?_map] at hi
          cases q : ((T.unwait a).held a)[i]? with
          | none => rw [q] at hi; cases hi
          | some l => rw [q] at hi; exact ⟨l, rfl, (Option.some.inj hi).symm⟩
        have hm : l < (T.unwait a).m := Tb.held_lt (List.mem_of_getElem? hl)
        have et : ((T.unwait a).held a).take (i + 1) = ((T.unwait a).held a).take i ++ [l] := by
          rw [List.take_succ, hl]
          rfl
        have hWi := Tb.Wf.passAll (((T.unwait a).held a).take i) hW1 (fun k hk => Tb.held_lt (List.mem_of_mem_take hk))
        obtain ⟨w1, w2, ⟨vs, w3, w3'⟩, w4⟩ := w
        refine ⟨rfl, ?_⟩
        walk_at "sx"
        refine r_tmeth w4 (by decide +kernel) ?_
        walk_at "sx"
        refine ⟨A, _, l, rfl, rfl, w4, by rw [Tb.passAll_m]; exact hm, fun b hb => (hWi.lw l b hb).1, fun H3 hT3 f3 => ?_⟩
        walk_at "sx"
        refine r_newT (by show 2 ≤ 2000; decide) (fun t H4 ht et4 f4 => ?_)
        have nD : ¬ A.foot D := fresh_foot hT2 hD
        have eD : H4 D = some (.lst vs) := f4.lst (f3.old _ _ w3 nD)
        have hlen : vs.length ≤ 12 := by
          have q1 := w3'.len
          have q2 := Tb.passAll_len (((T.unwait a).held a).take i) (T.unwait a)
          have q3 := Tb.held_len (T := T.unwait a) (a := a)
          have q4 := hW1.sz.m12
          rw [show (gone (Tb.passAll (((T.unwait a).held a).take i) (T.unwait a)).1).length = (Tb.passAll (((T.unwait a).held a).take i) (T.unwait a)).1.length from List.length_map _] at q1
          have q5 : (((T.unwait a).held a).take i).length ≤ ((T.unwait a).held a).length := by rw [List.length_take]; exact Nat.min_le_right _ _
          omega
        refine ⟨vs, eD, small2000 (by omega), ?_⟩
        have f5 : Fr (fun b => b = D) H4 (upd H4 D (.lst (vs ++ [.ref t]))) := Fr.put eD (fun xs z => by cases z)
        rw [et]
        refine ⟨w1, ?_, ?_, ?_⟩
        · exact (w2.trans (f3.trans f4.up)).mut_at w1
        · rw [Tb.passAll_snoc, gone_snoc]
          exact ⟨_, upd_same, ((w3'.fr ((f3.trans f4.up))).app (TdAll.one (td_two et4 (.int _) (td_o _ _)))).fr f5⟩
        · rw [Tb.passAll_snoc]
          exact (hT3.fr0 f4).fr f5 (fun b hb z => fresh_has hT2 hD (z ▸ hb))
      · rw [List.length_map, List.take_length] at w
        exact ho _ _ eR D H' w.tb (f1.trans (f2.up.trans w.fr)) (f1.fresh (f2.fresh w.new)) w.at_
    refine r_decN (fun g => ?_) (fun g => ?_)
    · obtain ⟨l, hl⟩ : ∃ l, T.wa a = some l := by
        cases q : T.wa a with
        | none => exact absurd ((oV_non _).mpr q) g
        | some l => exact ⟨l, rfl⟩
      obtain ⟨hlm, hmem⟩ := hW.wl a l hl
      walk_at "sx"
      refine r_lines TX.tb hT ?_
      walk_at "sx"
      refine r_wants TX.tb hT ?_
      walk_at "sx"
      refine r_ixWan hT ha ?_
      rw [hl]
      refine r_ixLin hT hlm (fun b eb hb => r_tyL hb ?_)
      walk_at "sx"
      refine r_remLine hT eb hmem (fun H1 hT1 f1 => ?_)
      walk_at "sx"
      refine r_wants TX.tb hT1 ?_
      walk_at "sx"
      refine r_setWan hT1 ha none (fun H2 hT2 f2 => ?_)
      walk_at "sx"
      exact rest H2 (by rw [Tb.unwait_some hl]; exact hT2) (f1.trans f2)
    · walk_at "sx"
      have g' := (oV_non _).mp g
      exact rest H (by rw [Tb.unwait_none g']; exact hT) Fr.refl
theorem sc_h_is_down : FnScope ["self", "number"] ["self", "number"] (defScope s_h_is_down) := ⟨rfl, rfl, rfl, by decide +kernel, rfl, by decide +kernel, by decide +kernel⟩
theorem ok_h_is_down (TX : Txt K mg) : OkF P w K mg base 1 (He.ma K (He.ga K "Hall") "is_down") ["self", "number"] (sp_h_is_down K) := by
  refine okF TX.f_h_is_down sc_h_is_down (fun _ _ _ _ _ _ us hl => match us, hl with | [_, _], _ => rfl) (fun vs H Q E h => ?_) (fun cdv A outer s H vs Q E hr h => ?_)
  · obtain ⟨_, _, rfl, _⟩ := h
    rfl
  · obtain ⟨x, y, rfl, h⟩ := h
    refine ⟨_, (pss_one (ps_ret (pe_ix (k_ixl (K := K) rfl) (k_fld (K := K) rfl (pv 0) rfl) (pe_op op_mod (pv 1) (pe_callB (k_len (K := K) rfl) (by rfl) TX.z_len (by decide +kernel) (pa_cons (k_fld (K := K) rfl (pv 0) rfl) pa_nil))) (fun _ _ => rfl)))), ?_⟩
    refine r_st (σ' := [some x, some y]) rfl ?_
    try dsimp only [cxOf]
    obtain ⟨A, M, k, rfl, rfl, hA, hO, hq⟩ := h
    walk_at "sx"
    refine r_down TX.hl hA ?_
    walk_at "sx"
    refine r_down TX.hl hA ?_
    walk_at "sx"
    refine h_lenDn hA ?_
    walk_at "sx"
    refine r_I (by have := hO.h1; first | omega | (constructor <;> omega)) ?_
    exact h_modDn hA hO hq
theorem sc_h_house_number : FnScope ["self", "letter"] ["self", "letter"] (defScope s_h_house_number) := ⟨rfl, rfl, rfl, by decide +kernel, rfl, by decide +kernel, by decide +kernel⟩
theorem ok_h_house_number (TX : Txt K mg) : OkF P w K mg base 1 (He.ma K (He.ga K "Hall") "house_number") ["self", "letter"] (sp_h_house_number K) := by
  refine okF TX.f_h_house_number sc_h_house_number (fun _ _ _ _ _ _ us hl => match us, hl with | [_, _], _ => rfl) (fun vs H Q E h => ?_) (fun cdv A outer s H vs Q E hr h => ?_)
  · obtain ⟨_, _, rfl, _⟩ := h
    rfl
  · obtain ⟨x, y, rfl, h⟩ := h
    refine ⟨_, (pss_cons (ps_if (pt_cmpR (k_inS (K := K) rfl) (pe_ix (k_ixt (K := K) rfl) (pv 1) pe_int (fun _ _ => rfl)) (pe_tup (pa_cons pe_str (pa_cons pe_str pa_nil))) (by with_unfolding_all rfl)) (pss_one (ps_ret (pe_ix (k_ixt (K := K) rfl) (pv 1) pe_int (fun _ _ => rfl)))) pss_nil) (pss_cons (ps_if (pt_cmpR (op_eq) (pe_ix (k_ixt (K := K) rfl) (pv 1) pe_int (fun _ _ => rfl)) pe_str (nomark _)) (pss_one (ps_ret (pe_ix (k_ixt (K := K) rfl) (pe_ix (k_ixt (K := K) rfl) (pe_ix (k_ixt (K := K) rfl) (pv 1) pe_int (fun _ _ => rfl)) (pe_ix (k_ixt (K := K) rfl) (pv 1) pe_int (fun _ _ => rfl)) (fun _ _ => rfl)) pe_int (fun _ _ => rfl)))) pss_nil) (pss_one (ps_ret (pe_ix (k_ixt (K := K) rfl) (pv 1) pe_int (fun _ _ => rfl)))))), ?_⟩
    refine r_st (σ' := [some x, some y]) rfl ?_
    try dsimp only [cxOf]
    obtain ⟨A, M, X, rfl, hA, hX, hk, hq⟩ := h
    walk_at "sx"
    cases hk with
    | @who p l hp hl hs =>
      obtain ⟨a, pv, rfl, e, tp⟩ := who_at hX
      refine r_ixt (i := 0) (v := .str "who") e rfl ?_
      walk_at "sx"
      refine r_newT (by show 2 ≤ 2000; decide) (fun t H1 ht et f1 => ?_)
      refine ⟨t, _, rfl, .inr (SqT.of et), rfl, rfl, ?_⟩
      rw [if_neg Bool.false_ne_true]
      rw [show inV (V.str "who") [V.str "who", V.str "is"] = true from by decide +kernel]
      walk_at "sx"
      exact r_ixt (i := 2) (v := .int (l : Int)) (f1.tup _ _ e) rfl (hq H1 f1)
    | @is p b l k hp hb hl hs =>
      obtain ⟨a, pv, rfl, e, tp⟩ := is_at hX
      refine r_ixt (i := 0) (v := .str "is") e rfl ?_
      walk_at "sx"
      refine r_newT (by show 2 ≤ 2000; decide) (fun t H1 ht et f1 => ?_)
      refine ⟨t, _, rfl, .inr (SqT.of et), rfl, rfl, ?_⟩
      rw [if_neg Bool.false_ne_true]
      rw [show inV (V.str "is") [V.str "who", V.str "is"] = true from by decide +kernel]
      walk_at "sx"
      exact r_ixt (i := 2) (v := .int (b : Int)) (f1.tup _ _ e) rfl (hq H1 f1)
    | @still p i hp hi =>
      obtain ⟨a, pv, rfl, e, tp⟩ := still_at hX
      obtain ⟨pa, vs, rfl, ep, av⟩ := path_at tp
      obtain ⟨x, ex, etx⟩ := path_ix av hi
      refine r_ixt (i := 0) (v := .str "still") e rfl ?_
      walk_at "sx"
      refine r_newT (by show 2 ≤ 2000; decide) (fun t H1 ht et f1 => ?_)
      refine ⟨t, _, rfl, .inr (SqT.of et), rfl, rfl, ?_⟩
      rw [if_neg Bool.false_ne_true]
      rw [show inV (V.str "still") [V.str "who", V.str "is"] = false from by decide +kernel]
      walk_at "sx"
      refine r_ixt (i := 0) (v := .str "still") (f1.tup _ _ e) rfl ?_
      walk_at "sx"
      refine r_eq rfl ?_
      walk_at "sx"
      refine r_dec (fun _ => ?_) (fun g => absurd rfl g)
      walk_at "sx"
      refine r_ixt (i := 1) (v := .ref pa) (f1.tup _ _ e) rfl ?_
      walk_at "sx"
      refine r_ixt (i := 2) (v := .int (i : Int)) (f1.tup _ _ e) rfl ?_
      refine r_ixt (i := i) (v := .ref x) (f1.tup _ _ ep) ex ?_
      walk_at "sx"
      exact r_ixt (i := 0) (v := .int _) (f1.tup _ _ etx) rfl (hq H1 f1)
    | @brk b w hb =>
      obtain ⟨a, rfl, e⟩ := brk_at hX
      refine r_ixt (i := 0) (v := .str "break") e rfl ?_
      walk_at "sx"
      refine r_newT (by show 2 ≤ 2000; decide) (fun t H1 ht et f1 => ?_)
      refine ⟨t, _, rfl, .inr (SqT.of et), rfl, rfl, ?_⟩
      rw [if_neg Bool.false_ne_true]
      rw [show inV (V.str "break") [V.str "who", V.str "is"] = false from by decide +kernel]
      walk_at "sx"
      refine r_ixt (i := 0) (v := .str "break") (f1.tup _ _ e) rfl ?_
      walk_at "sx"
      refine r_eq rfl ?_
      walk_at "sx"
      refine r_dec (fun g => by cases g) (fun _ => ?_)
      walk_at "sx"
      exact r_ixt (i := 1) (v := .int (b : Int)) (f1.tup _ _ e) rfl (hq H1 f1)
theorem sc_h_need_letter : FnScope ["self", "number"] ["self", "number"] (defScope s_h_need_letter) := ⟨rfl, rfl, rfl, by decide +kernel, rfl, by decide +kernel, by decide +kernel⟩
theorem ok_h_need_letter (TX : Txt K mg) : OkF P w K mg base 1 (He.ma K (He.ga K "Hall") "need_letter") ["self", "number"] (sp_h_need_letter K) := by
  refine okF TX.f_h_need_letter sc_h_need_letter (fun _ _ _ _ _ _ us hl => match us, hl with | [_, _], _ => rfl) (fun vs H Q E h => ?_) (fun cdv A outer s H vs Q E hr h => ?_)
  · obtain ⟨_, _, rfl, _⟩ := h
    rfl
  · obtain ⟨x, y, rfl, h⟩ := h
    refine ⟨_, (pss_one (ps_if (pt_not (pt_chain op_le op_lt pe_int (pv 1) (pe_callB (k_len (K := K) rfl) (by rfl) TX.z_len (by decide +kernel) (pa_cons (k_fld (K := K) rfl (pv 0) rfl) pa_nil)))) (pss_one (ps_raise rfl (takes_of rfl rfl rfl rfl) (pmk_own PySem.F.excBase_ValueError TX.e_NoLetter.ex TX.e_NoLetter.g TX.e_NoLetter.k (raises_own TX.e_NoLetter.b TX.e_NoLetter.t) rfl))) pss_nil)), ?_⟩
    refine r_st (σ' := [some x, some y]) rfl ?_
    try dsimp only [cxOf]
    obtain ⟨A, M, i, rfl, rfl, hA, hq, he⟩ := h
    walk_at "sx"
    refine r_range (fun _ q => by walk_at "sx"; exact q) (fun _ q => by walk_at "sx"; refine r_letters TX.hl hA ?_; walk_at "sx"; exact h_lenLe hA q) ?_
    walk_at "sx"
    refine r_decN (fun g => ?_) (fun g => ?_)
    · walk_at "sx"
      exact he g
    · walk_at "sx"
      exact hq g
theorem sc_h_carry : FnScope ["self", "number", "letter"] ["self", "number"] (defScope s_h_carry) := ⟨rfl, rfl, rfl, by decide +kernel, rfl, by decide +kernel, by decide +kernel⟩
theorem ok_h_carry (TX : Txt K mg) : OkF P w K mg base 5 (He.ma K (He.ga K "Hall") "carry") ["self", "number"] (sp_h_carry K) := by
  obtain ⟨⟨fd_h_who, G_h_who, b_h_who⟩, k_h_who⟩ := (ok_h_who TX : OkF P w K mg base _ _ _ _)
  obtain ⟨⟨fd_h_come, G_h_come, b_h_come⟩, k_h_come⟩ := (ok_h_come TX : OkF P w K mg base _ _ _ _)
  obtain ⟨⟨fd_h_still, G_h_still, b_h_still⟩, k_h_still⟩ := (ok_h_still TX : OkF P w K mg base _ _ _ _)
  obtain ⟨⟨fd_h_waits_by, G_h_waits_by, b_h_waits_by⟩, k_h_waits_by⟩ := (ok_h_waits_by TX : OkF P w K mg base _ _ _ _)
  obtain ⟨⟨fd_t_leave, G_t_leave, b_t_leave⟩, k_t_leave⟩ := (ok_t_leave TX : OkF P w K mg base _ _ _ _)
  obtain ⟨⟨fd_h_is_down, G_h_is_down, b_h_is_down⟩, k_h_is_down⟩ := (ok_h_is_down TX : OkF P w K mg base _ _ _ _)
  obtain ⟨⟨fd_h_house_number, G_h_house_number, b_h_house_number⟩, k_h_house_number⟩ := (ok_h_house_number TX : OkF P w K mg base _ _ _ _)
  obtain ⟨⟨fd_h_need_letter, G_h_need_letter, b_h_need_letter⟩, k_h_need_letter⟩ := (ok_h_need_letter TX : OkF P w K mg base _ _ _ _)
  refine okF TX.f_h_carry sc_h_carry (fun _ _ _ _ _ _ us hl => match us, hl with | [_, _], _ => rfl) (fun vs H Q E h => ?_) (fun cdv A outer s H vs Q E hr h => ?_)
  · obtain ⟨_, _, rfl, _⟩ := h
    rfl
  · obtain ⟨x, y, rfl, h⟩ := h
    refine ⟨_, (pss_cons (ps_expr (pe_meth (pv 0) TX.c_Hall TX.m_h_need_letter G_h_need_letter (hr.mono (by decide)) b_h_need_letter .nil pE (pa_cons (pv 1) pa_nil))) (pss_cons (ps_set (i := 2) sc_h_carry.nd rfl (Or.inl rfl) (pe_bm PySem.F.plainAttrs_list PySem.F.slot_list_pop PySem.F.type_list_pop mt_popAt (k_fld (K := K) rfl (pv 0) rfl) (pa_cons (pv 1) pa_nil))) (pss_cons (ps_if (pt_val (pe_meth (pv 0) TX.c_Hall TX.m_h_is_down G_h_is_down (hr.mono (by decide)) b_h_is_down .nil pE (pa_cons (pe_meth (pv 0) TX.c_Hall TX.m_h_house_number G_h_house_number (hr.mono (by decide)) b_h_house_number .nil pE (pa_cons (pv 2) pa_nil)) pa_nil))) (pss_one ps_retN) pss_nil) (pss_one (ps_if (pt_cmpR (op_eq) (pe_ix (k_ixt (K := K) rfl) (pv 2) pe_int (fun _ _ => rfl)) pe_str (nomark _)) (pss_one (ps_expr (pe_meth (pv 0) TX.c_Hall TX.m_h_who G_h_who (hr.mono (by decide)) b_h_who .nil pE (pa_cons (pe_ix (k_ixt (K := K) rfl) (pv 2) pe_int (fun _ _ => rfl)) (pa_cons (pe_ix (k_ixt (K := K) rfl) (pv 2) pe_int (fun _ _ => rfl)) pa_nil))))) (pss_one (ps_if (pt_cmpR (op_eq) (pe_ix (k_ixt (K := K) rfl) (pv 2) pe_int (fun _ _ => rfl)) pe_str (nomark _)) (pss_one (ps_expr (pe_meth (pv 0) TX.c_Hall TX.m_h_come G_h_come (hr.mono (by decide)) b_h_come .nil pE (pa_cons (pe_ix (k_ixt (K := K) rfl) (pv 2) pe_int (fun _ _ => rfl)) (pa_cons (pe_ix (k_ixt (K := K) rfl) (pv 2) pe_int (fun _ _ => rfl)) (pa_cons (pe_ix (k_ixt (K := K) rfl) (pv 2) pe_int (fun _ _ => rfl)) (pa_cons (pe_ix (k_ixt (K := K) rfl) (pv 2) pe_int (fun _ _ => rfl)) pa_nil))))))) (pss_one (ps_if (pt_cmpR (op_eq) (pe_ix (k_ixt (K := K) rfl) (pv 2) pe_int (fun _ _ => rfl)) pe_str (nomark _)) (pss_one (ps_expr (pe_meth (pv 0) TX.c_Hall TX.m_h_still G_h_still (hr.mono (by decide)) b_h_still .nil pE (pa_cons (pe_ix (k_ixt (K := K) rfl) (pv 2) pe_int (fun _ _ => rfl)) (pa_cons (pe_ix (k_ixt (K := K) rfl) (pv 2) pe_int (fun _ _ => rfl)) pa_nil))))) (pss_one (ps_if (pt_val (pe_meth (pv 0) TX.c_Hall TX.m_h_waits_by G_h_waits_by (hr.mono (by decide)) b_h_waits_by .nil pE (pa_cons (pe_ix (k_ixt (K := K) rfl) (pv 2) pe_int (fun _ _ => rfl)) (pa_cons (pe_ix (k_ixt (K := K) rfl) (pv 2) pe_int (fun _ _ => rfl)) pa_nil)))) (pss_cons (ps_expr (pe_meth (k_fld (K := K) rfl (pv 0) rfl) TX.c_Table TX.m_t_leave G_t_leave (hr.mono (by decide)) b_t_leave .nil pE (pa_cons (pe_ix (k_ixt (K := K) rfl) (pv 2) pe_int (fun _ _ => rfl)) pa_nil))) (pss_one (ps_expr (pe_bm PySem.F.plainAttrs_list PySem.F.slot_list_append PySem.F.type_list_append mt_append (k_fld (K := K) rfl (pv 0) rfl) (pa_cons (pe_tup (pa_cons (pe_ix (k_ixt (K := K) rfl) (pv 2) pe_int (fun _ _ => rfl)) (pa_cons (pe_ix (k_ixt (K := K) rfl) (pv 2) pe_int (fun _ _ => rfl)) pa_nil))) pa_nil))))) pss_nil))))))))))), ?_⟩
    refine r_st (σ' := [some x, some y, none]) rfl ?_
    try dsimp only [cxOf]
    obtain ⟨A, M, i, rfl, rfl, hA, hO, hF, he, hq⟩ := h
    walk_at "sx"
    refine r_hmeth hA (by decide +kernel) ?_
    walk_at "sx"
    refine ⟨A, M, i, rfl, rfl, hA, fun g => ?_, he⟩
    have hq := hq g
    obtain ⟨j, rfl⟩ : ∃ j : Nat, i = (j : Int) := ⟨i.toNat, by have := g.1; omega⟩
    have hj : j < M.rd.length := by have := g.2; omega
    rw [Int.toNat_natCast] at hq
    have ex := List.getElem?_eq_getElem hj
    have hk := hO.rd _ (List.mem_of_getElem? ex)
    generalize M.rd[j] = X at ex hk
    have hO1 := hO.drop (i := j)
    have hk1 : LOk (M.drop j).t X := hk
    have hrl : (M.drop j).rd.length ≤ 2000 := by
      show (M.rd.eraseIdx j).length ≤ 2000
      have := List.length_eraseIdx_le M.rd j
      have := hF.rd
      omega
    unfold Hl.carry at hq
    rw [ex] at hq
    walk_at "sx"
    refine r_letters TX.hl hA ?_
    obtain ⟨ve, eve, tve⟩ := hA.le
    refine r_tyL eve ?_
    walk_at "sx"
    refine h_pop hA ex (by have := hF.rd; omega) (fun v H1 tv hA1 f1 => ?_)
    have eD : (M.drop j).isDown (Hl.home X) = M.isDown (Hl.home X) := rfl
    walk_at "sx"
    refine r_hmeth hA1 (by decide +kernel) ?_
    walk_at "sx"
    refine r_hmeth hA1 (by decide +kernel) ?_
    walk_at "sx"
    refine ⟨A, _, X, rfl, hA1, tv, hk1, fun H2 f2 => ?_⟩
    have hA2 := hA1.fr0 f2
    have tv2 := tv.fr f2
    have g2 : Fr A.foot H H2 := f1.trans f2.up
    walk_at "sx"
    refine ⟨A, _, Hl.home X, rfl, rfl, hA2, hO1, ?_⟩
    rw [eD]
    walk_at "sx"
    cases ed : M.isDown (Hl.home X) with
    | true =>
      simp only [if_pos ed] at hq
      walk_at "sx"
      exact hq H2 hA2 g2
    | false =>
      simp only [if_neg (show ¬ M.isDown (Hl.home X) = true by rw [ed]; exact Bool.false_ne_true)] at hq
      have htl : (M.drop j).tl.length ≤ 2000 := by have := hF.tl; show M.tl.length ≤ 2000; omega
      have hbl : (M.drop j).br.length ≤ 2000 := by have := hF.br; show M.br.length ≤ 2000; omega
      generalize M.drop j = M1 at hA1 hA2 hO1 hk1 hrl hq htl hbl
      walk_at "sx"
      cases hk1 with
      | @who p l hp hl hs =>
        obtain ⟨a, pv, rfl, e, tp⟩ := who_at tv2
        refine r_ixt (i := 0) (v := .str "who") e rfl ?_
        walk_at "sx"
        refine r_eq rfl ?_
        walk_at "sx"
        refine r_dec (fun _ => ?_) (fun g => absurd rfl g)
        walk_at "sx"
        refine r_hmeth hA2 (by decide +kernel) ?_
        walk_at "sx"
        refine r_ixt (i := 1) (v := pv) e rfl ?_
        walk_at "sx"
        refine r_ixt (i := 2) (v := .int (l : Int)) e rfl ?_
        walk_at "sx"
        refine ⟨A, _, p, l, rfl, rfl, hA2, hO1, tp, hl, hrl, fun H3 hA3 f3 => ?_⟩
        walk_at "sx"
        exact hq H3 hA3 (g2.trans f3)
      | @is p b l k hp hb hl hs =>
        obtain ⟨a, pv, rfl, e, tp⟩ := is_at tv2
        refine r_ixt (i := 0) (v := .str "is") e rfl ?_
        walk_at "sx"
        refine r_eq rfl ?_
        walk_at "sx"
        refine r_dec (fun g => by cases g) (fun _ => ?_)
        walk_at "sx"
        refine r_ixt (i := 0) (v := .str "is") e rfl ?_
        walk_at "sx"
        refine r_eq rfl ?_
        walk_at "sx"
        refine r_dec (fun _ => ?_) (fun g => absurd rfl g)
        walk_at "sx"
        refine r_hmeth hA2 (by decide +kernel) ?_
        walk_at "sx"
        refine r_ixt (i := 1) (v := pv) e rfl ?_
        walk_at "sx"
        refine r_ixt (i := 2) (v := .int (b : Int)) e rfl ?_
        walk_at "sx"
        refine r_ixt (i := 3) (v := .int (l : Int)) e rfl ?_
        walk_at "sx"
        refine r_ixt (i := 4) (v := .int (k : Int)) e rfl ?_
        walk_at "sx"
        refine ⟨A, _, p, b, l, k, rfl, rfl, rfl, rfl, hA2, hO1, tp, hp, hb, hl, hrl, fun H3 hA3 f3 => ?_⟩
        walk_at "sx"
        exact hq H3 hA3 (g2.trans f3)
      | @still p k hp hi =>
        obtain ⟨a, pv, rfl, e, tp⟩ := still_at tv2
        refine r_ixt (i := 0) (v := .str "still") e rfl ?_
        walk_at "sx"
        refine r_eq rfl ?_
        walk_at "sx"
        refine r_dec (fun g => by cases g) (fun _ => ?_)
        walk_at "sx"
        refine r_ixt (i := 0) (v := .str "still") e rfl ?_
        walk_at "sx"
        refine r_eq rfl ?_
        walk_at "sx"
        refine r_dec (fun g => by cases g) (fun _ => ?_)
        walk_at "sx"
        refine r_ixt (i := 0) (v := .str "still") e rfl ?_
        walk_at "sx"
        refine r_eq rfl ?_
        walk_at "sx"
        refine r_dec (fun _ => ?_) (fun g => absurd rfl g)
        walk_at "sx"
        refine r_hmeth hA2 (by decide +kernel) ?_
        walk_at "sx"
        refine r_ixt (i := 1) (v := pv) e rfl ?_
        walk_at "sx"
        refine r_ixt (i := 2) (v := .int (k : Int)) e rfl ?_
        walk_at "sx"
        refine ⟨A, _, p, k, rfl, rfl, hA2, hO1, tp, hp, hi, hrl, htl, fun H3 hA3 f3 => ?_⟩
        walk_at "sx"
        exact hq H3 hA3 (g2.trans f3)
      | @brk b w hb =>
        obtain ⟨a, rfl, e⟩ := brk_at tv2
        refine r_ixt (i := 0) (v := .str "break") e rfl ?_
        walk_at "sx"
        refine r_eq rfl ?_
        walk_at "sx"
        refine r_dec (fun g => by cases g) (fun _ => ?_)
        walk_at "sx"
        refine r_ixt (i := 0) (v := .str "break") e rfl ?_
        walk_at "sx"
        refine r_eq rfl ?_
        walk_at "sx"
        refine r_dec (fun g => by cases g) (fun _ => ?_)
        walk_at "sx"
        refine r_ixt (i := 0) (v := .str "break") e rfl ?_
        walk_at "sx"
        refine r_eq rfl ?_
        walk_at "sx"
        refine r_dec (fun g => by cases g) (fun _ => ?_)
        walk_at "sx"
        refine r_hmeth hA2 (by decide +kernel) ?_
        walk_at "sx"
        refine r_ixt (i := 1) (v := .int (b : Int)) e rfl ?_
        walk_at "sx"
        refine r_ixt (i := 2) (v := .int (w : Int)) e rfl ?_
        walk_at "sx"
        refine ⟨A, _, b, w, rfl, rfl, rfl, hA2, hb, ?_⟩
        walk_at "sx"
        have hq : ∀ H', HlAt K H' A (M1.brk b w) → Fr A.foot H H' → _ := hq
        unfold Hl.brk at hq
        cases eb : M1.by_ b w with
        | false =>
          rw [eb] at hq
          simp only [Bool.false_eq_true, if_false] at hq
          walk_at "sx"
          exact hq H2 hA2 g2
        | true =>
          rw [eb] at hq
          simp only [if_true] at hq
          walk_at "sx"
          refine r_main TX.hl hA2 ?_
          refine r_tmeth hA2.tb (by decide +kernel) ?_
          walk_at "sx"
          refine r_ixt (i := 1) (v := .int (b : Int)) e rfl ?_
          walk_at "sx"
          have eL := Tb.leaveR_nat hb
          refine ⟨A.t, M1.t, (b : Int), rfl, rfl, hA2.tb, hO1.t, (fun w T' e => by rw [eL] at e; cases e), fun rs T' er pl H3 hT3 f3 hpl _ => ?_⟩
          rw [eL] at er
          cases er
          have hA3 := hA2.tab f3 hT3
          have e3 := f3.tup _ _ e
          walk_at "sx"
          refine r_breakings TX.hl hA3 ?_
          obtain ⟨vb, evb, tvb⟩ := hA3.br
          refine r_tyL evb ?_
          walk_at "sx"
          refine r_ixt (i := 1) (v := .int (b : Int)) e3 rfl ?_
          walk_at "sx"
          refine r_ixt (i := 2) (v := .int (w : Int)) e3 rfl ?_
          walk_at "sx"
          refine r_newT (by show 2 ≤ 2000; decide) (fun t H4 ht et f4 => ?_)
          have hA4 := hA3.fr0 f4
          walk_at "sx"
          refine r_appLs (d := brokD (b, w)) hA4.br (.tup et (.cons (.int _) (.cons (.int _) .nil))) (by rw [List.length_map]; exact hbl) (fun H5 hl5 f5 => ?_)
          have hA5 := hA4.uBr (r := M1.br ++ [(b, w)]) f5 (by rw [List.map_append]; exact hl5)
          walk_at "sx"
          exact hq H5 hA5 (((g2.trans (f3.mono HlA.foot_t)).trans f4.up).trans (f5.mono (HlA.foot_1 (by simp))))
theorem sc_Lcarried : FnScope ["_law_hall"] ["_law_hall"] (defScope s_Lcarried) := ⟨rfl, rfl, rfl, by decide +kernel, rfl, by decide +kernel, by decide +kernel⟩
theorem ok_Lcarried (TX : Txt K mg) : OkF P w K mg base 6 (He.ga K "_law_carried") ["_law_hall"] (sp_Lcarried15 K) := by
  obtain ⟨⟨fd_h_road, G_h_road, b_h_road⟩, k_h_road⟩ := (ok_h_road TX : OkF P w K mg base _ _ _ _)
  obtain ⟨⟨fd_h_carry, G_h_carry, b_h_carry⟩, k_h_carry⟩ := (ok_h_carry TX : OkF P w K mg base _ _ _ _)
  refine okF TX.f_Lcarried sc_Lcarried (fun _ _ _ _ _ _ us hl => match us, hl with | [_], _ => rfl) (fun vs H Q E h => ?_) (fun cdv A outer s H vs Q E hr h => ?_)
  · obtain ⟨_, rfl, _⟩ := h
    rfl
  · obtain ⟨x, rfl, h⟩ := h
    refine ⟨_, (pss_one (ps_while pOwn (pt_cmpR (k_neD (K := K) rfl hr.units) (pe_meth0 (pv 0) TX.c_Hall TX.m_h_road G_h_road (hr.mono (by decide)) b_h_road .nil pE) (pe_lst pa_nil) (nomark _)) (pss_one (ps_expr (pe_meth (pv 0) TX.c_Hall TX.m_h_carry G_h_carry (hr.mono (by decide)) b_h_carry .nil pE (pa_cons pe_int pa_nil)))))), ?_⟩
    refine r_st (σ' := [some x]) rfl ?_
    try dsimp only [cxOf]
    obtain ⟨A, M, M', n, rfl, hA, O, R, hE, hq⟩ := h
    walk_at "sx"
    refine ⟨fun m σ' H' => ∃ N, σ' = [some (.ref A.p)] ∧ HlAt K H' A N ∧ N.Ok ∧ N.Room (m + 1) ∧ N.evs (turnC m) = some M' ∧ Fr A.foot H H', ⟨n, M, rfl, hA, O, R, hE, Fr.refl⟩, ?_⟩
    rintro m σ' H' ⟨N, rfl, hN, iO, iR, iE, fN⟩
    walk_at "sx"
    refine r_hmeth hN (by decide +kernel) ?_
    walk_at "sx"
    refine ⟨A, N, rfl, hN, fun q1 H1 hq1 hl1 f1 => ?_⟩
    walk_at "sx"
    refine r_newL (Nat.zero_le _) (fun p2 H2 hp2 e2 f2 => ?_)
    refine r_neNil (hl1.fr f2 (fun z => z)).dp (lts_cmp15 _) e2 ?_
    have hN2 := (hN.fr0 f1).fr0 f2
    have fN2 : Fr A.foot H H2 := (fN.trans f1.up).trans f2.up
    walk_at "sx"
    cases m with
    | zero =>
      obtain ⟨N1, h1, h2⟩ := evs_cons (show N.evs (.road [] :: []) = some M' from iE)
      obtain ⟨er, e1⟩ := ev_if h1
      cases h2
      subst e1
      refine r_decN (fun g => absurd (by rw [er]; rfl) g) (fun _ => ?_)
      walk_at "sx"
      exact hq H2 hN2 fN2
    | succ m =>
      obtain ⟨N1, h1, h2⟩ := evs_cons (show N.evs (.carry 0 :: turnC m) = some M' from iE)
      have hi := (ev_carry h1).2.1
      refine r_decN (fun _ => ?_) (fun g => absurd (List.map_eq_nil_iff.mp g) (fun z => by rw [z] at hi; exact absurd hi (Nat.not_lt_zero _)))
      refine ⟨fun σ2 H2 => ∃ m', m' < m + 1 ∧ ∃ N', σ2 = [some (.ref A.p)] ∧ HlAt K H2 A N' ∧ N'.Ok ∧ N'.Room (m' + 1) ∧ N'.evs (turnC m') = some M' ∧ Fr A.foot H H2, fun σ2 H2 z => z, ?_⟩
      walk_at "sx"
      refine r_hmeth hN2 (by decide +kernel) ?_
      walk_at "sx"
      refine ⟨A, _, 0, rfl, rfl, hN2, iO, iR.few, fun z => absurd (carry_lt h1) z, fun _ H3 hA3 f3 => ?_⟩
      have hA3 := carry_yes h1 hA3
      walk_at "sx"
      exact ⟨m, Nat.lt_succ_self m, N1, rfl, hA3, ev_ok iO h1, ev_room iO iR h1, h2, fN2.trans f3⟩
theorem sc_h_seek : FnScope ["self", "agent"] ["self", "agent"] (defScope s_h_seek) := ⟨rfl, rfl, rfl, by decide +kernel, rfl, by decide +kernel, by decide +kernel⟩
theorem ok_h_seek (TX : Txt K mg) : OkF P w K mg base 4 (He.ma K (He.ga K "Hall") "seek") ["self", "agent"] (sp_h_seek K) := by
  obtain ⟨⟨fd_t_waits, G_t_waits, b_t_waits⟩, k_t_waits⟩ := (ok_t_waits TX : OkF P w K mg base _ _ _ _)
  obtain ⟨⟨fd_h_own, G_h_own, b_h_own⟩, k_h_own⟩ := (ok_h_own TX : OkF P w K mg base _ _ _ _)
  refine okF TX.f_h_seek sc_h_seek (fun _ _ _ _ _ _ us hl => match us, hl with | [_, _], _ => rfl) (fun vs H Q E h => ?_) (fun cdv A outer s H vs Q E hr h => ?_)
  · obtain ⟨_, _, rfl, _⟩ := h
    rfl
  · obtain ⟨x, y, rfl, h⟩ := h
    refine ⟨_, (pss_one (ps_expr (pe_bm PySem.F.plainAttrs_list PySem.F.slot_list_append PySem.F.type_list_append mt_append (k_fld (K := K) rfl (pv 0) rfl) (pa_cons (pe_tup (pa_cons pe_str (pa_cons (pe_tup (pa_cons (pe_meth (pv 0) TX.c_Hall TX.m_h_own G_h_own (hr.mono (by decide)) b_h_own .nil pE (pa_cons (pv 1) pa_nil)) pa_nil)) (pa_cons (pe_meth (k_fld (K := K) rfl (pv 0) rfl) TX.c_Table TX.m_t_waits G_t_waits (hr.mono (by decide)) b_t_waits .nil pE (pa_cons (pv 1) pa_nil)) pa_nil)))) pa_nil)))), ?_⟩
    refine r_st (σ' := [some x, some y]) rfl ?_
    try dsimp only [cxOf]
    obtain ⟨A, M, a, rfl, rfl, hA, hO, ha, hw, hl, hq⟩ := h
    cases ew : M.t.wa a with
    | none => exact absurd ew hw
    | some l =>
      walk_at "sx"
      refine r_letters TX.hl hA ?_
      obtain ⟨ve, eve, tve⟩ := hA.le
      refine r_tyL eve ?_
      walk_at "sx"
      refine r_hmeth hA (by decide +kernel) ?_
      walk_at "sx"
      refine ⟨A, M, a, rfl, rfl, hA, hO, ha, fun v H1 tv f1 => ?_⟩
      walk_at "sx"
      refine r_newT (by show 1 ≤ 2000; decide) (fun t H2 ht et f2 => ?_)
      have hA2 := (hA.fr0 f1).fr0 f2
      walk_at "sx"
      refine r_main TX.hl hA2 ?_
      refine r_tmeth hA2.tb (by decide +kernel) ?_
      walk_at "sx"
      refine ⟨A.t, M.t, (a : Int), rfl, rfl, hA2.tb, fun _ => ?_, fun z => absurd (Tb.isA_of ha) z⟩
      rw [Int.toNat_natCast, ew]
      walk_at "sx"
      refine r_newT (by show 3 ≤ 2000; decide) (fun t3 H3 ht3 et3 f3 => ?_)
      walk_at "sx"
      have tp : Td H3 (.ref t) (pathD [M.own a]) := .tup (f3.tup _ _ et) (.cons ((tv.fr f2).fr f3) .nil)
      rw [Hl.seek_some ew] at hq
      refine h_lay (x := .who [M.own a] l) (hA2.fr0 f3) (.tup et3 (.cons (.str _) (.cons tp (.cons (.int _) .nil)))) hl (fun H4 hA4 f4 => ?_)
      walk_at "sx"
      exact hq H4 hA4 (((f1.trans f2).trans f3).up.trans f4)
theorem sc_h_again : FnScope ["self", "agent"] ["self"] (defScope s_h_again) := ⟨rfl, rfl, rfl, by decide +kernel, rfl, by decide +kernel, by decide +kernel⟩
theorem ok_h_again (TX : Txt K mg) : OkF P w K mg base 5 (He.ma K (He.ga K "Hall") "again") ["self"] (sp_h_again K) := by
  obtain ⟨⟨fd_t_agents, G_t_agents, b_t_agents⟩, k_t_agents⟩ := (ok_t_agents TX : OkF P w K mg base _ _ _ _)
  obtain ⟨⟨fd_h_is_down, G_h_is_down, b_h_is_down⟩, k_h_is_down⟩ := (ok_h_is_down TX : OkF P w K mg base _ _ _ _)
  obtain ⟨⟨fd_t_waits, G_t_waits, b_t_waits⟩, k_t_waits⟩ := (ok_t_waits TX : OkF P w K mg base _ _ _ _)
  obtain ⟨⟨fd_h_seek, G_h_seek, b_h_seek⟩, k_h_seek⟩ := (ok_h_seek TX : OkF P w K mg base _ _ _ _)
  refine okF TX.f_h_again sc_h_again (fun _ _ _ _ _ _ us hl => match us, hl with | [_], _ => rfl) (fun vs H Q E h => ?_) (fun cdv A outer s H vs Q E hr h => ?_)
  · obtain ⟨_, rfl, _⟩ := h
    rfl
  · obtain ⟨x, rfl, h⟩ := h
    refine ⟨_, (pss_one (ps_for pOwn rfl (pi_range1 (by rfl) TX.z_range (pa_cons (pe_meth0 (k_fld (K := K) rfl (pv 0) rfl) TX.c_Table TX.m_t_agents G_t_agents (hr.mono (by decide)) b_t_agents .nil pE) pa_nil)) (pg_name (i := 1) sc_h_again.nd rfl (Or.inl rfl)) (pss_one (ps_if (PW.pt (pw_and (pt_cmpR (op_notN) (pe_meth (k_fld (K := K) rfl (pv 0) rfl) TX.c_Table TX.m_t_waits G_t_waits (hr.mono (by decide)) b_t_waits .nil pE (pa_cons (pv 1) pa_nil)) pe_non (nomark _)) (pw_and1 (pt_not (pt_val (pe_meth (pv 0) TX.c_Hall TX.m_h_is_down G_h_is_down (hr.mono (by decide)) b_h_is_down .nil pE (pa_cons (pv 1) pa_nil))))))) (pss_one (ps_expr (pe_meth (pv 0) TX.c_Hall TX.m_h_seek G_h_seek (hr.mono (by decide)) b_h_seek .nil pE (pa_cons (pv 1) pa_nil)))) pss_nil)))), ?_⟩
    refine r_st (σ' := [some x, none]) rfl ?_
    try dsimp only [cxOf]
    obtain ⟨A, M, rfl, hA, hO, hl, hq⟩ := h
    walk_at "sx"
    refine r_forRx ?_
    walk_at "sx"
    refine r_main TX.hl hA ?_
    refine r_tmeth hA.tb (by decide +kernel) ?_
    walk_at "sx"
    refine ⟨A.t, M.t, rfl, hA.tb, ?_⟩
    have hn8 := hO.t.sz.n8
    refine r_rngOn (n := M.t.n) (by omega) (fun i σ' H' => ∃ x1, σ' = [some (.ref A.p), x1] ∧ HlAt K H' A (M.upTo i) ∧ Fr A.foot H H' ∧ (M.upTo i).rd.length ≤ M.rd.length + i) ⟨_, rfl, hA, Fr.refl, Nat.le_refl _⟩ (fun i σ' H1 hi pp => ?_) (fun σ' H1 pp => ?_)
    · obtain ⟨x1, rfl, hA1, f1, hl1⟩ := pp
      obtain ⟨et, ed⟩ := Hl.upTo_same (M := M) i
      have eU : M.upTo (i + 1) = if M.t.wa i ≠ none ∧ M.isDown i = false then (M.upTo i).seek i else M.upTo i := rfl
      have eD : (M.upTo i).isDown i = M.isDown i := by unfold Hl.isDown; rw [ed]
      have ha : i < (M.upTo i).t.n := by rw [et]; exact hi
      walk_at "sx"
      refine r_main TX.hl hA1 ?_
      refine r_tmeth hA1.tb (by decide +kernel) ?_
      walk_at "sx"
      refine ⟨A.t, _, (i : Int), rfl, rfl, hA1.tb, fun _ => ?_, fun z => absurd (Tb.isA_of ha) z⟩
      rw [Int.toNat_natCast, et]
      walk_at "sx"
      refine ⟨rfl, ?_⟩
      walk_at "sx"
      cases ew : M.t.wa i with
      | none =>
        rw [if_neg (fun z => z.1 ew)] at eU
        refine r_decN (fun g => absurd rfl g) (fun _ => ?_)
        walk_at "sx"
        exact ⟨_, rfl, by rw [eU]; exact hA1, f1, by rw [eU]; omega⟩
      | some l =>
        refine r_decN (fun _ => ?_) (fun g => by cases g)
        walk_at "sx"
        refine r_hmeth hA1 (by decide +kernel) ?_
        walk_at "sx"
        refine ⟨A, _, i, rfl, rfl, hA1, hO.upTo i, ?_⟩
        rw [eD]
        walk_at "sx"
        cases e2 : M.isDown i with
        | true =>
          rw [if_neg (fun z => by rw [e2] at z; cases z.2)] at eU
          walk_at "sx"
          exact ⟨_, rfl, by rw [eU]; exact hA1, f1, by rw [eU]; omega⟩
        | false =>
          rw [if_pos ⟨by rw [ew]; simp, e2⟩] at eU
          walk_at "sx"
          refine r_hmeth hA1 (by decide +kernel) ?_
          walk_at "sx"
          refine ⟨A, _, i, rfl, rfl, hA1, hO.upTo i, ha, by rw [et, ew]; simp, by omega, fun H2 hA2 f2 => ?_⟩
          walk_at "sx"
          refine ⟨_, rfl, by rw [eU]; exact hA2, f1.trans f2, ?_⟩
          rw [eU, Hl.seek_some (by rw [et]; exact ew)]
          show ((M.upTo i).rd ++ [_]).length ≤ _
          rw [List.length_append]
          show _ + 1 ≤ _
          omega
    · obtain ⟨x1, rfl, hA1, f1, _⟩ := pp
      exact hq H1 hA1 f1
theorem sc_t_need_free_to : FnScope ["self", "agent"] ["self", "agent"] (defScope s_t_need_free_to) := ⟨rfl, rfl, rfl, by decide +kernel, rfl, by decide +kernel, by decide +kernel⟩
theorem ok_t_need_free_to (TX : Txt K mg) : OkF P w K mg base 1 (He.ma K (He.ga K "Table") "need_free_to") ["self", "agent"] (sp_t_need_free_to K) := by
  refine okF TX.f_t_need_free_to sc_t_need_free_to (fun _ _ _ _ _ _ us hl => match us, hl with | [_, _], _ => rfl) (fun vs H Q E h => ?_) (fun cdv A outer s H vs Q E hr h => ?_)
  · obtain ⟨_, _, rfl, _⟩ := h
    rfl
  · obtain ⟨x, y, rfl, h⟩ := h
    refine ⟨_, (pss_one (ps_if (pt_cmpR (op_notN) (pe_ix (k_ixl (K := K) rfl) (k_fld (K := K) rfl (pv 0) rfl) (pv 1) (fun _ _ => rfl)) pe_non (nomark _)) (pss_one (ps_raise rfl (takes_of rfl rfl rfl rfl) (pmk_own PySem.F.excBase_ValueError TX.e_Waits.ex TX.e_Waits.g TX.e_Waits.k (raises_own TX.e_Waits.b TX.e_Waits.t) rfl))) pss_nil)), ?_⟩
    refine r_st (σ' := [some x, some y]) rfl ?_
    try dsimp only [cxOf]
    obtain ⟨A, T, a, rfl, rfl, hT, ha, h1, h2⟩ := h
    walk_at "sx"
    refine r_wants TX.tb hT ?_
    walk_at "sx"
    refine r_ixWan hT ha ?_
    walk_at "sx"
    refine ⟨rfl, ?_⟩
    walk_at "sx"
    refine r_decN (fun g => ?_) (fun g => ?_)
    · exact h2 (fun z => g ((oV_non _).mpr z))
    · walk_at "sx"
      exact h1 ((oV_non _).mp g)
theorem sc_t_need_both : FnScope ["self", "agent", "lock"] ["self", "agent", "lock"] (defScope s_t_need_both) := ⟨rfl, rfl, rfl, by decide +kernel, rfl, by decide +kernel, by decide +kernel⟩
theorem ok_t_need_both (TX : Txt K mg) : OkF P w K mg base 2 (He.ma K (He.ga K "Table") "need_both") ["self", "agent", "lock"] (sp_t_need_both K) := by
  obtain ⟨⟨fd_t_need_lock, G_t_need_lock, b_t_need_lock⟩, k_t_need_lock⟩ := (ok_t_need_lock TX : OkF P w K mg base _ _ _ _)
  obtain ⟨⟨fd_t_need_agent, G_t_need_agent, b_t_need_agent⟩, k_t_need_agent⟩ := (ok_t_need_agent TX : OkF P w K mg base _ _ _ _)
  refine okF TX.f_t_need_both sc_t_need_both (fun _ _ _ _ _ _ us hl => match us, hl with | [_, _, _], _ => rfl) (fun vs H Q E h => ?_) (fun cdv A outer s H vs Q E hr h => ?_)
  · obtain ⟨_, _, _, rfl, _⟩ := h
    rfl
  · obtain ⟨x, y, z, rfl, h⟩ := h
    refine ⟨_, (pss_cons (ps_expr (pe_meth (pv 0) TX.c_Table TX.m_t_need_agent G_t_need_agent (hr.mono (by decide)) b_t_need_agent .nil pE (pa_cons (pv 1) pa_nil))) (pss_one (ps_expr (pe_meth (pv 0) TX.c_Table TX.m_t_need_lock G_t_need_lock (hr.mono (by decide)) b_t_need_lock .nil pE (pa_cons (pv 2) pa_nil))))), ?_⟩
    refine r_st (σ' := [some x, some y, some z]) rfl ?_
    try dsimp only [cxOf]
    obtain ⟨A, T, a, l, rfl, rfl, rfl, hT, h1, h2⟩ := h
    walk_at "sx"
    refine r_tmeth hT (by decide +kernel) ?_
    walk_at "sx"
    refine ⟨A, T, a, rfl, rfl, hT, fun ga => ?_, fun ga => h2 _ (by unfold Tb.fault; rw [if_neg ga])⟩
    walk_at "sx"
    refine r_tmeth hT (by decide +kernel) ?_
    walk_at "sx"
    refine ⟨A, T, l, rfl, rfl, hT, fun gl => ?_, fun gl => h2 _ (by unfold Tb.fault; rw [if_pos ga, if_neg gl])⟩
    exact h1 (by unfold Tb.fault; rw [if_pos ga, if_pos gl])
theorem sc_t_give : FnScope ["self", "agent", "lock"] ["self", "agent", "lock"] (defScope s_t_give) := ⟨rfl, rfl, rfl, by decide +kernel, rfl, by decide +kernel, by decide +kernel⟩
theorem ok_t_give (TX : Txt K mg) : OkF P w K mg base 3 (He.ma K (He.ga K "Table") "give") ["self", "agent", "lock"] (sp_t_give K) := by
  obtain ⟨⟨fd_t_pass_on, G_t_pass_on, b_t_pass_on⟩, k_t_pass_on⟩ := (ok_t_pass_on TX : OkF P w K mg base _ _ _ _)
  obtain ⟨⟨fd_t_need_free_to, G_t_need_free_to, b_t_need_free_to⟩, k_t_need_free_to⟩ := (ok_t_need_free_to TX : OkF P w K mg base _ _ _ _)
  obtain ⟨⟨fd_t_need_both, G_t_need_both, b_t_need_both⟩, k_t_need_both⟩ := (ok_t_need_both TX : OkF P w K mg base _ _ _ _)
  refine okF TX.f_t_give sc_t_give (fun _ _ _ _ _ _ us hl => match us, hl with | [_, _, _], _ => rfl) (fun vs H Q E h => ?_) (fun cdv A outer s H vs Q E hr h => ?_)
  · obtain ⟨_, _, _, rfl, _⟩ := h
    rfl
  · obtain ⟨x, y, z, rfl, h⟩ := h
    refine ⟨_, (pss_cons (ps_expr (pe_meth (pv 0) TX.c_Table TX.m_t_need_both G_t_need_both (hr.mono (by decide)) b_t_need_both .nil pE (pa_cons (pv 1) (pa_cons (pv 2) pa_nil)))) (pss_cons (ps_expr (pe_meth (pv 0) TX.c_Table TX.m_t_need_free_to G_t_need_free_to (hr.mono (by decide)) b_t_need_free_to .nil pE (pa_cons (pv 1) pa_nil))) (pss_cons (ps_if (pt_cmpR (op_ne) (pe_ix (k_ixl (K := K) rfl) (k_fld (K := K) rfl (pv 0) rfl) (pv 2) (fun _ _ => rfl)) (pv 1) (nomark _)) (pss_one (ps_raise rfl (takes_of rfl rfl rfl rfl) (pmk_own PySem.F.excBase_ValueError TX.e_NotHeld.ex TX.e_NotHeld.g TX.e_NotHeld.k (raises_own TX.e_NotHeld.b TX.e_NotHeld.t) rfl))) pss_nil) (pss_one (ps_ret (pe_meth (pv 0) TX.c_Table TX.m_t_pass_on G_t_pass_on (hr.mono (by decide)) b_t_pass_on .nil pE (pa_cons (pv 2) pa_nil))))))), ?_⟩
    refine r_st (σ' := [some x, some y, some z]) rfl ?_
    try dsimp only [cxOf]
    obtain ⟨A, T, a, l, rfl, rfl, rfl, hT, hW, he, ho⟩ := h
    walk_at "sx"
    refine r_tmeth hT (by decide +kernel) ?_
    walk_at "sx"
    refine ⟨A, T, a, l, rfl, rfl, rfl, hT, fun g => ?_, fun w g => he w T (Tb.giveR_err g)⟩
    obtain ⟨a, l, rfl, rfl, ha, hl⟩ := Tb.fault_none g
    have eR := Tb.giveR_nat ha hl
    walk_at "sx"
    refine r_tmeth hT (by decide +kernel) ?_
    walk_at "sx"
    refine ⟨A, T, a, rfl, rfl, hT, ha, fun gw => ?_, fun gw => he _ T (by rw [eR, if_pos gw])⟩
    rw [if_neg (fun z => z gw)] at eR
    walk_at "sx"
    refine r_owners TX.tb hT ?_
    walk_at "sx"
    refine r_ixOwn hT hl ?_
    walk_at "sx"
    refine r_ne (scal_oo _ _) ?_
    walk_at "sx"
    refine r_decN (fun go => ?_) (fun go => ?_)
    · exact he _ T (by rw [eR, if_pos (fun z => go ((oV_int _ _).mpr z))])
    rw [if_neg (fun z => z ((oV_int _ _).mp go))] at eR
    walk_at "sx"
    refine r_tmeth hT (by decide +kernel) ?_
    walk_at "sx"
    exact ⟨A, T, l, rfl, rfl, hT, hl, fun x hx => (hW.lw l x hx).1, fun H1 hT1 f1 => ho _ _ eR H1 hT1 f1⟩
theorem sc_h_need_up : FnScope ["self", "agent", "lock"] ["self", "agent", "lock"] (defScope s_h_need_up) := ⟨rfl, rfl, rfl, by decide +kernel, rfl, by decide +kernel, by decide +kernel⟩
theorem ok_h_need_up (TX : Txt K mg) : OkF P w K mg base 3 (He.ma K (He.ga K "Hall") "need_up") ["self", "agent", "lock"] (sp_h_need_up K) := by
  obtain ⟨⟨fd_h_is_down, G_h_is_down, b_h_is_down⟩, k_h_is_down⟩ := (ok_h_is_down TX : OkF P w K mg base _ _ _ _)
  obtain ⟨⟨fd_t_need_both, G_t_need_both, b_t_need_both⟩, k_t_need_both⟩ := (ok_t_need_both TX : OkF P w K mg base _ _ _ _)
  refine okF TX.f_h_need_up sc_h_need_up (fun _ _ _ _ _ _ us hl => match us, hl with | [_, _, _], _ => rfl) (fun vs H Q E h => ?_) (fun cdv A outer s H vs Q E hr h => ?_)
  · obtain ⟨_, _, _, rfl, _⟩ := h
    rfl
  · obtain ⟨x, y, z, rfl, h⟩ := h
    refine ⟨_, (pss_cons (ps_expr (pe_meth (k_fld (K := K) rfl (pv 0) rfl) TX.c_Table TX.m_t_need_both G_t_need_both (hr.mono (by decide)) b_t_need_both .nil pE (pa_cons (pv 1) (pa_cons (pv 2) pa_nil)))) (pss_one (ps_if (PW.pt (pw_or (pt_val (pe_meth (pv 0) TX.c_Hall TX.m_h_is_down G_h_is_down (hr.mono (by decide)) b_h_is_down .nil pE (pa_cons (pv 1) pa_nil))) (pw_or1 (pt_val (pe_meth (pv 0) TX.c_Hall TX.m_h_is_down G_h_is_down (hr.mono (by decide)) b_h_is_down .nil pE (pa_cons (pv 2) pa_nil)))))) (pss_one (ps_raise rfl (takes_of rfl rfl rfl rfl) (pmk_own PySem.F.excBase_ValueError TX.e_Stopped.ex TX.e_Stopped.g TX.e_Stopped.k (raises_own TX.e_Stopped.b TX.e_Stopped.t) rfl))) pss_nil))), ?_⟩
    refine r_st (σ' := [some x, some y, some z]) rfl ?_
    try dsimp only [cxOf]
    obtain ⟨A, M, a, l, rfl, rfl, rfl, hA, hO, hw, hs, hq⟩ := h
    walk_at "sx"
    refine r_main TX.hl hA ?_
    refine r_tmeth hA.tb (by decide +kernel) ?_
    walk_at "sx"
    refine ⟨A.t, M.t, a, l, rfl, rfl, rfl, hA.tb, fun hf => ?_, fun w e => hw w e⟩
    obtain ⟨a, l, rfl, rfl, ha, hl⟩ := Tb.fault_none hf
    have hs := hs hf
    have hq := hq hf
    rw [Int.toNat_natCast, Int.toNat_natCast] at hs hq
    walk_at "sx"
    refine r_hmeth hA (by decide +kernel) ?_
    walk_at "sx"
    refine ⟨A, M, a, rfl, rfl, hA, hO, ?_⟩
    walk_at "sx"
    cases e1 : M.isDown a with
    | true =>
      walk_at "sx"
      exact hs (.inl e1)
    | false =>
      walk_at "sx"
      refine r_hmeth hA (by decide +kernel) ?_
      walk_at "sx"
      refine ⟨A, M, l, rfl, rfl, hA, hO, ?_⟩
      walk_at "sx"
      cases e2 : M.isDown l with
      | true =>
        walk_at "sx"
        exact hs (.inr e2)
      | false =>
        walk_at "sx"
        exact hq (fun z => z.elim (fun z => by rw [e1] at z; cases z) (fun z => by rw [e2] at z; cases z))
theorem sc_h_give : FnScope ["self", "agent", "lock"] ["self", "agent", "lock"] (defScope s_h_give) := ⟨rfl, rfl, rfl, by decide +kernel, rfl, by decide +kernel, by decide +kernel⟩
theorem ok_h_give (TX : Txt K mg) : OkF P w K mg base 4 (He.ma K (He.ga K "Hall") "give") ["self", "agent", "lock"] (sp_h_give K) := by
  obtain ⟨⟨fd_t_give, G_t_give, b_t_give⟩, k_t_give⟩ := (ok_t_give TX : OkF P w K mg base _ _ _ _)
  obtain ⟨⟨fd_h_need_up, G_h_need_up, b_h_need_up⟩, k_h_need_up⟩ := (ok_h_need_up TX : OkF P w K mg base _ _ _ _)
  refine okF TX.f_h_give sc_h_give (fun _ _ _ _ _ _ us hl => match us, hl with | [_, _, _], _ => rfl) (fun vs H Q E h => ?_) (fun cdv A outer s H vs Q E hr h => ?_)
  · obtain ⟨_, _, _, rfl, _⟩ := h
    rfl
  · obtain ⟨x, y, z, rfl, h⟩ := h
    refine ⟨_, (pss_cons (ps_expr (pe_meth (pv 0) TX.c_Hall TX.m_h_need_up G_h_need_up (hr.mono (by decide)) b_h_need_up .nil pE (pa_cons (pv 1) (pa_cons (pv 2) pa_nil)))) (pss_one (ps_ret (pe_meth (k_fld (K := K) rfl (pv 0) rfl) TX.c_Table TX.m_t_give G_t_give (hr.mono (by decide)) b_t_give .nil pE (pa_cons (pv 1) (pa_cons (pv 2) pa_nil)))))), ?_⟩
    refine r_st (σ' := [some x, some y, some z]) rfl ?_
    try dsimp only [cxOf]
    obtain ⟨A, M, a, l, rfl, rfl, rfl, hA, hO, hw, hq⟩ := h
    walk_at "sx"
    refine r_hmeth hA (by decide +kernel) ?_
    walk_at "sx"
    unfold Hl.giveR at hw hq
    refine ⟨A, M, a, l, rfl, rfl, rfl, hA, hO, fun w e => ?_, fun e hd => ?_, fun e hd => ?_⟩
    · rw [e] at hw
      exact hw w rfl
    · rw [e] at hw
      simp only [if_pos hd] at hw
      exact hw _ rfl
    rw [e] at hw hq
    simp only [if_neg hd] at hw hq
    walk_at "sx"
    refine r_main TX.hl hA ?_
    refine r_tmeth hA.tb (by decide +kernel) ?_
    walk_at "sx"
    refine ⟨A.t, M.t, a, l, rfl, rfl, rfl, hA.tb, hO.t, fun w T' eR => ?_, fun b T' eR H1 hT1 f1 => ?_⟩
    · rw [eR] at hw
      exact hw w rfl
    rw [eR] at hq
    exact hq (.o b) H1 rfl (hA.tab f1 hT1) (f1.mono HlA.foot_t)
theorem sc_t_ask : FnScope ["self", "agent", "lock"] ["self", "agent", "lock"] (defScope s_t_ask) := ⟨rfl, rfl, rfl, by decide +kernel, rfl, by decide +kernel, by decide +kernel⟩
theorem ok_t_ask (TX : Txt K mg) : OkF P w K mg base 3 (He.ma K (He.ga K "Table") "ask") ["self", "agent", "lock"] (sp_t_ask K) := by
  obtain ⟨⟨fd_t_take, G_t_take, b_t_take⟩, k_t_take⟩ := (ok_t_take TX : OkF P w K mg base _ _ _ _)
  obtain ⟨⟨fd_t_need_free_to, G_t_need_free_to, b_t_need_free_to⟩, k_t_need_free_to⟩ := (ok_t_need_free_to TX : OkF P w K mg base _ _ _ _)
  obtain ⟨⟨fd_t_need_both, G_t_need_both, b_t_need_both⟩, k_t_need_both⟩ := (ok_t_need_both TX : OkF P w K mg base _ _ _ _)
  refine okF TX.f_t_ask sc_t_ask (fun _ _ _ _ _ _ us hl => match us, hl with | [_, _, _], _ => rfl) (fun vs H Q E h => ?_) (fun cdv A outer s H vs Q E hr h => ?_)
  · obtain ⟨_, _, _, rfl, _⟩ := h
    rfl
  · obtain ⟨x, y, z, rfl, h⟩ := h
    refine ⟨_, (pss_cons (ps_expr (pe_meth (pv 0) TX.c_Table TX.m_t_need_both G_t_need_both (hr.mono (by decide)) b_t_need_both .nil pE (pa_cons (pv 1) (pa_cons (pv 2) pa_nil)))) (pss_cons (ps_expr (pe_meth (pv 0) TX.c_Table TX.m_t_need_free_to G_t_need_free_to (hr.mono (by decide)) b_t_need_free_to .nil pE (pa_cons (pv 1) pa_nil))) (pss_cons (ps_if (pt_cmpR (op_eq) (pe_ix (k_ixl (K := K) rfl) (k_fld (K := K) rfl (pv 0) rfl) (pv 2) (fun _ _ => rfl)) (pv 1) (nomark _)) (pss_one (ps_raise rfl (takes_of rfl rfl rfl rfl) (pmk_own PySem.F.excBase_ValueError TX.e_Holds.ex TX.e_Holds.g TX.e_Holds.k (raises_own TX.e_Holds.b TX.e_Holds.t) rfl))) pss_nil) (pss_cons (ps_if (pt_cmpR (op_isN) (pe_ix (k_ixl (K := K) rfl) (k_fld (K := K) rfl (pv 0) rfl) (pv 2) (fun _ _ => rfl)) pe_non (nomark _)) (pss_cons (ps_expr (pe_meth (pv 0) TX.c_Table TX.m_t_take G_t_take (hr.mono (by decide)) b_t_take .nil pE (pa_cons (pv 1) (pa_cons (pv 2) pa_nil)))) (pss_one (ps_ret pe_bl))) pss_nil) (pss_cons (ps_expr (pe_bm PySem.F.plainAttrs_list PySem.F.slot_list_append PySem.F.type_list_append mt_append (pe_ix (k_ixl (K := K) rfl) (k_fld (K := K) rfl (pv 0) rfl) (pv 2) (fun _ _ => rfl)) (pa_cons (pv 1) pa_nil))) (pss_cons (ps_asg (pv 2) (pg_sub (k_fld (K := K) rfl (pv 0) rfl) (pv 1) set_list)) (pss_cons (ps_asg (pe_op op_add (pe_ix (k_ixl (K := K) rfl) (k_fld (K := K) rfl (pv 0) rfl) (pv 1) (fun _ _ => rfl)) pe_int) (pg_sub (k_fld (K := K) rfl (pv 0) rfl) (pv 1) set_list)) (pss_one (ps_ret pe_bl))))))))), ?_⟩
    refine r_st (σ' := [some x, some y, some z]) rfl ?_
    try dsimp only [cxOf]
    obtain ⟨A, T, a, l, rfl, rfl, rfl, hT, hW, he, ho⟩ := h
    walk_at "sx"
    refine r_tmeth hT (by decide +kernel) ?_
    walk_at "sx"
    refine ⟨A, T, a, l, rfl, rfl, rfl, hT, fun g => ?_, fun w g => he w T (Tb.askR_err g)⟩
    obtain ⟨a, l, rfl, rfl, ha, hl⟩ := Tb.fault_none g
    have eR := Tb.askR_nat ha hl
    walk_at "sx"
    refine r_tmeth hT (by decide +kernel) ?_
    walk_at "sx"
    refine ⟨A, T, a, rfl, rfl, hT, ha, fun gw => ?_, fun gw => he _ T (by rw [eR, if_pos gw])⟩
    rw [if_neg (fun z => z gw)] at eR
    walk_at "sx"
    refine r_owners TX.tb hT ?_
    walk_at "sx"
    refine r_ixOwn hT hl ?_
    walk_at "sx"
    refine r_eq (scal_oo _ _) ?_
    walk_at "sx"
    refine r_dec (fun go => ?_) (fun go => ?_)
    · exact he _ T (by rw [eR, if_pos ((oV_int _ _).mp go)])
    rw [if_neg (fun z => go ((oV_int _ _).mpr z))] at eR
    walk_at "sx"
    refine r_owners TX.tb hT ?_
    walk_at "sx"
    refine r_ixOwn hT hl ?_
    walk_at "sx"
    refine ⟨rfl, ?_⟩
    walk_at "sx"
    refine r_dec (fun gn => ?_) (fun gn => ?_)
    · rw [if_pos ((oV_non _).mp gn)] at eR
      walk_at "sx"
      refine r_tmeth hT (by decide +kernel) ?_
      walk_at "sx"
      refine ⟨A, T, a, l, rfl, rfl, rfl, hT, hl, fun H1 hT1 f1 => ?_⟩
      walk_at "sx"
      exact ho _ _ eR H1 hT1 f1
    rw [if_neg (fun z => gn ((oV_non _).mpr z))] at eR
    walk_at "sx"
    refine r_lines TX.tb hT ?_
    walk_at "sx"
    refine r_ixLin hT hl (fun b eb hb => r_tyL hb ?_)
    walk_at "sx"
    refine r_appLine hT (hW.len l) eb (fun H1 hT1 f1 => ?_)
    walk_at "sx"
    refine r_wants TX.tb hT1 ?_
    walk_at "sx"
    refine r_setWan hT1 ha (some l) (fun H2 hT2 f2 => ?_)
    have ha2 : a < ({ (T.line l (T.ln l ++ [a])) with wan := T.wan.set a (some l) } : Tb).n := by show a < (T.wan.set a (some l)).length; rw [List.length_set]; exact ha
    walk_at "sx"
    refine r_rounds TX.tb hT2 ?_
    walk_at "sx"
    refine r_ixRou hT2 ha2 ?_
    walk_at "sx"
    refine r_rounds TX.tb hT2 ?_
    walk_at "sx"
    refine r_setRou hT2 ha2 (T.ro a + 1) (fun H3 hT3 f3 => ?_)
    walk_at "sx"
    exact ho _ _ eR H3 hT3 ((f1.trans f2).trans f3)
theorem sc_h_ask : FnScope ["self", "agent", "lock"] ["self", "agent", "lock"] (defScope s_h_ask) := ⟨rfl, rfl, rfl, by decide +kernel, rfl, by decide +kernel, by decide +kernel⟩
theorem ok_h_ask (TX : Txt K mg) : OkF P w K mg base 5 (He.ma K (He.ga K "Hall") "ask") ["self", "agent", "lock"] (sp_h_ask K) := by
  obtain ⟨⟨fd_h_seek, G_h_seek, b_h_seek⟩, k_h_seek⟩ := (ok_h_seek TX : OkF P w K mg base _ _ _ _)
  obtain ⟨⟨fd_t_ask, G_t_ask, b_t_ask⟩, k_t_ask⟩ := (ok_t_ask TX : OkF P w K mg base _ _ _ _)
  obtain ⟨⟨fd_h_need_up, G_h_need_up, b_h_need_up⟩, k_h_need_up⟩ := (ok_h_need_up TX : OkF P w K mg base _ _ _ _)
  refine okF TX.f_h_ask sc_h_ask (fun _ _ _ _ _ _ us hl => match us, hl with | [_, _, _], _ => rfl) (fun vs H Q E h => ?_) (fun cdv A outer s H vs Q E hr h => ?_)
  · obtain ⟨_, _, _, rfl, _⟩ := h
    rfl
  · obtain ⟨x, y, z, rfl, h⟩ := h
    refine ⟨_, (pss_cons (ps_expr (pe_meth (pv 0) TX.c_Hall TX.m_h_need_up G_h_need_up (hr.mono (by decide)) b_h_need_up .nil pE (pa_cons (pv 1) (pa_cons (pv 2) pa_nil)))) (pss_cons (ps_if (pt_val (pe_meth (k_fld (K := K) rfl (pv 0) rfl) TX.c_Table TX.m_t_ask G_t_ask (hr.mono (by decide)) b_t_ask .nil pE (pa_cons (pv 1) (pa_cons (pv 2) pa_nil)))) (pss_one (ps_ret pe_bl)) pss_nil) (pss_cons (ps_expr (pe_meth (pv 0) TX.c_Hall TX.m_h_seek G_h_seek (hr.mono (by decide)) b_h_seek .nil pE (pa_cons (pv 1) pa_nil))) (pss_one (ps_ret pe_bl))))), ?_⟩
    refine r_st (σ' := [some x, some y, some z]) rfl ?_
    try dsimp only [cxOf]
    obtain ⟨A, M, a, l, rfl, rfl, rfl, hA, hO, hl, hw, hq⟩ := h
    walk_at "sx"
    refine r_hmeth hA (by decide +kernel) ?_
    walk_at "sx"
    unfold Hl.askR at hw hq
    refine ⟨A, M, a, l, rfl, rfl, rfl, hA, hO, fun w e => ?_, fun e hd => ?_, fun e hd => ?_⟩
    · rw [e] at hw
      exact hw w rfl
    · rw [e] at hw
      simp only [if_pos hd] at hw
      exact hw _ rfl
    rw [e] at hw hq
    simp only [if_neg hd] at hw hq
    obtain ⟨a, l, rfl, rfl, ha, hll⟩ := Tb.fault_none e
    walk_at "sx"
    refine r_main TX.hl hA ?_
    refine r_tmeth hA.tb (by decide +kernel) ?_
    walk_at "sx"
    refine ⟨A.t, M.t, (a : Int), (l : Int), rfl, rfl, rfl, hA.tb, hO.t, fun w T' eR => ?_, fun b T' eR H1 hT1 f1 => ?_⟩
    · rw [eR] at hw
      exact hw w rfl
    have hO1 := hO.on (hO.t.askR (x := (a : Int)) (y := (l : Int))) (Tb.On.askR hO.t)
    rw [eR] at hq hO1
    have hA1 := hA.tab f1 hT1
    cases b with
    | true =>
      walk_at "sx"
      exact hq (.b true) H1 rfl hA1 (f1.mono HlA.foot_t)
    | false =>
      walk_at "sx"
      refine r_hmeth hA1 (by decide +kernel) ?_
      walk_at "sx"
      have hn : T'.n = M.t.n := by
        have := Tb.askR_n (T := M.t) (x := (a : Int)) (y := (l : Int))
        rw [eR] at this
        exact this
      have hwt : T'.wa a ≠ none := by
        rw [Tb.askR_nat ha hll] at eR
        split at eR
        · cases eR
        · split at eR
          · cases eR
          · split at eR
            · cases eR
            · cases eR
              rw [Tb.wait_wa, if_pos ⟨rfl, ha⟩]
              simp
      refine ⟨A, _, a, rfl, rfl, hA1, hO1, by rw [show ({ M with t := T' } : Hl).t.n = T'.n from rfl, hn]; exact ha, hwt, hl, fun H2 hA2 f2 => ?_⟩
      walk_at "sx"
      rw [Int.toNat_natCast] at hq
      exact hq (.b false) H2 rfl hA2 ((f1.mono HlA.foot_t).trans f2)
theorem sc_Lring : FnScope ["_law_hall", "_law_agents", "_law_locks", "_law_one", "_law_other", "_law_told"] ["_law_hall", "_law_agents", "_law_locks"] (defScope s_Lring) := ⟨rfl, rfl, rfl, by decide +kernel, rfl, by decide +kernel, by decide +kernel⟩
theorem ok_Lring (TX : Txt K mg) : OkF P w K mg base 6 (He.ga K "_law_ring") ["_law_hall", "_law_agents", "_law_locks"] (sp_Lring15 K) := by
  obtain ⟨⟨fd_h_ask, G_h_ask, b_h_ask⟩, k_h_ask⟩ := (ok_h_ask TX : OkF P w K mg base _ _ _ _)
  refine okF TX.f_Lring sc_Lring (fun _ _ _ _ _ _ us hl => match us, hl with | [_, _, _], _ => rfl) (fun vs H Q E h => ?_) (fun cdv A outer s H vs Q E hr h => ?_)
  · obtain ⟨_, _, _, rfl, _⟩ := h
    rfl
  · obtain ⟨x, y, z, rfl, h⟩ := h
    refine ⟨_, (pss_cons (ps_asg (pe_callB (k_sortedI (K := K) rfl) (by rfl) TX.z_sorted (by decide +kernel) (pa_cons (pv 1) pa_nil)) (pg_lst (by rfl) (pgs_cons (pg_name (i := 3) sc_Lring.nd rfl (Or.inl rfl)) (pgs_cons (pg_name (i := 4) sc_Lring.nd rfl (Or.inl rfl)) pgs_nil)))) (pss_cons (ps_set (i := 5) sc_Lring.nd rfl (Or.inl rfl) (pe_lst (pa_cons (pe_meth (pv 0) TX.c_Hall TX.m_h_ask G_h_ask (hr.mono (by decide)) b_h_ask .nil pE (pa_cons (pv 3) (pa_cons (pe_ix (k_ixl (K := K) rfl) (pv 2) pe_int (fun _ _ => rfl)) pa_nil))) (pa_cons (pe_meth (pv 0) TX.c_Hall TX.m_h_ask G_h_ask (hr.mono (by decide)) b_h_ask .nil pE (pa_cons (pv 4) (pa_cons (pe_ix (k_ixl (K := K) rfl) (pv 2) pe_int (fun _ _ => rfl)) pa_nil))) pa_nil)))) (pss_one (ps_ret (pe_op op_cat (pv 5) (pe_lst (pa_cons (pe_meth (pv 0) TX.c_Hall TX.m_h_ask G_h_ask (hr.mono (by decide)) b_h_ask .nil pE (pa_cons (pv 3) (pa_cons (pe_ix (k_ixl (K := K) rfl) (pv 2) pe_int (fun _ _ => rfl)) pa_nil))) (pa_cons (pe_meth (pv 0) TX.c_Hall TX.m_h_ask G_h_ask (hr.mono (by decide)) b_h_ask .nil pE (pa_cons (pv 4) (pa_cons (pe_ix (k_ixl (K := K) rfl) (pv 2) pe_int (fun _ _ => rfl)) pa_nil))) pa_nil)))))))), ?_⟩
    refine r_st (σ' := [some x, some y, some z, none, none, none]) rfl ?_
    try dsimp only [cxOf]
    obtain ⟨A, M, M', pa, pl, a, b, l0, l1, rfl, rfl, rfl, hA, O, R, ea, el, na, nl, hE, hq⟩ := h
    have nf : ∀ {p}, ¬ A.has p → ¬ A.foot p := fun n z => n (HlA.has_foot z)
    obtain ⟨M1, h1, hE⟩ := evs_cons (show M.evs (.ask (min a b) l0 true :: .ask (max a b) l1 true :: .ask (min a b) l1 false :: .ask (max a b) l0 false :: []) = some M' from hE)
    obtain ⟨M2, h2, hE⟩ := evs_cons hE
    obtain ⟨M3, h3, hE⟩ := evs_cons hE
    obtain ⟨M4, h4, hE⟩ := evs_cons hE
    cases hE
    have O1 := ev_ok O h1
    have O2 := ev_ok O1 h2
    have O3 := ev_ok O2 h3
    have R1 := ev_room O R h1
    have R2 := ev_room O1 R1 h2
    have R3 := ev_room O2 R2 h3
    have lr : ∀ {N : Hl} {n : Nat}, N.Room n → N.rd.length ≤ 2000 := fun r => by have := r.rd; omega
    walk_at "sx"
    refine r_sort2 ea (fun ps H1 hps eps f1 => ?_)
    walk_at "sx"
    refine ⟨ps, _, rfl, SqL.of eps, rfl, ?_⟩
    refine ⟨_, _, rfl, ?_⟩
    refine ⟨_, _, rfl, ?_⟩
    refine ⟨rfl, ?_⟩
    walk_at "sx"
    have el1 := f1.lst el
    refine r_hmeth (hA.fr0 f1) (by decide +kernel) ?_
    walk_at "sx"
    refine r_ixl (i := 0) el1 rfl ?_
    walk_at "sx"
    refine ⟨A, _, _, _, rfl, rfl, rfl, (hA.fr0 f1), O, (lr R), fun w e => (ask_no h1 e).elim, fun o H2 eo hA2 f2 => ?_⟩
    obtain ⟨rfl, hA2⟩ := ask_yes h1 eo hA2
    have el2 := f2.old _ _ el1 (nf nl)
    walk_at "sx"
    refine r_hmeth hA2 (by decide +kernel) ?_
    walk_at "sx"
    refine r_ixl (i := 1) el2 rfl ?_
    walk_at "sx"
    refine ⟨A, _, _, _, rfl, rfl, rfl, hA2, O1, (lr R1), fun w e => (ask_no h2 e).elim, fun o H3 eo hA3 f3 => ?_⟩
    obtain ⟨rfl, hA3⟩ := ask_yes h2 eo hA3
    have el3 := f3.old _ _ el2 (nf nl)
    have g3 : Fr A.foot H H3 := (f1.up.trans f2).trans f3
    walk_at "sx"
    refine r_newL (by show 2 ≤ 2000; decide) (fun p4 H4 hp4 e4 f4 => ?_)
    have el4 := f4.lst el3
    walk_at "sx"
    refine r_hmeth (hA3.fr0 f4) (by decide +kernel) ?_
    walk_at "sx"
    refine r_ixl (i := 1) el4 rfl ?_
    walk_at "sx"
    refine ⟨A, _, _, _, rfl, rfl, rfl, (hA3.fr0 f4), O2, (lr R2), fun w e => (ask_no h3 e).elim, fun o H5 eo hA5 f5 => ?_⟩
    obtain ⟨rfl, hA5⟩ := ask_yes h3 eo hA5
    have el5 := f5.old _ _ el4 (nf nl)
    have hn4 : ∀ c, A.has c → c ≠ p4 := fun c hc z => by
      obtain ⟨o, e, _⟩ := hA3.old hc
      rw [z, hp4] at e
      cases e
    have e45 := f5.old _ _ e4 (fun z => hn4 p4 (HlA.has_foot z) rfl)
    walk_at "sx"
    refine r_hmeth hA5 (by decide +kernel) ?_
    walk_at "sx"
    refine r_ixl (i := 0) el5 rfl ?_
    walk_at "sx"
    refine ⟨A, _, _, _, rfl, rfl, rfl, hA5, O3, (lr R3), fun w e => (ask_no h4 e).elim, fun o H6 eo hA6 f6 => ?_⟩
    obtain ⟨rfl, hA6⟩ := ask_yes h4 eo hA6
    have e46 := f6.old _ _ e45 (fun z => hn4 p4 (HlA.has_foot z) rfl)
    walk_at "sx"
    refine r_newL (by show 2 ≤ 2000; decide) (fun p7 H7 hp7 e7 f7 => ?_)
    refine r_cat (f7.lst e46) e7 (by show 2 + 2 ≤ 2000; decide) (fun p8 H8 hp8 e8 f8 => ?_)
    have g8 : Fr A.foot H H8 := ((((g3.trans f4.up).trans f5).trans f6).trans f7.up).trans f8.up
    exact hq p8 H8 ((((g3.trans f4.up).trans f5).trans f6).trans f7.up |>.fresh hp8) e8 ((hA6.fr0 f7).fr0 f8) g8
theorem sc_Ldrawn : FnScope ["_law_state", "_law_many", "_law_found", "_law_cell"] ["_law_state", "_law_many"] (defScope s_Ldrawn) := ⟨rfl, rfl, rfl, by decide +kernel, rfl, by decide +kernel, by decide +kernel⟩
theorem ok_Ldrawn (TX : Txt K mg) : OkF P w K mg base 1 (He.ga K "_law_drawn") ["_law_state", "_law_many"] (sp_Ldrawn K) := by
  refine okF TX.f_Ldrawn sc_Ldrawn (fun _ _ _ _ _ _ us hl => match us, hl with | [_, _], _ => rfl) (fun vs H Q E h => ?_) (fun cdv A outer s H vs Q E hr h => ?_)
  · obtain ⟨_, _, rfl, _⟩ := h
    rfl
  · obtain ⟨x, y, rfl, h⟩ := h
    refine ⟨_, (pss_cons (ps_if (pt_cmpR (op_gt) (pe_ix (k_ixl (K := K) rfl) (pv 0) pe_int (fun _ _ => rfl)) pe_int (nomark _)) (pss_cons (ps_set (i := 2) sc_Ldrawn.nd rfl (Or.inl rfl) (pe_op op_mod (pe_ix (k_ixl (K := K) rfl) (pv 0) pe_int (fun _ _ => rfl)) (pv 1))) (pss_cons (ps_asg (pe_op op_fdivW (pe_ix (k_ixl (K := K) rfl) (pv 0) pe_int (fun _ _ => rfl)) (pv 1)) (pg_sub (pv 0) pe_int set_list)) (pss_one (ps_ret (pv 2))))) pss_nil) (pss_cons (ps_asg (pe_op op_add (pe_ix (k_ixl (K := K) rfl) (pv 0) pe_int (fun _ _ => rfl)) pe_int) (pg_sub (pv 0) pe_int set_list)) (pss_cons (ps_if (pt_cmpR (op_le) (pe_ix (k_ixl (K := K) rfl) (pv 0) pe_int (fun _ _ => rfl)) (pe_callB (k_len (K := K) rfl) (by rfl) TX.z_len (by decide +kernel) (pa_cons (pe_ix (k_ixl (K := K) rfl) (pv 0) pe_int (fun _ _ => rfl)) pa_nil)) (nomark _)) (pss_cons (ps_set (i := 3) sc_Ldrawn.nd rfl (Or.inl rfl) (pe_ix (k_ixl (K := K) rfl) (pe_ix (k_ixl (K := K) rfl) (pv 0) pe_int (fun _ _ => rfl)) (pe_op op_sub (pe_ix (k_ixl (K := K) rfl) (pv 0) pe_int (fun _ _ => rfl)) pe_int) (fun _ _ => rfl))) (pss_cons (ps_asg (pe_ifExp (pt_cmpR (op_ge) (pv 3) (pe_op op_pow pe_int pe_int) (nomark _)) (pe_op op_fdivW (pv 3) (pv 1)) pe_int) (pg_sub (pv 0) pe_int set_list)) (pss_one (ps_ret (pe_op op_mod (pv 3) (pv 1)))))) pss_nil) (pss_cons (ps_asg (pe_op op_mod (pe_op op_add (pe_op op_mul (pe_ix (k_ixl (K := K) rfl) (pv 0) pe_int (fun _ _ => rfl)) pe_int) pe_int) pe_int) (pg_sub (pv 0) pe_int set_list)) (pss_one (ps_ret (pe_op op_mod (pe_op op_fdivW (pe_ix (k_ixl (K := K) rfl) (pv 0) pe_int (fun _ _ => rfl)) pe_int) (pv 1)))))))), ?_⟩
    refine r_st (σ' := [some x, some y, none, none]) rfl ?_
    try dsimp only [cxOf]
    obtain ⟨st, sc, ns, many, rfl, rfl, hS, hm, hm2, hF, h⟩ := h
    obtain ⟨⟨i, m, l, hst, hi, hl⟩, hq, hlen⟩ := hS
    have hw : CDivW l many := ⟨hm, by
      have := Nat.log2_lt (n := many.natAbs) (k := 200) (by omega)
      have h3 : many.natAbs < 2 ^ 200 := by omega
      exact Nat.lt_trans (this.mpr h3) (by decide)⟩
    have res : ∀ x : Int, ∃ r : Nat, x % many = (r : Int) ∧ (r : Int) < many := fun x => ⟨(x % many).toNat, by have := Int.emod_nonneg x (by omega : many ≠ 0); omega, by have := Int.emod_nonneg x (by omega : many ≠ 0); have := Int.emod_lt_of_pos x hm; omega⟩
    walk_at "sx"
    refine r_ixl (i := 3) hst rfl ?_
    walk_at "sx"
    refine r_dec (fun g => ?_) (fun g => ?_)
    · walk_at "sx"
      refine r_ixl (i := 3) hst rfl ?_
      walk_at "sx"
      refine r_I hm ?_
      walk_at "sx"
      refine r_ixl (i := 3) hst rfl ?_
      walk_at "sx"
      refine r_I hw ?_
      walk_at "sx"
      refine r_setl (i := 3) hst (by show 3 < 4; decide) ?_
      have f : Fr (Only1 st) H (upd H st (.lst ([V.ref sc, .int i, .int m, .int l].set 3 (.int (l / many))))) := Fr.put hst (fun xs z => by cases z)
      walk_at "sx"
      obtain ⟨r, er, hr2⟩ := res l
      rw [er]
      exact h r _ hr2 ⟨⟨i, m, l / many, upd_same, hi, Int.ediv_nonneg hl (by omega)⟩, hF.elim (fun k => k _) (fun k => sqL_fr hq f k), hlen⟩ f
    walk_at "sx"
    refine r_ixl (i := 1) hst rfl ?_
    walk_at "sx"
    refine r_setl (i := 1) hst (by show 1 < 4; decide) ?_
    have f1 : Fr (Only1 st) H (upd H st (.lst [.ref sc, .int (i + 1), .int m, .int l])) := Fr.put hst (fun xs z => by cases z)
    have e1 : upd H st (.lst ([V.ref sc, .int i, .int m, .int l].set 1 (.int (i + 1)))) = upd H st (.lst [.ref sc, .int (i + 1), .int m, .int l]) := rfl
    rw [e1]
    generalize hH1 : upd H st (.lst [V.ref sc, .int (i + 1), .int m, .int l]) = H1 at f1 ⊢
    have hst1 : H1 st = some (.lst [.ref sc, .int (i + 1), .int m, .int l]) := by rw [← hH1]; exact upd_same
    have hq1 : SqL K H1 sc (ns.map V.int) := hF.elim (fun k => k _) (fun k => sqL_fr hq f1 k)
    walk_at "sx"
    refine r_ixl (i := 1) hst1 rfl ?_
    walk_at "sx"
    refine r_ixl (i := 0) hst1 rfl ?_
    walk_at "sx"
    refine ⟨sc, _, rfl, .inl hq1, ?_⟩
    walk_at "sx"
    refine r_dec (fun g => ?_) (fun g => ?_)
    · rw [List.length_map] at g
      obtain ⟨j, ej⟩ : ∃ j : Nat, i = (j : Int) := ⟨i.toNat, by omega⟩
      subst ej
      have hj : j < ns.length := by omega
      walk_at "sx"
      refine r_ixl (i := 0) hst1 rfl ?_
      walk_at "sx"
      refine r_ixl (i := 1) hst1 rfl ?_
      walk_at "sx"
      have ee : ((j : Int) + 1 - 1) = (j : Int) := by omega
      rw [ee]
      refine ⟨sc, _, _, _, rfl, rfl, hq1, atI_nat (by rw [List.getElem?_map, List.getElem?_eq_getElem hj]; rfl), ?_⟩
      walk_at "sx"
      refine r_I ⟨by decide, by decide, by decide⟩ ?_
      walk_at "sx"
      have fin : ∀ (l' : Int) (QH : Hp → Prop), 0 ≤ l' → (∀ H2, StAt K H2 st sc ns → Fr (Only1 st) H H2 → QH H2) → rSetL (.ref st) (.int 3) (.int l') H1 QH := fun l' QH hl' q => by
        refine r_setl (i := 3) hst1 (by show 3 < 4; decide) ?_
        have f2 : Fr (Only1 st) H1 (upd H1 st (.lst ([V.ref sc, .int ((j : Int) + 1), .int m, .int l].set 3 (.int l')))) := Fr.put hst1 (fun xs z => by cases z)
        exact q _ ⟨⟨(j : Int) + 1, m, l', upd_same, by omega, hl'⟩, hF.elim (fun k => k _) (fun k => sqL_fr hq1 f2 k), hlen⟩ (f1.trans f2)
      refine r_dec (fun g2 => ?_) (fun g2 => ?_)
      · walk_at "sx"
        refine r_I hw ?_
        walk_at "sx"
        refine fin _ _ (Int.ediv_nonneg (Int.le_trans (by decide) g2) (Int.le_of_lt hm)) (fun H2 s2 f2 => ?_)
        walk_at "sx"
        refine r_I hm ?_
        walk_at "sx"
        obtain ⟨r, er, hr2⟩ := res ns[j]
        rw [er]
        exact h r _ hr2 s2 f2
      · walk_at "sx"
        refine fin _ _ (by decide) (fun H2 s2 f2 => ?_)
        walk_at "sx"
        refine r_I hm ?_
        walk_at "sx"
        obtain ⟨r, er, hr2⟩ := res ns[j]
        rw [er]
        exact h r _ hr2 s2 f2
    walk_at "sx"
    refine r_ixl (i := 2) hst1 rfl ?_
    walk_at "sx"
    refine r_I (Or.inr ⟨by decide, by decide⟩) ?_
    walk_at "sx"
    refine r_I (by decide) ?_
    walk_at "sx"
    refine r_setl (i := 2) hst1 (by show 2 < 4; decide) ?_
    have e2 : ∀ v, upd H1 st (.lst ([V.ref sc, .int (i + 1), .int m, .int l].set 2 v)) = upd H1 st (.lst [.ref sc, .int (i + 1), v, .int l]) := fun v => rfl
    rw [e2]
    generalize (m * 48271 + 11) % 2147483647 = m2
    have f2 : Fr (Only1 st) H1 (upd H1 st (.lst [V.ref sc, .int (i + 1), .int m2, .int l])) := Fr.put hst1 (fun xs z => by cases z)
    generalize hH2 : upd H1 st (.lst [V.ref sc, .int (i + 1), .int m2, .int l]) = H2 at f2 ⊢
    have hst2 : H2 st = some (.lst [.ref sc, .int (i + 1), .int m2, .int l]) := by rw [← hH2]; exact upd_same
    walk_at "sx"
    refine r_ixl (i := 2) hst2 rfl ?_
    walk_at "sx"
    refine r_I ⟨by decide, by decide +kernel⟩ ?_
    walk_at "sx"
    refine r_I hm ?_
    walk_at "sx"
    obtain ⟨r, er, hr2⟩ := res (m2 / 7)
    rw [er]
    exact h r _ hr2 ⟨⟨i + 1, m2, l, hst2, by omega, hl⟩, hF.elim (fun k => k _) (fun k => sqL_fr hq1 f2 k), hlen⟩ (f1.trans f2)
theorem sc_h_lose : FnScope ["self", "number"] ["self", "number"] (defScope s_h_lose) := ⟨rfl, rfl, rfl, by decide +kernel, rfl, by decide +kernel, by decide +kernel⟩
theorem ok_h_lose (TX : Txt K mg) : OkF P w K mg base 2 (He.ma K (He.ga K "Hall") "lose") ["self", "number"] (sp_h_lose K) := by
  obtain ⟨⟨fd_h_need_letter, G_h_need_letter, b_h_need_letter⟩, k_h_need_letter⟩ := (ok_h_need_letter TX : OkF P w K mg base _ _ _ _)
  refine okF TX.f_h_lose sc_h_lose (fun _ _ _ _ _ _ us hl => match us, hl with | [_, _], _ => rfl) (fun vs H Q E h => ?_) (fun cdv A outer s H vs Q E hr h => ?_)
  · obtain ⟨_, _, rfl, _⟩ := h
    rfl
  · obtain ⟨x, y, rfl, h⟩ := h
    refine ⟨_, (pss_cons (ps_expr (pe_meth (pv 0) TX.c_Hall TX.m_h_need_letter G_h_need_letter (hr.mono (by decide)) b_h_need_letter .nil pE (pa_cons (pv 1) pa_nil))) (pss_one (ps_expr (pe_bm PySem.F.plainAttrs_list PySem.F.slot_list_pop PySem.F.type_list_pop mt_popAt (k_fld (K := K) rfl (pv 0) rfl) (pa_cons (pv 1) pa_nil))))), ?_⟩
    refine r_st (σ' := [some x, some y]) rfl ?_
    try dsimp only [cxOf]
    obtain ⟨A, M, i, rfl, rfl, hA, hF, he, hq⟩ := h
    walk_at "sx"
    refine r_hmeth hA (by decide +kernel) ?_
    walk_at "sx"
    refine ⟨A, M, i, rfl, rfl, hA, fun g => ?_, he⟩
    have hq := hq g
    obtain ⟨j, rfl⟩ : ∃ j : Nat, i = (j : Int) := ⟨i.toNat, by have := g.1; omega⟩
    have hj : j < M.rd.length := by have := g.2; omega
    rw [Int.toNat_natCast] at hq
    walk_at "sx"
    refine r_letters TX.hl hA ?_
    obtain ⟨ve, eve, tve⟩ := hA.le
    refine r_tyL eve ?_
    walk_at "sx"
    refine h_pop hA (List.getElem?_eq_getElem hj) (by have := hF.rd; omega) (fun v H1 tv hA1 f1 => ?_)
    walk_at "sx"
    exact hq H1 hA1 f1
theorem sc_Lto_still : FnScope ["_law_hall", "_law_letter"] ["_law_hall"] (defScope s_Lto_still) := ⟨rfl, rfl, rfl, by decide +kernel, rfl, by decide +kernel, by decide +kernel⟩
theorem ok_Lto_still (TX : Txt K mg) : OkF P w K mg base 6 (He.ga K "_law_to_still") ["_law_hall"] (sp_Lto_still K) := by
  obtain ⟨⟨fd_h_road, G_h_road, b_h_road⟩, k_h_road⟩ := (ok_h_road TX : OkF P w K mg base _ _ _ _)
  obtain ⟨⟨fd_h_lose, G_h_lose, b_h_lose⟩, k_h_lose⟩ := (ok_h_lose TX : OkF P w K mg base _ _ _ _)
  obtain ⟨⟨fd_h_carry, G_h_carry, b_h_carry⟩, k_h_carry⟩ := (ok_h_carry TX : OkF P w K mg base _ _ _ _)
  refine okF TX.f_Lto_still sc_Lto_still (fun _ _ _ _ _ _ us hl => match us, hl with | [_], _ => rfl) (fun vs H Q E h => ?_) (fun cdv A outer s H vs Q E hr h => ?_)
  · obtain ⟨_, rfl, _⟩ := h
    rfl
  · obtain ⟨x, rfl, h⟩ := h
    refine ⟨_, (pss_cons (ps_while pOwn (pt_cmpR (k_eqD (K := K) rfl hr.units) (pe_lc (own := [("_law_letter", 1)]) (g := gName 1) rfl sc_Lto_still.nd (k_listI (K := K) rfl (pe_meth0 (pv 0) TX.c_Hall TX.m_h_road G_h_road (hr.mono (by decide)) b_h_road .nil pE)) (blkOk_by (N := ["_law_hall", "_law_letter"]) (sc := defScope s_Lto_still) (by decide +kernel)) (fun _ _ _ _ _ => pg_name (i := 1) sc_Lto_still.nd rfl (Or.inl rfl)) (fun _ _ _ _ _ => by exact (pts_one (pt_cmpR (op_eq) (pe_ix (k_ixt (K := K) rfl) (pv 1) pe_int (fun _ _ => rfl)) pe_str (nomark _)))) (fun _ _ _ _ _ => by exact (pv 1))) (pe_lst pa_nil) (nomark _)) (pss_one (ps_expr (pe_meth (pv 0) TX.c_Hall TX.m_h_carry G_h_carry (hr.mono (by decide)) b_h_carry .nil pE (pa_cons pe_int pa_nil))))) (pss_one (ps_while pOwn (pt_cmpR (k_neD (K := K) rfl hr.units) (pe_meth0 (pv 0) TX.c_Hall TX.m_h_road G_h_road (hr.mono (by decide)) b_h_road .nil pE) (pe_lst pa_nil) (nomark _)) (pss_one (ps_expr (pe_meth (pv 0) TX.c_Hall TX.m_h_lose G_h_lose (hr.mono (by decide)) b_h_lose .nil pE (pa_cons pe_int pa_nil))))))), ?_⟩
    refine r_st (σ' := [some x, none]) rfl ?_
    try dsimp only [cxOf]
    obtain ⟨A, M, M', n1, n2, rfl, hA, O, R, hE, hq⟩ := h
    walk_at "sx"
    refine ⟨fun m σ' H' => ∃ N x1, σ' = [some (.ref A.p), x1] ∧ HlAt K H' A N ∧ N.Ok ∧ N.Room (2 * m + n2 + 2) ∧ N.evs (carriesQ m ++ (.loud :: List.replicate n2 (.lose 0)) ++ [.road []]) = some M' ∧ Fr A.foot H H', ⟨n1, M, none, rfl, hA, O, R, hE, Fr.refl⟩, ?_⟩
    rintro m σ' H' ⟨N, x1, rfl, hN, iO, iR, iE, fN⟩
    have hlr : N.rd.length ≤ 1900 := by have := iR.rd; omega
    walk_at "sx"
    refine r_lcLx ?_
    walk_at "sx"
    refine r_hmeth hN (by decide +kernel) ?_
    walk_at "sx"
    refine ⟨A, N, rfl, hN, fun q1 H1 hq1 hl1 f1 => ?_⟩
    obtain ⟨vs, evs1, tvs⟩ := hl1
    have hvl : vs.length = N.rd.length := by rw [tvs.len, List.length_map]
    have at_ : ∀ (i : Nat) x, vs[i]? = some x → Td H1 x (N.rd.getD i (.brk 0 0)).d := fun i x hx => by
      have hi : i < N.rd.length := by
        have := (List.getElem?_eq_some_iff.mp hx).1
        omega
      obtain ⟨w, ew, tw⟩ := tvs.at (i := i) (d := (N.rd.getD i (.brk 0 0)).d) (by
        rw [List.getElem?_map, getD_some hi]; rfl)
      rw [hx] at ew
      cases ew
      exact tw
    refine r_lcL (a := q1) (xs := vs) (fun i => (N.rd.getD i (.brk 0 0)).isBrk) (fun i => (N.rd.getD i (.brk 0 0)).d) (by omega) (fun Q q => q) evs1 (fun _ => rfl) (fun i x H' hx f Q q => ?_) (fun i x H' hx _ f Q q => ?_) (fun p2 H2 hp2 hl2 f2 => ?_)
    · obtain ⟨a, us, rfl, ea⟩ := lt_tag ((at_ i x hx).fr f)
      walk_at "sx"
      refine r_ixt (i := 0) ea rfl ?_
      walk_at "sx"
      refine r_eq rfl ?_
      rw [tag_brk]
      walk_at "sx"
      exact q H' Fr.refl
    · walk_at "sx"
      exact q _ H' Fr.refl ((at_ i x hx).fr f)
    have hl2' : LsAt H2 p2 (brks N.rd) := by
      unfold brks
      rw [← hvl]
      exact hl2
    walk_at "sx"
    refine r_newL (Nat.zero_le _) (fun p3 H3 hp3 e3 f3 => ?_)
    have hN3 := ((hN.fr0 f1).fr0 f2).fr0 f3
    have fN3 : Fr A.foot H H3 := ((fN.trans f1.up).trans f2.up).trans f3.up
    refine r_eqNil ((hl2'.fr f3 (fun z => z)).dp) (brks_cmp _) e3 ?_
    rw [brks_nil]
    walk_at "sx"
    cases m with
    | zero =>
      obtain ⟨N1, h1, h2⟩ := evs_cons (show N.evs (.loud :: (List.replicate n2 (.lose 0) ++ [.road []])) = some M' from iE)
      obtain ⟨er, e1⟩ := ev_if h1
      subst e1
      have ea : N1.rd.all (fun x => !x.isBrk) = false := by
        rw [List.any_eq_true] at er
        obtain ⟨x, hx, hb⟩ := er
        rw [List.all_eq_false]
        exact ⟨x, hx, by rw [hb]; simp⟩
      rw [ea, if_neg Bool.false_ne_true]
      walk_at "sx"
      refine ⟨fun m σ' H' => ∃ N, σ' = [some (.ref A.p), x1] ∧ HlAt K H' A N ∧ N.Ok ∧ N.Room (m + 1) ∧ N.evs (List.replicate m (.lose 0) ++ [.road []]) = some M' ∧ Fr A.foot H H', ⟨n2, N1, rfl, hN3, iO, ⟨by have := iR.rd; omega, by have := iR.tl; omega, by have := iR.br; omega⟩, h2, fN3⟩, ?_⟩
      clear fN3 hN3 h1 h2 hl2 hl2' f3 e3 hp3 iR iE ea er
      rintro m σ' H' ⟨N, rfl, hN, iO, iR, iE, fN⟩
      walk_at "sx"
      refine r_hmeth hN (by decide +kernel) ?_
      walk_at "sx"
      refine ⟨A, N, rfl, hN, fun q1 H1 hq1 hl1 f1 => ?_⟩
      walk_at "sx"
      refine r_newL (Nat.zero_le _) (fun p2 H2 hp2 e2 f2 => ?_)
      refine r_neNil (hl1.fr f2 (fun z => z)).dp (lts_cmp15 _) e2 ?_
      have hN2 := (hN.fr0 f1).fr0 f2
      have fN2 : Fr A.foot H H2 := (fN.trans f1.up).trans f2.up
      walk_at "sx"
      cases m with
      | zero =>
        obtain ⟨N1, h1, h2⟩ := evs_cons (show N.evs (.road [] :: []) = some M' from iE)
        obtain ⟨er, e1⟩ := ev_if h1
        cases h2
        subst e1
        refine r_decN (fun g => absurd (by rw [er]; rfl) g) (fun _ => ?_)
        walk_at "sx"
        exact hq H2 hN2 fN2
      | succ m =>
        obtain ⟨N1, h1, h2⟩ := evs_cons (show N.evs (.lose 0 :: (List.replicate m (.lose 0) ++ [.road []])) = some M' from iE)
        have hi := (ev_if h1).1
        refine r_decN (fun _ => ?_) (fun g => absurd (List.map_eq_nil_iff.mp g) (fun z => by rw [z] at hi; exact absurd hi (Nat.not_lt_zero _)))
        refine ⟨fun σ2 H2 => ∃ m', m' < m + 1 ∧ ∃ N', σ2 = [some (.ref A.p), x1] ∧ HlAt K H2 A N' ∧ N'.Ok ∧ N'.Room (m' + 1) ∧ N'.evs (List.replicate m' (.lose 0) ++ [.road []]) = some M' ∧ Fr A.foot H H2, fun σ2 H2 z => z, ?_⟩
        walk_at "sx"
        refine r_hmeth hN2 (by decide +kernel) ?_
        walk_at "sx"
        refine ⟨A, _, 0, rfl, rfl, hN2, iR.few, fun z => absurd (lose_lt h1) z, fun _ H3 hA3 f3 => ?_⟩
        have hA3 := lose_yes h1 hA3
        walk_at "sx"
        exact ⟨m, Nat.lt_succ_self m, N1, rfl, hA3, ev_ok iO h1, ev_room iO iR h1, h2, fN2.trans f3⟩
    | succ m =>
      obtain ⟨N1, h1, h2⟩ := evs_cons (show N.evs (.quiet :: .carry 0 :: (carriesQ m ++ (.loud :: List.replicate n2 (.lose 0)) ++ [.road []])) = some M' from iE)
      obtain ⟨er, e1⟩ := ev_if h1
      subst e1
      rw [er, if_pos rfl]
      obtain ⟨N2, h3, h4⟩ := evs_cons h2
      refine ⟨fun σ2 H2 => ∃ m', m' < m + 1 ∧ ∃ N' x1', σ2 = [some (.ref A.p), x1'] ∧ HlAt K H2 A N' ∧ N'.Ok ∧ N'.Room (2 * m' + n2 + 2) ∧ N'.evs (carriesQ m' ++ (.loud :: List.replicate n2 (.lose 0)) ++ [.road []]) = some M' ∧ Fr A.foot H H2, fun σ2 H2 z => z, ?_⟩
      walk_at "sx"
      refine r_hmeth hN3 (by decide +kernel) ?_
      walk_at "sx"
      refine ⟨A, _, 0, rfl, rfl, hN3, iO, iR.few, fun z => absurd (carry_lt h3) z, fun _ H4 hA4 f4 => ?_⟩
      have hA4 := carry_yes h3 hA4
      walk_at "sx"
      have R2 := ev_room (n := 2 * m + n2 + 3) iO (by have := iR; rw [show 2 * (m + 1) + n2 + 2 = 2 * m + n2 + 3 + 1 by omega] at this; exact this) h3
      exact ⟨m, Nat.lt_succ_self m, N2, x1, rfl, hA4, ev_ok iO h3, ⟨by have := R2.rd; omega, by have := R2.tl; omega, by have := R2.br; omega⟩, h4, fN3.trans f4⟩
theorem sc_Lorder : FnScope ["_law_state", "_law_left", "_law_found"] ["_law_state"] (defScope s_Lorder) := ⟨rfl, rfl, rfl, by decide +kernel, rfl, by decide +kernel, by decide +kernel⟩
theorem ok_Lorder (TX : Txt K mg) : OkF P w K mg base 2 (He.ga K "_law_order") ["_law_state"] (sp_Lorder15 K) := by
  obtain ⟨⟨fd_Ldrawn, G_Ldrawn, b_Ldrawn⟩, k_Ldrawn⟩ := (ok_Ldrawn TX : OkF P w K mg base _ _ _ _)
  refine okF TX.f_Lorder sc_Lorder (fun _ _ _ _ _ _ us hl => match us, hl with | [_], _ => rfl) (fun vs H Q E h => ?_) (fun cdv A outer s H vs Q E hr h => ?_)
  · obtain ⟨_, rfl, _⟩ := h
    rfl
  · obtain ⟨x, rfl, h⟩ := h
    refine ⟨_, (pss_cons (ps_set (i := 1) sc_Lorder.nd rfl (Or.inl rfl) (pe_lst (pa_cons pe_int (pa_cons pe_int (pa_cons pe_int (pa_cons pe_int pa_nil)))))) (pss_cons (ps_set (i := 2) sc_Lorder.nd rfl (Or.inl rfl) (pe_lst pa_nil)) (pss_cons (ps_while pOwn (pt_cmpR (k_neD (K := K) rfl hr.units) (pv 1) (pe_lst pa_nil) (nomark _)) (pss_one (ps_expr (pe_bm PySem.F.plainAttrs_list PySem.F.slot_list_append PySem.F.type_list_append mt_append (pv 2) (pa_cons (pe_bm PySem.F.plainAttrs_list PySem.F.slot_list_pop PySem.F.type_list_pop mt_popAt (pv 1) (pa_cons (pe_call G_Ldrawn (hr.mono (by decide)) (by rfl) TX.g_Ldrawn k_Ldrawn b_Ldrawn .nil pE (pa_cons (pv 0) (pa_cons (pe_callB (k_len (K := K) rfl) (by rfl) TX.z_len (by decide +kernel) (pa_cons (pv 1) pa_nil)) pa_nil))) pa_nil)) pa_nil))))) (pss_one (ps_ret (pv 2)))))), ?_⟩
    refine r_st (σ' := [some x, none, none]) rfl ?_
    try dsimp only [cxOf]
    obtain ⟨st, sc, ns, rfl, hS, hF, hq⟩ := h
    walk_at "sx"
    refine r_newL (by show 4 ≤ 2000; decide) (fun p1 H1 hp1 e1 f1 => ?_)
    walk_at "sx"
    refine r_newL (Nat.zero_le _) (fun p2 H2 hp2 e2 f2 => ?_)
    walk_at "sx"
    have hS2 := (hS.fr0 f1).fr0 f2
    have s1 : p1 ≠ st := fun z => hS.some (z ▸ hp1)
    have s2 : p2 ≠ st := fun z => (hS.fr0 f1).some (z ▸ hp2)
    have s12 : p2 ≠ p1 := ne_fresh e1 hp2
    have hp2' : H p2 = none := f1.fresh hp2
    refine ⟨fun m σ' H' => ∃ l f : List Nat, m = l.length ∧ σ' = [some (.ref st), some (.ref p1), some (.ref p2)] ∧ H' p1 = some (.lst (l.map nV)) ∧ H' p2 = some (.lst (f.map nV)) ∧ (f ++ l).Perm [0, 1, 2, 3] ∧ StAt K H' st sc ns ∧ Fr (Only1 st) H H', ⟨_, [0, 1, 2, 3], [], rfl, rfl, f2.lst e1, e2, .refl _, hS2, (f1.trans f2).up⟩, ?_⟩
    rintro m σ' H' ⟨l, f, rfl, rfl, el, ef, hp, hS', fH⟩
    walk_at "sx"
    refine r_newL (Nat.zero_le _) (fun p3 H3 hp3 e3 f3 => ?_)
    refine r_neNil (nats_dp (f3.lst el)) (nats_cmp _) e3 ?_
    have hS3 := hS'.fr0 f3
    have el3 := f3.lst el
    have ef3 := f3.lst ef
    have fH3 := fH.trans f3.up
    walk_at "sx"
    refine r_decN (fun g => ?_) (fun g => ?_)
    · have hl : 0 < l.length := by
        cases l with
        | nil => exact absurd rfl g
        | cons a r => exact Nat.succ_pos _
      have h4 : l.length ≤ 4 := by
        have := hp.length_eq
        rw [List.length_append] at this
        show l.length ≤ 4
        have e4 : [0, 1, 2, 3].length = 4 := rfl
        omega
      refine ⟨fun σ2 H2 => ∃ m', m' < l.length ∧ ∃ l' f' : List Nat, m' = l'.length ∧ σ2 = [some (.ref st), some (.ref p1), some (.ref p2)] ∧ H2 p1 = some (.lst (l'.map nV)) ∧ H2 p2 = some (.lst (f'.map nV)) ∧ (f' ++ l').Perm [0, 1, 2, 3] ∧ StAt K H2 st sc ns ∧ Fr (Only1 st) H H2, fun σ2 H2 z => z, ?_⟩
      walk_at "sx"
      refine r_tyL ef3 ?_
      walk_at "sx"
      refine r_tyL el3 ?_
      walk_at "sx"
      refine r_lenS el3 ?_
      rw [List.length_map]
      walk_at "sx"
      refine ⟨st, sc, ns, (l.length : Int), rfl, rfl, hS3, by omega, by omega, hF, fun i H4 hi hS4 f4 => ?_⟩
      have hi' : i < l.length := by omega
      have el4 := f4.old _ _ el3 s1
      have ef4 := f4.old _ _ ef3 s2
      walk_at "sx"
      refine r_popAt el4 (i := i) (y := nV l[i]) (by rw [List.getElem?_map, List.getElem?_eq_getElem hi']; rfl) (by omega) ?_
      have f5 : Fr (Only1 p1) H4 (upd H4 p1 (.lst ((l.map nV).eraseIdx i))) := Fr.put el4 (fun xs z => by cases z)
      have e5 : (upd H4 p1 (.lst ((l.map nV).eraseIdx i))) p1 = some (.lst ((l.eraseIdx i).map nV)) := by rw [upd_same, map_eraseIdx15]
      generalize upd H4 p1 (.lst ((l.map nV).eraseIdx i)) = H5 at f5 e5 ⊢
      have ef5 := f5.old _ _ ef4 s12
      walk_at "sx"
      refine r_append ef5 (by have := hp.length_eq; rw [List.length_append] at this; have e4 : [0, 1, 2, 3].length = 4 := rfl; rw [List.length_map]; omega) ?_
      have f6 : Fr (Only1 p2) H5 (upd H5 p2 (.lst (f.map nV ++ [nV l[i]]))) := Fr.put ef5 (fun xs z => by cases z)
      have e6 : (upd H5 p2 (.lst (f.map nV ++ [nV l[i]]))) p2 = some (.lst ((f ++ [l[i]]).map nV)) := by rw [upd_same, List.map_append]; rfl
      generalize upd H5 p2 (.lst (f.map nV ++ [nV l[i]])) = H6 at f6 e6 ⊢
      have e56 := f6.old _ _ e5 (fun z => s12 z.symm)
      have hS6 : StAt K H6 st sc ns := (hS4.fr f5 (fun z => s1 z.symm) (scF_of hS.sq (fun b hb => by rw [show b = p1 from hb]; exact hp1))).fr f6 (fun z => s2 z.symm) (scF_of hS.sq (fun b hb => by rw [show b = p2 from hb]; exact hp2'))
      walk_at "sx"
      refine ⟨(l.eraseIdx i).length, by rw [List.length_eraseIdx]; split <;> omega, l.eraseIdx i, f ++ [l[i]], rfl, rfl, e56, e6, ?_, hS6, ((fH3.trans f4).mutP f5 (fun c hc => .inr (by rw [show c = p1 from hc]; exact hp1))).mutP f6 (fun c hc => .inr (by rw [show c = p2 from hc]; exact hp2'))⟩
      rw [List.append_assoc]
      exact (List.Perm.append_left f (perm_cut hi')).trans hp
    · have el0 : l = [] := nats_nil.mp g
      subst el0
      rw [List.append_nil] at hp
      have hl := hp.length_eq
      walk_at "sx"
      match f, hl, hp, ef3 with
      | [a, b, c, d], _, hp, ef3 => exact hq p2 a b c d H3 (ord_mk hp) hp2' ef3 hS3 fH3
theorem sc_made_table : FnScope ["agents", "locks"] ["agents", "locks"] (defScope s_made_table) := ⟨rfl, rfl, rfl, by decide +kernel, rfl, by decide +kernel, by decide +kernel⟩
theorem ok_made_table (TX : Txt K mg) : OkF P w K mg base 3 (He.ga K "made_table") ["agents", "locks"] (sp_made_table K) := by
  obtain ⟨⟨fd_t_init, G_t_init, b_t_init⟩, k_t_init⟩ := (ok_t_init TX : OkN P w K mg base _ _ _ _)
  refine okF TX.f_made_table sc_made_table (fun _ _ _ _ _ _ us hl => match us, hl with | [_, _], _ => rfl) (fun vs H Q E h => ?_) (fun cdv A outer s H vs Q E hr h => ?_)
  · obtain ⟨_, _, rfl, _⟩ := h
    rfl
  · obtain ⟨x, y, rfl, h⟩ := h
    refine ⟨_, pss_one (L2H.ps_try_onlyX (c := .ref (He.ga K "NoTable")) (Wout := fun cls d _ H => E cls d H) (ts := fun a cls d D σ H => E (.ref (He.ga K "NoHall")) none H)
      (tb := fun W D σ H => ∃ Ech : XK, (∀ cls d σ' H', Ech cls d H' → W cls d σ' H') ∧ tRet (tMake (He.ga K "Table") (sp_t_init K) [] Ech (tCons (tVar 0) (tCons (tVar 1) tNil))) D σ H)
      rfl rfl ⟨rfl, by decide +kernel, .inl TX.e_NoTable.g⟩ (L2H.passesAt_of rfl) (takes_of rfl rfl rfl rfl) (fun W pn xe tkN tk2 po => ?_) (fun a oe cls d pn hz hf tk hot => ?_)), ?_⟩
    · refine ⟨fun pins s' σ H' D I h' => ?_⟩
      obtain ⟨Ech, hV, h1⟩ := h'
      exact (pss_one (ps_ret (pe_make TX.k_Table G_t_init (hr.mono (by decide)) (by rfl) TX.g_Table b_t_init .nil (L2N.passes_call tkN hV) (pa_cons (pv 0) (pa_cons (pv 1) pa_nil))))).run pins s' σ H' D I h1
    · exact pss_one (L2H.ps_raiseH hot tk (L2N.pmk_own PySem.F.excBase_ValueError TX.e_NoHall.ex TX.e_NoHall.g TX.e_NoHall.k (raises_own TX.e_NoHall.b TX.e_NoHall.t) rfl))
    · obtain ⟨a, l, rfl, rfl, he, hq⟩ := h
      refine ⟨fun cls d H' => cls = .ref (He.ga K "NoTable") ∧ d = none ∧ E (.ref (He.ga K "NoHall")) none H', fun cls d σ' H' hE => ?_, ?_⟩
      · obtain ⟨rfl, rfl, hE⟩ := hE
        exact ⟨true, TX.xm, fun _ _ _ => hE, fun z => nomatch z⟩
      · refine r_st (σ' := [some (.int a), some (.int l)]) rfl ?_
        walk_at "sx"
        refine r_makeOn (fun x dx H1 hx e1 f1 => ?_)
        walk_at "sx"
        refine ⟨x, dx, a, l, rfl, rfl, rfl, e1, fun z => ⟨rfl, rfl, he z H1 f1⟩, fun z A H2 eA hA f2 hnew => ⟨rfl, ?_⟩⟩
        subst eA
        exact hq z A H2 hA (f1.mutO f2 hx) (fun b hb => by
          by_cases zb : b = A.p
          · rw [zb]; exact hx
          · exact f1.fresh (hnew b hb zb))

theorem sc_h_init : FnScope ["self", "agents", "locks", "houses"] ["self", "agents", "locks", "houses"] (defScope s_h_init) := ⟨rfl, rfl, rfl, by decide +kernel, rfl, by decide +kernel, by decide +kernel⟩
theorem ok_h_init (TX : Txt K mg) : OkF P w K mg base 4 (He.ma K (He.ga K "Hall") "__init__") ["self", "agents", "locks", "houses"] (sp_h_init K) := by
  obtain ⟨⟨fd_made_table, G_made_table, b_made_table⟩, k_made_table⟩ := (ok_made_table TX : OkF P w K mg base _ _ _ _)
  refine okF TX.f_h_init sc_h_init (fun _ _ _ _ _ _ us hl => match us, hl with | [_, _, _, _], _ => rfl) (fun vs H Q E h => ?_) (fun cdv A outer s H vs Q E hr h => ?_)
  · obtain ⟨_, _, _, _, rfl, _⟩ := h
    rfl
  · obtain ⟨x, y, z, u, rfl, h⟩ := h
    refine ⟨_, (pss_cons (kp_fld (K := K) rfl (pv 0) (pe_call G_made_table (hr.mono (by decide)) (by rfl) TX.g_made_table k_made_table b_made_table .nil pE (pa_cons (pv 1) (pa_cons (pv 2) pa_nil))) rfl) (pss_cons (ps_if (pt_not (pt_chain op_le op_le pe_int (pv 3) (pe_glob (v := .int 4) rfl TX.i_MOST_HOUSES.choose_spec ⟨_, rfl⟩))) (pss_one (ps_raise rfl (takes_of rfl rfl rfl rfl) (pmk_own PySem.F.excBase_ValueError TX.e_NoHall.ex TX.e_NoHall.g TX.e_NoHall.k (raises_own TX.e_NoHall.b TX.e_NoHall.t) rfl))) pss_nil) (pss_cons (kp_fld (K := K) rfl (pv 0) (pe_op op_rep (pe_lst (pa_cons pe_bl pa_nil)) (pv 3)) rfl) (pss_cons (kp_fld (K := K) rfl (pv 0) (pe_lst pa_nil) rfl) (pss_cons (kp_fld (K := K) rfl (pv 0) (pe_lst pa_nil) rfl) (pss_one (kp_fld (K := K) rfl (pv 0) (pe_lst pa_nil) rfl))))))), ?_⟩
    refine r_st (σ' := [some x, some y, some z, some u]) rfl ?_
    try dsimp only [cxOf]
    obtain ⟨p, dx, a, l, k, rfl, rfl, rfl, rfl, hp, he, hq⟩ := h
    walk_at "sx"
    refine ⟨a, l, rfl, rfl, fun nt H1 f1 => he (fun z => nt z.1) H1 f1.up, fun ok T H1 hT f1 hnew => ?_⟩
    have hp1 := f1.lst hp
    walk_at "sx"
    refine r_putOn hp1 TX.hl.c TX.hl.m (by show 0 < 1000; decide) (fun H2 hp2 f2 => ?_)
    have g2 : Fr (Only1 p) H H2 := f1.up.trans f2
    walk_at "sx"
    refine r_between (fun _ q => by walk_at "sx"; exact q) (fun _ q => by walk_at "sx"; exact q) ?_
    walk_at "sx"
    refine r_decN (fun g => ?_) (fun g => ?_)
    · walk_at "sx"
      exact he (fun z => g ⟨z.2.1, z.2.2⟩) H2 g2
    have g' : 1 ≤ k ∧ k ≤ 4 := g
    obtain ⟨k, rfl⟩ : ∃ j : Nat, k = (j : Int) := ⟨k.toNat, by omega⟩
    walk_at "sx"
    refine r_newL (by show 1 ≤ 2000; decide) (fun t1 H3 ht1 et1 f3 => ?_)
    walk_at "sx"
    refine r_rep et1 (by omega) (fun dn H4 hdn edn f4 => ?_)
    walk_at "sx"
    have hp4 := (f3.trans f4).lst hp2
    refine r_putOn hp4 TX.hl.c TX.hl.d (by show 1 < 1000; decide) (fun H5 hp5 f5 => ?_)
    walk_at "sx"
    refine r_newL (Nat.zero_le _) (fun le H6 hle ele f6 => ?_)
    walk_at "sx"
    refine r_putOn (f6.lst hp5) TX.hl.c TX.hl.l (by show 2 < 1000; decide) (fun H7 hp7 f7 => ?_)
    walk_at "sx"
    refine r_newL (Nat.zero_le _) (fun te H8 hte ete f8 => ?_)
    walk_at "sx"
    refine r_putOn (f8.lst hp7) TX.hl.c TX.hl.t (by show 3 < 1000; decide) (fun H9 hp9 f9 => ?_)
    walk_at "sx"
    refine r_newL (Nat.zero_le _) (fun br H10 hbr ebr f10 => ?_)
    walk_at "sx"
    refine r_putOn (f10.lst hp9) TX.hl.c TX.hl.b (by show 4 < 1000; decide) (fun H11 hp11 f11 => ?_)
    walk_at "sx"
    have a4 : Fr (Only1 p) H H4 := g2.trans (f3.trans f4).up
    have a3 : Fr (Only1 p) H H3 := g2.trans f3.up
    have a5 : Fr (Only1 p) H H5 := a4.trans f5
    have a7 : Fr (Only1 p) H H7 := a5.trans (f6.up.trans f7)
    have a9 : Fr (Only1 p) H H9 := a7.trans (f8.up.trans f9)
    have a11 : Fr (Only1 p) H H11 := a9.trans (f10.up.trans f11)
    have np : ∀ {b : Addr}, H b = none → b ≠ p := fun hb => ne_fresh hp hb
    have n1 := np (a3.fresh hdn)
    have n2 := np (a5.fresh hle)
    have n3 := np (a7.fresh hte)
    have n4 := np (a9.fresh hbr)
    have d5 := f5.old _ _ edn n1
    have d7 := f7.old _ _ (f6.lst d5) n1
    have d9 := f9.old _ _ (f8.lst d7) n1
    have d11 := f11.old _ _ (f10.lst d9) n1
    have l7 := f7.old _ _ ele n2
    have l9 := f9.old _ _ (f8.lst l7) n2
    have l11 := f11.old _ _ (f10.lst l9) n2
    have t9 := f9.old _ _ ete n3
    have t11 := f11.old _ _ (f10.lst t9) n3
    have b11 := f11.old _ _ ebr n4
    have ntp : ¬ T.has p := fun z => by rw [hnew p z] at hp; cases hp
    have tf : ∀ {Ha Hb : Hp} {T0 : Tb}, TbK K Ha T T0 → Fr (Only1 p) Ha Hb → TbK K Hb T T0 := fun h f => h.fr f fun b hb z => ntp (z ▸ hb)
    have T2 := tf hT f2
    have T4 := (T2.fr0 f3).fr0 f4
    have T5 := tf T4 f5
    have T7 := tf (T5.fr0 f6) f7
    have T9 := tf (T7.fr0 f8) f9
    have T11 := tf (T9.fr0 f10) f11
    refine hq ⟨ok, g'.1, g'.2⟩ ⟨p, dx, dn, le, te, br, T⟩ H11 rfl ⟨hp11, T11, ?_, ⟨_, l11, .nil⟩, ⟨_, t11, .nil⟩, ⟨_, b11, .nil⟩, ?_, fun b hb => ?_⟩ a11 (fun b hb nb => ?_)
    · rw [d11]
      simp [Hl.fresh]
    · unfold HlA.own
      simp only [List.nodup_cons, List.mem_cons, not_or, List.not_mem_nil, or_false, not_false_eq_true, true_and, List.nodup_nil, and_true]
      exact ⟨⟨n1.symm, n2.symm, n3.symm, n4.symm⟩, ⟨(ne_fresh d5 hle).symm, (ne_fresh d7 hte).symm, (ne_fresh d9 hbr).symm⟩, ⟨(ne_fresh l7 hte).symm, (ne_fresh l9 hbr).symm⟩, (ne_fresh t9 hbr).symm⟩
    · unfold HlA.own at hb
      simp only [List.mem_cons, List.not_mem_nil, or_false] at hb
      have fT : ∀ {Ha : Hp} {c : Addr} {T0 : Tb}, TbK K Ha T T0 → Ha c = none → ¬ T.has c := fun h hc => fresh_has h hc
      rcases hb with e | e | e | e | e
      · rw [e]; exact ntp
      · rw [e]; exact fT (T2.fr0 f3) hdn
      · rw [e]; exact fT T5 hle
      · rw [e]; exact fT T7 hte
      · rw [e]; exact fT T9 hbr
    · rcases hb with hb | hb
      · exact hnew b hb
      · unfold HlA.own at hb
        simp only [List.mem_cons, List.not_mem_nil, or_false] at hb
        rcases hb with e | e | e | e | e
        · exact absurd e nb
        · rw [e]; exact a3.fresh hdn
        · rw [e]; exact a5.fresh hle
        · rw [e]; exact a7.fresh hte
        · rw [e]; exact a9.fresh hbr
theorem sc_h_double : FnScope ["self", "number"] ["self", "number"] (defScope s_h_double) := ⟨rfl, rfl, rfl, by decide +kernel, rfl, by decide +kernel, by decide +kernel⟩
theorem ok_h_double (TX : Txt K mg) : OkF P w K mg base 2 (He.ma K (He.ga K "Hall") "double") ["self", "number"] (sp_h_double K) := by
  obtain ⟨⟨fd_h_need_letter, G_h_need_letter, b_h_need_letter⟩, k_h_need_letter⟩ := (ok_h_need_letter TX : OkF P w K mg base _ _ _ _)
  refine okF TX.f_h_double sc_h_double (fun _ _ _ _ _ _ us hl => match us, hl with | [_, _], _ => rfl) (fun vs H Q E h => ?_) (fun cdv A outer s H vs Q E hr h => ?_)
  · obtain ⟨_, _, rfl, _⟩ := h
    rfl
  · obtain ⟨x, y, rfl, h⟩ := h
    refine ⟨_, (pss_cons (ps_expr (pe_meth (pv 0) TX.c_Hall TX.m_h_need_letter G_h_need_letter (hr.mono (by decide)) b_h_need_letter .nil pE (pa_cons (pv 1) pa_nil))) (pss_one (ps_expr (pe_bm PySem.F.plainAttrs_list PySem.F.slot_list_append PySem.F.type_list_append mt_append (k_fld (K := K) rfl (pv 0) rfl) (pa_cons (pe_ix (k_ixl (K := K) rfl) (k_fld (K := K) rfl (pv 0) rfl) (pv 1) (fun _ _ => rfl)) pa_nil))))), ?_⟩
    refine r_st (σ' := [some x, some y]) rfl ?_
    try dsimp only [cxOf]
    obtain ⟨A, M, i, rfl, rfl, hA, hF, he, hq⟩ := h
    walk_at "sx"
    refine r_hmeth hA (by decide +kernel) ?_
    walk_at "sx"
    refine ⟨A, M, i, rfl, rfl, hA, fun g => ?_, he⟩
    have hq := hq g
    obtain ⟨j, rfl⟩ : ∃ j : Nat, i = (j : Int) := ⟨i.toNat, by have := g.1; omega⟩
    have hj : j < M.rd.length := by have := g.2; omega
    rw [Int.toNat_natCast] at hq
    walk_at "sx"
    refine r_letters TX.hl hA ?_
    obtain ⟨ve, eve, tve⟩ := hA.le
    refine r_tyL eve ?_
    walk_at "sx"
    refine r_letters TX.hl hA ?_
    walk_at "sx"
    refine ls_ix hA.le (i := j) (d := (M.rd.getD j (.brk 0 0)).d) (by rw [List.getElem?_map, getD_some hj]; rfl) (fun v tv => ?_)
    walk_at "sx"
    refine h_lay hA tv (by have := hF.rd; omega) (fun H1 hA1 f1 => ?_)
    walk_at "sx"
    exact hq H1 hA1 f1
theorem sc_Lwaits_anew : FnScope ["_law_state", "_law_agents", "_law_locks", "_law_one", "_law_other", "_law_hall", "_law_asked", "_law_step", "_law_path"] ["_law_state"] (defScope s_Lwaits_anew) := ⟨rfl, rfl, rfl, by decide +kernel, rfl, by decide +kernel, by decide +kernel⟩
theorem ok_Lwaits_anew (TX : Txt K mg) : OkF P w K mg base 10 (He.ga K "_law_waits_anew") ["_law_state"] (sp_Lanew K) := by
  obtain ⟨⟨fd_Lsame, G_Lsame, b_Lsame⟩, k_Lsame⟩ := (ok_Lsame TX : OkF P w K mg base _ _ _ _)
  obtain ⟨⟨fd_h_broken, G_h_broken, b_h_broken⟩, k_h_broken⟩ := (ok_h_broken TX : OkF P w K mg base _ _ _ _)
  obtain ⟨⟨fd_h_told, G_h_told, b_h_told⟩, k_h_told⟩ := (ok_h_told TX : OkF P w K mg base _ _ _ _)
  obtain ⟨⟨fd_t_waits, G_t_waits, b_t_waits⟩, k_t_waits⟩ := (ok_t_waits TX : OkF P w K mg base _ _ _ _)
  obtain ⟨⟨fd_h_table, G_h_table, b_h_table⟩, k_h_table⟩ := (ok_h_table TX : OkF P w K mg base _ _ _ _)
  obtain ⟨⟨fd_h_road, G_h_road, b_h_road⟩, k_h_road⟩ := (ok_h_road TX : OkF P w K mg base _ _ _ _)
  obtain ⟨⟨fd_h_carry, G_h_carry, b_h_carry⟩, k_h_carry⟩ := (ok_h_carry TX : OkF P w K mg base _ _ _ _)
  obtain ⟨⟨fd_h_ask, G_h_ask, b_h_ask⟩, k_h_ask⟩ := (ok_h_ask TX : OkF P w K mg base _ _ _ _)
  obtain ⟨⟨fd_h_double, G_h_double, b_h_double⟩, k_h_double⟩ := (ok_h_double TX : OkF P w K mg base _ _ _ _)
  obtain ⟨⟨fd_h_lose, G_h_lose, b_h_lose⟩, k_h_lose⟩ := (ok_h_lose TX : OkF P w K mg base _ _ _ _)
  obtain ⟨⟨fd_h_init, G_h_init, b_h_init⟩, k_h_init⟩ := (ok_h_init TX : OkF P w K mg base _ _ _ _)
  obtain ⟨⟨fd_Ldrawn, G_Ldrawn, b_Ldrawn⟩, k_Ldrawn⟩ := (ok_Ldrawn TX : OkF P w K mg base _ _ _ _)
  obtain ⟨⟨fd_Lorder, G_Lorder, b_Lorder⟩, k_Lorder⟩ := (ok_Lorder TX : OkF P w K mg base _ _ _ _)
  refine okF TX.f_Lwaits_anew sc_Lwaits_anew (fun _ _ _ _ _ _ us hl => match us, hl with | [_], _ => rfl) (fun vs H Q E h => ?_) (fun cdv A outer s H vs Q E hr h => ?_)
  · obtain ⟨_, rfl, _⟩ := h
    rfl
  · obtain ⟨x, rfl, h⟩ := h
    refine ⟨_, (pss_cons (ps_par (i := 1) (j := 2) (by rfl) sc_Lwaits_anew.nd rfl rfl (by decide) rfl rfl (pa_cons (pe_call G_Lorder (hr.mono (by decide)) (by rfl) TX.g_Lorder k_Lorder b_Lorder .nil pE (pa_cons (pv 0) pa_nil)) (pa_cons (pe_call G_Lorder (hr.mono (by decide)) (by rfl) TX.g_Lorder k_Lorder b_Lorder .nil pE (pa_cons (pv 0) pa_nil)) pa_nil)) (by rfl)) (pss_cons (ps_asg (pe_callB (k_sortedI (K := K) rfl) (by rfl) TX.z_sorted (by decide +kernel) (pa_cons (pe_slice (k_slL (K := K) rfl) (pv 1) po_none (po_some pe_int)) pa_nil)) (pg_lst (by rfl) (pgs_cons (pg_name (i := 3) sc_Lwaits_anew.nd rfl (Or.inl rfl)) (pgs_cons (pg_name (i := 4) sc_Lwaits_anew.nd rfl (Or.inl rfl)) pgs_nil)))) (pss_cons (ps_set (i := 5) sc_Lwaits_anew.nd rfl (Or.inl rfl) (pe_make TX.k_Hall G_h_init (hr.mono (by decide)) (by rfl) TX.g_Hall b_h_init .nil pE (pa_cons pe_int (pa_cons pe_int (pa_cons (pe_op op_add pe_int (pe_call G_Ldrawn (hr.mono (by decide)) (by rfl) TX.g_Ldrawn k_Ldrawn b_Ldrawn .nil pE (pa_cons (pv 0) (pa_cons pe_int pa_nil)))) pa_nil))))) (pss_cons (ps_set (i := 6) sc_Lwaits_anew.nd rfl (Or.inl rfl) (pe_lst (pa_cons (pe_meth (pv 5) TX.c_Hall TX.m_h_ask G_h_ask (hr.mono (by decide)) b_h_ask .nil pE (pa_cons (pv 4) (pa_cons (pe_ix (k_ixl (K := K) rfl) (pv 2) pe_int (fun _ _ => rfl)) pa_nil))) (pa_cons (pe_meth (pv 5) TX.c_Hall TX.m_h_ask G_h_ask (hr.mono (by decide)) b_h_ask .nil pE (pa_cons (pv 3) (pa_cons (pe_ix (k_ixl (K := K) rfl) (pv 2) pe_int (fun _ _ => rfl)) pa_nil))) (pa_cons (pe_meth (pv 5) TX.c_Hall TX.m_h_ask G_h_ask (hr.mono (by decide)) b_h_ask .nil pE (pa_cons (pv 4) (pa_cons (pe_ix (k_ixl (K := K) rfl) (pv 2) pe_int (fun _ _ => rfl)) pa_nil))) (pa_cons (pe_meth (pv 5) TX.c_Hall TX.m_h_ask G_h_ask (hr.mono (by decide)) b_h_ask .nil pE (pa_cons (pv 3) (pa_cons (pe_ix (k_ixl (K := K) rfl) (pv 2) pe_int (fun _ _ => rfl)) pa_nil))) pa_nil)))))) (pss_cons (ps_if (pt_cmpR (k_neD (K := K) rfl hr.units) (pv 6) (pe_lst (pa_cons pe_bl (pa_cons pe_bl (pa_cons pe_bl (pa_cons pe_bl pa_nil))))) (nomark _)) (pss_one (ps_ret pe_bl)) pss_nil) (pss_cons (ps_expr (pe_meth (pv 5) TX.c_Hall TX.m_h_lose G_h_lose (hr.mono (by decide)) b_h_lose .nil pE (pa_cons pe_int pa_nil))) (pss_cons (ps_for pOwn rfl (pi_range1 (by rfl) TX.z_range (pa_cons pe_int pa_nil)) (pg_name (i := 7) sc_Lwaits_anew.nd rfl (Or.inl rfl)) (pss_one (ps_expr (pe_meth (pv 5) TX.c_Hall TX.m_h_carry G_h_carry (hr.mono (by decide)) b_h_carry .nil pE (pa_cons pe_int pa_nil))))) (pss_cons (ps_set (i := 8) sc_Lwaits_anew.nd rfl (Or.inl rfl) (pe_tup (pa_cons (pe_tup (pa_cons (pv 4) (pa_cons pe_int (pa_cons pe_int pa_nil)))) (pa_cons (pe_tup (pa_cons (pv 3) (pa_cons pe_int (pa_cons pe_int pa_nil)))) pa_nil)))) (pss_cons (ps_if (pt_not (pt_val (pe_call G_Lsame (hr.mono (by decide)) (by rfl) TX.g_Lsame k_Lsame b_Lsame .nil pE (pa_cons (pe_meth0 (pv 5) TX.c_Hall TX.m_h_road G_h_road (hr.mono (by decide)) b_h_road .nil pE) (pa_cons (pe_lst (pa_cons (pe_tup (pa_cons pe_str (pa_cons (pv 8) (pa_cons pe_int pa_nil)))) pa_nil)) pa_nil))))) (pss_one (ps_ret pe_bl)) pss_nil) (pss_cons (ps_expr (pe_meth (pv 5) TX.c_Hall TX.m_h_double G_h_double (hr.mono (by decide)) b_h_double .nil pE (pa_cons pe_int pa_nil))) (pss_cons (ps_expr (pe_meth (pv 5) TX.c_Hall TX.m_h_carry G_h_carry (hr.mono (by decide)) b_h_carry .nil pE (pa_cons pe_int pa_nil))) (pss_cons (ps_expr (pe_meth (pv 5) TX.c_Hall TX.m_h_carry G_h_carry (hr.mono (by decide)) b_h_carry .nil pE (pa_cons pe_int pa_nil))) (pss_cons (ps_expr (pe_meth (pv 5) TX.c_Hall TX.m_h_double G_h_double (hr.mono (by decide)) b_h_double .nil pE (pa_cons pe_int pa_nil))) (pss_cons (ps_expr (pe_meth (pv 5) TX.c_Hall TX.m_h_carry G_h_carry (hr.mono (by decide)) b_h_carry .nil pE (pa_cons pe_int pa_nil))) (pss_cons (ps_if (PW.pt (pw_or (pt_not (pt_val (pe_call G_Lsame (hr.mono (by decide)) (by rfl) TX.g_Lsame k_Lsame b_Lsame .nil pE (pa_cons (pe_lst (pa_cons (pe_meth0 (pv 5) TX.c_Hall TX.m_h_told G_h_told (hr.mono (by decide)) b_h_told .nil pE) (pa_cons (pe_meth0 (pv 5) TX.c_Hall TX.m_h_broken G_h_broken (hr.mono (by decide)) b_h_broken .nil pE) pa_nil))) (pa_cons (pe_lst (pa_cons (pe_lst (pa_cons (pe_tup (pa_cons (pv 8) (pa_cons (pv 3) pa_nil))) pa_nil)) (pa_cons (pe_lst (pa_cons (pe_tup (pa_cons (pv 3) (pa_cons pe_int pa_nil))) pa_nil)) pa_nil))) pa_nil))))) (pw_or1 (pt_val (pe_meth (pv 5) TX.c_Hall TX.m_h_ask G_h_ask (hr.mono (by decide)) b_h_ask .nil pE (pa_cons (pv 3) (pa_cons (pe_ix (k_ixl (K := K) rfl) (pv 2) pe_int (fun _ _ => rfl)) pa_nil))))))) (pss_one (ps_ret pe_bl)) pss_nil) (pss_cons (ps_expr (pe_meth (pv 5) TX.c_Hall TX.m_h_carry G_h_carry (hr.mono (by decide)) b_h_carry .nil pE (pa_cons pe_int pa_nil))) (pss_cons (ps_expr (pe_meth (pv 5) TX.c_Hall TX.m_h_carry G_h_carry (hr.mono (by decide)) b_h_carry .nil pE (pa_cons pe_int pa_nil))) (pss_cons (ps_if (PW.pt (pw_or (pt_not (pt_val (pe_call G_Lsame (hr.mono (by decide)) (by rfl) TX.g_Lsame k_Lsame b_Lsame .nil pE (pa_cons (pe_meth0 (pv 5) TX.c_Hall TX.m_h_road G_h_road (hr.mono (by decide)) b_h_road .nil pE) (pa_cons (pe_lst (pa_cons (pe_tup (pa_cons pe_str (pa_cons (pe_tup (pa_cons (pe_tup (pa_cons (pv 3) (pa_cons pe_int (pa_cons pe_int pa_nil)))) pa_nil)) (pa_cons (pe_ix (k_ixl (K := K) rfl) (pv 2) pe_int (fun _ _ => rfl)) pa_nil)))) pa_nil)) pa_nil))))) (pw_or1 (pt_cmpR (op_ne) (pe_meth (pe_meth0 (pv 5) TX.c_Hall TX.m_h_table G_h_table (hr.mono (by decide)) b_h_table .nil pE) TX.c_Table TX.m_t_waits G_t_waits (hr.mono (by decide)) b_t_waits .nil pE (pa_cons (pv 3) pa_nil)) (pe_ix (k_ixl (K := K) rfl) (pv 2) pe_int (fun _ _ => rfl)) (nomark _))))) (pss_one (ps_ret pe_bl)) pss_nil) (pss_one (ps_ret (pe_call G_Lsame (hr.mono (by decide)) (by rfl) TX.g_Lsame k_Lsame b_Lsame .nil pE (pa_cons (pe_lst (pa_cons (pe_meth0 (pv 5) TX.c_Hall TX.m_h_told G_h_told (hr.mono (by decide)) b_h_told .nil pE) (pa_cons (pe_meth0 (pv 5) TX.c_Hall TX.m_h_broken G_h_broken (hr.mono (by decide)) b_h_broken .nil pE) pa_nil))) (pa_cons (pe_lst (pa_cons (pe_lst (pa_cons (pe_tup (pa_cons (pv 8) (pa_cons (pv 3) pa_nil))) pa_nil)) (pa_cons (pe_lst (pa_cons (pe_tup (pa_cons (pv 3) (pa_cons pe_int pa_nil))) pa_nil)) pa_nil))) pa_nil))))))))))))))))))))))), ?_⟩
    refine r_st (σ' := [some x, none, none, none, none, none, none, none, none]) rfl ?_
    try dsimp only [cxOf]
    obtain ⟨st, sc, ns, rfl, hS, hF, hq⟩ := h
    walk_at "sx"
    refine ⟨st, sc, ns, rfl, hS, hF, fun pa a0 a1 a2 a3 G1 oa ha1 ea hS1 g1 => ?_⟩
    walk_at "sx"
    refine ⟨st, sc, ns, rfl, hS1, hF, fun pl l0 l1 l2 l3 G2 ol hl1 el hS2 g2 => ?_⟩
    walk_at "sx"
    refine ⟨_, _, rfl, ?_⟩
    have na : pa ≠ st := fun z => hS.some (z ▸ ha1)
    have nl : pl ≠ st := fun z => hS1.some (z ▸ hl1)
    have ea2 := g2.old _ _ ea na
    walk_at "sx"
    refine r_slTo15 (k := 2) rfl ea2 (by show 2 ≤ 4; decide) (fun ps G3 hps eps g3 => ?_)
    walk_at "sx"
    refine r_sort2 (a := a0) (b := a1) eps (fun pt G4 hpt ept g4 => ?_)
    walk_at "sx"
    refine ⟨pt, _, rfl, SqL.of ept, rfl, ?_⟩
    refine ⟨_, _, rfl, ?_⟩
    refine ⟨_, _, rfl, ?_⟩
    refine ⟨rfl, ?_⟩
    walk_at "sx"
    have hS4 := (hS2.fr0 g3).fr0 g4
    refine ⟨st, sc, ns, 4, rfl, rfl, hS4, by decide, by decide, hF, fun r H0 hr hS0 g5 => ?_⟩
    have eaB := g5.old _ _ ((g3.trans g4).lst ea2) na
    have elB := g5.old _ _ ((g3.trans g4).lst el) nl
    have gB : Fr (Only1 st) H H0 := ((g1.trans g2).trans (g3.trans g4).up).trans g5
    obtain ⟨q1, q2, q3⟩ := ord_sort oa
    obtain ⟨c1, c2, c3, c4, c5, c6⟩ := ord_nodup oa
    obtain ⟨b1, b2, b3, b4, b5, b6⟩ := ord_nodup ol
    obtain ⟨d1, d2, d3, d4, _⟩ := oa
    obtain ⟨v1, v2, v3, v4, _⟩ := ol
    walk_at "sx"
    refine r_makeOn (fun x dx H1 hx e1 f1 => ?_)
    walk_at "sx"
    refine ⟨x, dx, _, _, _, rfl, rfl, rfl, rfl, e1, fun z => absurd (⟨⟨⟨by decide, by decide⟩, by decide, by decide⟩, by omega, by omega⟩ : HlOk 4 4 (1 + (r : Int))) z, fun _ A H2 eA hA f2 hnew => ⟨rfl, ?_⟩⟩
    subst eA
    have ek : (1 + (r : Int)).toNat = r + 1 := by omega
    have hA2 : HlAt K H2 A (Hl.fresh 4 4 (r + 1)) := by rw [← ek]; exact hA
    have F2 : Fr No H0 H2 := f1.mutO f2 hx
    have nA : ∀ b, A.has b → H0 b = none := fun b hb => by
      by_cases z : b = A.p
      · rw [z]; exact hx
      · exact f1.fresh (hnew b hb z)
    have O0 : (Hl.fresh 4 4 (r + 1)).Ok := Hl.Ok.new hA.tb.sz (by omega) (by omega)
    have R0 := fresh_room (k := r + 1)
    have lr : ∀ {N : Hl} {n : Nat}, N.Room n → N.rd.length ≤ 2000 := fun r => by have := r.rd; omega
    obtain ⟨Mz, E0⟩ := waits_ok (o := min a0 a1) (x := max a0 a1) (a := l0) (b := l1) (k := r + 1) q1 (by omega) v1 v2 b1 (by omega) (by omega)
    rw [waitsE_eq] at E0
    generalize hM0 : Hl.fresh 4 4 (r + 1) = M0 at *
    clear hA ek hnew f1 f2 e1
    unfold waitsA at E0
    walk_at "sx"
    refine r_hmeth hA2 (by decide +kernel) ?_
    walk_at "sx"
    refine r_ixl (i := 0) (F2.lst elB) rfl ?_
    walk_at "sx"
    obtain ⟨M1, h1, E1⟩ := evs_cons E0
    refine ⟨A, _, _, _, rfl, rfl, rfl, hA2, O0, lr R0, fun w e => (ask_no h1 e).elim, fun o H3 eo hA3 f3 => ?_⟩
    obtain ⟨rfl, hA3⟩ := ask_yes h1 eo hA3
    have F3 := HlA.apart nA F2 f3
    have O1 := ev_ok O0 h1
    have R1 : M1.Room 59 := ev_room O0 R0 h1
    walk_at "sx"
    walk_at "sx"
    refine r_hmeth hA3 (by decide +kernel) ?_
    walk_at "sx"
    refine r_ixl (i := 1) (F3.lst elB) rfl ?_
    walk_at "sx"
    obtain ⟨M2, h2, E2⟩ := evs_cons E1
    refine ⟨A, _, _, _, rfl, rfl, rfl, hA3, O1, lr R1, fun w e => (ask_no h2 e).elim, fun o H4 eo hA4 f4 => ?_⟩
    obtain ⟨rfl, hA4⟩ := ask_yes h2 eo hA4
    have F4 := HlA.apart nA F3 f4
    have O2 := ev_ok O1 h2
    have R2 : M2.Room 58 := ev_room O1 R1 h2
    walk_at "sx"
    walk_at "sx"
    refine r_hmeth hA4 (by decide +kernel) ?_
    walk_at "sx"
    refine r_ixl (i := 1) (F4.lst elB) rfl ?_
    walk_at "sx"
    obtain ⟨M3, h3, E3⟩ := evs_cons E2
    refine ⟨A, _, _, _, rfl, rfl, rfl, hA4, O2, lr R2, fun w e => (ask_no h3 e).elim, fun o H5 eo hA5 f5 => ?_⟩
    obtain ⟨rfl, hA5⟩ := ask_yes h3 eo hA5
    have F5 := HlA.apart nA F4 f5
    have O3 := ev_ok O2 h3
    have R3 : M3.Room 57 := ev_room O2 R2 h3
    walk_at "sx"
    walk_at "sx"
    refine r_hmeth hA5 (by decide +kernel) ?_
    walk_at "sx"
    refine r_ixl (i := 0) (F5.lst elB) rfl ?_
    walk_at "sx"
    obtain ⟨M4, h4, E4⟩ := evs_cons E3
    refine ⟨A, _, _, _, rfl, rfl, rfl, hA5, O3, lr R3, fun w e => (ask_no h4 e).elim, fun o H6 eo hA6 f6 => ?_⟩
    obtain ⟨rfl, hA6⟩ := ask_yes h4 eo hA6
    have F6 := HlA.apart nA F5 f6
    have O4 := ev_ok O3 h4
    have R4 : M4.Room 56 := ev_room O3 R3 h4
    walk_at "sx"
    refine r_newL (by show 4 ≤ 2000; decide) (fun p7 H7 hp7 e7 f7 => ?_)
    have hA7 := hA6.fr0 f7
    have F7 := F6.trans f7
    walk_at "sx"
    refine r_newL (by show 4 ≤ 2000; decide) (fun p8 H8 hp8 e8 f8 => ?_)
    have l_x_8 := f8.lst e7
    have hA8 := hA7.fr0 f8
    have F8 := F7.trans f8
    refine r_neSame15 (bools_at (xs := [true, true, false, false]) (f8.lst e7)) (bools_at e8) (bools_cmp _) ?_
    walk_at "sx"
    walk_at "sx"
    refine r_hmeth hA8 (by decide +kernel) ?_
    walk_at "sx"
    obtain ⟨M5, h5, E5⟩ := evs_cons E4
    refine ⟨A, _, _, rfl, rfl, hA8, R4.few, fun z => absurd (lose_lt h5) z, fun _ H9 hA9 f9 => ?_⟩
    have hA9 := lose_yes h5 hA9
    have F9 := HlA.apart nA F8 f9
    have O5 := ev_ok O4 h5
    have R5 : M5.Room 55 := ev_room O4 R4 h5
    walk_at "sx"
    refine r_forRx ?_
    walk_at "sx"
    refine r_rngOn (n := 4) (by decide) (fun i σ' H' => ∃ (x7 : Option V) (N : Hl), σ' = [some (.ref st), some (.ref pa), some (.ref pl), some (nV (min a0 a1)), some (nV (max a0 a1)), some (.ref A.p), some (.ref p7), x7, none] ∧ HlAt K H' A N ∧ N.Ok ∧ N.Room (55 - i) ∧ N.evs (List.replicate (4 - i) (.carry 0) ++ waitsR (min a0 a1) (max a0 a1) l0) = some Mz ∧ Fr No H0 H') ⟨_, M5, rfl, hA9, O5, R5, E5, F9⟩ (fun i σ' H' hi p => ?_) (fun σ' H' p => ?_)
    · obtain ⟨x7, N, rfl, hN, oN, rN, eN, fN⟩ := p
      have e4 : 4 - i = (4 - (i + 1)) + 1 := by omega
      rw [e4] at eN
      obtain ⟨N1, h1, h2⟩ := evs_cons (show N.evs (.carry 0 :: (List.replicate (4 - (i + 1)) (.carry 0) ++ waitsR (min a0 a1) (max a0 a1) l0)) = some Mz from eN)
      walk_at "sx"
      refine r_hmeth hN (by decide +kernel) ?_
      walk_at "sx"
      refine ⟨A, _, _, rfl, rfl, hN, oN, rN.few, fun z => absurd (carry_lt h1) z, fun _ H2 hA2 f2 => ?_⟩
      have hA2 := carry_yes h1 hA2
      walk_at "sx"
      refine ⟨_, N1, rfl, hA2, ev_ok oN h1, ev_room oN (show N.Room ((55 - (i + 1)) + 1) by rw [show 55 - (i + 1) + 1 = 55 - i by omega]; exact rN) h1, h2, HlA.apart nA fN f2⟩
    clear R1 R2 R3 R4 R5 h1 h2 h3 h4 h5
    obtain ⟨x7, M6, rfl, hA10, O6, R6, E6, F10⟩ := p
    generalize H' = H10 at *
    have E6 : M6.evs (waitsR (min a0 a1) (max a0 a1) l0) = some Mz := E6
    have R6 : M6.Room 51 := R6
    unfold waitsR at E6
    walk_at "sx"
    refine r_newT (by show 3 ≤ 2000; decide) (fun p11 H11 hp11 e11 f11 => ?_)
    have hA11 := hA10.fr0 f11
    have F11 := F10.trans f11
    walk_at "sx"
    refine r_newT (by show 3 ≤ 2000; decide) (fun p12 H12 hp12 e12 f12 => ?_)
    have t_pa_12 := f12.tup _ _ e11
    have hA12 := hA11.fr0 f12
    have F12 := F11.trans f12
    walk_at "sx"
    refine r_newT (by show 2 ≤ 2000; decide) (fun p13 H13 hp13 e13 f13 => ?_)
    have t_pa_13 := f13.tup _ _ t_pa_12
    have t_pb_13 := f13.tup _ _ e12
    have hA13 := hA12.fr0 f13
    have F13 := F12.trans f13
    walk_at "sx"
    walk_at "sx"
    refine r_hmeth hA13 (by decide +kernel) ?_
    walk_at "sx"
    refine ⟨A, _, rfl, hA13, fun p14 H14 hp14 ls14 f14 => ?_⟩
    have t_pa_14 := f14.tup _ _ t_pa_13
    have t_pb_14 := f14.tup _ _ t_pb_13
    have t_path_14 := f14.tup _ _ e13
    have hA14 := hA13.fr0 f14
    have F14 := F13.trans f14
    obtain ⟨N7, n7, E7⟩ := evs_cons E6
    obtain ⟨er, u7⟩ := ev_if n7
    subst u7
    walk_at "sx"
    refine r_newT (by show 3 ≤ 2000; decide) (fun p15 H15 hp15 e15 f15 => ?_)
    have t_pa_15 := f15.tup _ _ t_pa_14
    have t_pb_15 := f15.tup _ _ t_pb_14
    have t_path_15 := f15.tup _ _ t_path_14
    have hA15 := hA14.fr0 f15
    have F15 := F14.trans f15
    walk_at "sx"
    refine r_newL (by show 1 ≤ 2000; decide) (fun p16 H16 hp16 e16 f16 => ?_)
    have t_pa_16 := f16.tup _ _ t_pa_15
    have t_pb_16 := f16.tup _ _ t_pb_15
    have t_path_16 := f16.tup _ _ t_path_15
    have t_s_16 := f16.tup _ _ e15
    have hA16 := hA15.fr0 f16
    have F16 := F15.trans f16
    walk_at "sx"
    have hd := dd_road O6 (lr R6) (ls14.fr ((f15.trans f16) : Fr No H14 H16) (fun z => z))
    rw [er] at hd
    refine ⟨_, hd, .lst e16 (by show 1 ≤ 2000; decide) (.cons (.tup t_s_16 (by show 3 ≤ 2000; decide) (.cons (.str _) (.cons (.tup t_path_16 (by show 2 ≤ 2000; decide) (.cons (.tup t_pa_16 (by show 3 ≤ 2000; decide) (.cons (.int _) (.cons (.int _) (.cons (.int _) .nil)))) (.cons (.tup t_pb_16 (by show 3 ≤ 2000; decide) (.cons (.int _) (.cons (.int _) (.cons (.int _) .nil)))) .nil))) (.cons (.int _) .nil)))) .nil), road_depth _, fun H17 f17 => ?_⟩
    have t_pa_17 := f17.tup _ _ t_pa_16
    have t_pb_17 := f17.tup _ _ t_pb_16
    have t_path_17 := f17.tup _ _ t_path_16
    have t_s_17 := f17.tup _ _ t_s_16
    have l_l_17 := f17.lst e16
    have hA17 := hA16.fr0 f17
    have F17 := F16.trans f17
    walk_at "sx"
    walk_at "sx"
    refine r_hmeth hA17 (by decide +kernel) ?_
    walk_at "sx"
    obtain ⟨M7, h7, E8⟩ := evs_cons E7
    refine ⟨A, _, _, rfl, rfl, hA17, R6.few, fun z => absurd (double_lt h7) z, fun _ H18 hA18 f18 => ?_⟩
    have hA18 := double_yes h7 hA18
    have t_pa_18 := f18.tup _ _ t_pa_17
    have t_pb_18 := f18.tup _ _ t_pb_17
    have t_path_18 := f18.tup _ _ t_path_17
    have F18 := HlA.apart nA F17 f18
    have O7 := ev_ok O6 h7
    have R7 : M7.Room 50 := ev_room O6 R6 h7
    walk_at "sx"
    walk_at "sx"
    refine r_hmeth hA18 (by decide +kernel) ?_
    walk_at "sx"
    obtain ⟨M8, h8, E9⟩ := evs_cons E8
    refine ⟨A, _, _, rfl, rfl, hA18, O7, R7.few, fun z => absurd (carry_lt h8) z, fun _ H19 hA19 f19 => ?_⟩
    have hA19 := carry_yes h8 hA19
    have t_pa_19 := f19.tup _ _ t_pa_18
    have t_pb_19 := f19.tup _ _ t_pb_18
    have t_path_19 := f19.tup _ _ t_path_18
    have F19 := HlA.apart nA F18 f19
    have O8 := ev_ok O7 h8
    have R8 : M8.Room 49 := ev_room O7 R7 h8
    walk_at "sx"
    walk_at "sx"
    refine r_hmeth hA19 (by decide +kernel) ?_
    walk_at "sx"
    obtain ⟨M9, h9, E10⟩ := evs_cons E9
    refine ⟨A, _, _, rfl, rfl, hA19, O8, R8.few, fun z => absurd (carry_lt h9) z, fun _ H20 hA20 f20 => ?_⟩
    have hA20 := carry_yes h9 hA20
    have t_pa_20 := f20.tup _ _ t_pa_19
    have t_pb_20 := f20.tup _ _ t_pb_19
    have t_path_20 := f20.tup _ _ t_path_19
    have F20 := HlA.apart nA F19 f20
    have O9 := ev_ok O8 h9
    have R9 : M9.Room 48 := ev_room O8 R8 h9
    walk_at "sx"
    walk_at "sx"
    refine r_hmeth hA20 (by decide +kernel) ?_
    walk_at "sx"
    obtain ⟨M10, h10, E11⟩ := evs_cons E10
    refine ⟨A, _, _, rfl, rfl, hA20, R9.few, fun z => absurd (double_lt h10) z, fun _ H21 hA21 f21 => ?_⟩
    have hA21 := double_yes h10 hA21
    have t_pa_21 := f21.tup _ _ t_pa_20
    have t_pb_21 := f21.tup _ _ t_pb_20
    have t_path_21 := f21.tup _ _ t_path_20
    have F21 := HlA.apart nA F20 f21
    have O10 := ev_ok O9 h10
    have R10 : M10.Room 47 := ev_room O9 R9 h10
    walk_at "sx"
    walk_at "sx"
    refine r_hmeth hA21 (by decide +kernel) ?_
    walk_at "sx"
    obtain ⟨M11, h11, E12⟩ := evs_cons E11
    refine ⟨A, _, _, rfl, rfl, hA21, O10, R10.few, fun z => absurd (carry_lt h11) z, fun _ H22 hA22 f22 => ?_⟩
    have hA22 := carry_yes h11 hA22
    have t_pa_22 := f22.tup _ _ t_pa_21
    have t_pb_22 := f22.tup _ _ t_pb_21
    have t_path_22 := f22.tup _ _ t_path_21
    have F22 := HlA.apart nA F21 f22
    have O11 := ev_ok O10 h11
    have R11 : M11.Room 46 := ev_room O10 R10 h11
    walk_at "sx"
    walk_at "sx"
    refine r_hmeth hA22 (by decide +kernel) ?_
    walk_at "sx"
    refine ⟨A, _, rfl, hA22, fun p23 H23 hp23 ls23 f23 => ?_⟩
    have t_pa_23 := f23.tup _ _ t_pa_22
    have t_pb_23 := f23.tup _ _ t_pb_22
    have t_path_23 := f23.tup _ _ t_path_22
    have hA23 := hA22.fr0 f23
    have F23 := F22.trans f23
    obtain ⟨N13, n13, E13⟩ := evs_cons E12
    obtain ⟨et, u13⟩ := ev_if n13
    subst u13
    walk_at "sx"
    walk_at "sx"
    refine r_hmeth hA23 (by decide +kernel) ?_
    walk_at "sx"
    refine ⟨A, _, rfl, hA23, fun p24 H24 hp24 ls24 f24 => ?_⟩
    have t_pa_24 := f24.tup _ _ t_pa_23
    have t_pb_24 := f24.tup _ _ t_pb_23
    have t_path_24 := f24.tup _ _ t_path_23
    have hA24 := hA23.fr0 f24
    have F24 := F23.trans f24
    obtain ⟨N14, n14, E14⟩ := evs_cons E13
    obtain ⟨eb, u14⟩ := ev_if n14
    subst u14
    walk_at "sx"
    refine r_newL (by show 2 ≤ 2000; decide) (fun p25 H25 hp25 e25 f25 => ?_)
    have t_pa_25 := f25.tup _ _ t_pa_24
    have t_pb_25 := f25.tup _ _ t_pb_24
    have t_path_25 := f25.tup _ _ t_path_24
    have hA25 := hA24.fr0 f25
    have F25 := F24.trans f25
    walk_at "sx"
    refine r_newT (by show 2 ≤ 2000; decide) (fun p26 H26 hp26 e26 f26 => ?_)
    have t_pa_26 := f26.tup _ _ t_pa_25
    have t_pb_26 := f26.tup _ _ t_pb_25
    have t_path_26 := f26.tup _ _ t_path_25
    have l_x_26 := f26.lst e25
    have hA26 := hA25.fr0 f26
    have F26 := F25.trans f26
    walk_at "sx"
    refine r_newL (by show 1 ≤ 2000; decide) (fun p27 H27 hp27 e27 f27 => ?_)
    have t_pa_27 := f27.tup _ _ t_pa_26
    have t_pb_27 := f27.tup _ _ t_pb_26
    have t_path_27 := f27.tup _ _ t_path_26
    have t_s_27 := f27.tup _ _ e26
    have l_x_27 := f27.lst l_x_26
    have hA27 := hA26.fr0 f27
    have F27 := F26.trans f27
    walk_at "sx"
    refine r_newT (by show 2 ≤ 2000; decide) (fun p28 H28 hp28 e28 f28 => ?_)
    have t_pa_28 := f28.tup _ _ t_pa_27
    have t_pb_28 := f28.tup _ _ t_pb_27
    have t_path_28 := f28.tup _ _ t_path_27
    have t_s_28 := f28.tup _ _ t_s_27
    have l_x_28 := f28.lst l_x_27
    have l_y_28 := f28.lst e27
    have hA28 := hA27.fr0 f28
    have F28 := F27.trans f28
    walk_at "sx"
    refine r_newL (by show 1 ≤ 2000; decide) (fun p29 H29 hp29 e29 f29 => ?_)
    have t_pa_29 := f29.tup _ _ t_pa_28
    have t_pb_29 := f29.tup _ _ t_pb_28
    have t_path_29 := f29.tup _ _ t_path_28
    have t_s_29 := f29.tup _ _ t_s_28
    have t_u_29 := f29.tup _ _ e28
    have l_x_29 := f29.lst l_x_28
    have l_y_29 := f29.lst l_y_28
    have hA29 := hA28.fr0 f29
    have F29 := F28.trans f29
    walk_at "sx"
    refine r_newL (by show 2 ≤ 2000; decide) (fun p30 H30 hp30 e30 f30 => ?_)
    have t_pa_30 := f30.tup _ _ t_pa_29
    have t_pb_30 := f30.tup _ _ t_pb_29
    have t_path_30 := f30.tup _ _ t_path_29
    have t_s_30 := f30.tup _ _ t_s_29
    have t_u_30 := f30.tup _ _ t_u_29
    have l_x_30 := f30.lst l_x_29
    have l_y_30 := f30.lst l_y_29
    have l_z_30 := f30.lst e29
    have hA30 := hA29.fr0 f30
    have F30 := F29.trans f30
    walk_at "sx"
    have hd := dd_tells O11 (by have := R11.tl; omega) (ls23.fr (((((((f24.trans f25).trans f26).trans f27).trans f28).trans f29).trans f30) : Fr No H23 H30) (fun z => z))
    rw [et] at hd
    have hd2 := dd_broks (by have := R11.br; omega) (ls24.fr ((((((f25.trans f26).trans f27).trans f28).trans f29).trans f30) : Fr No H24 H30) (fun z => z))
    rw [eb] at hd2
    refine ⟨_, .lst l_x_30 (by show 2 ≤ 2000; decide) (.cons hd (.cons hd2 .nil)), .lst e30 (by show 2 ≤ 2000; decide) (.cons (.lst l_y_30 (by show 1 ≤ 2000; decide) (.cons (.tup t_s_30 (by show 2 ≤ 2000; decide) (.cons (.tup t_path_30 (by show 2 ≤ 2000; decide) (.cons (.tup t_pa_30 (by show 3 ≤ 2000; decide) (.cons (.int _) (.cons (.int _) (.cons (.int _) .nil)))) (.cons (.tup t_pb_30 (by show 3 ≤ 2000; decide) (.cons (.int _) (.cons (.int _) (.cons (.int _) .nil)))) .nil))) (.cons (.int _) .nil))) .nil)) (.cons (.lst l_z_30 (by show 1 ≤ 2000; decide) (.cons (.tup t_u_30 (by show 2 ≤ 2000; decide) (.cons (.int _) (.cons (.int _) .nil))) .nil)) .nil)), two_depth (toldA _) (brokA _), fun H31 f31 => ?_⟩
    have t_pa_31 := f31.tup _ _ t_pa_30
    have t_pb_31 := f31.tup _ _ t_pb_30
    have t_path_31 := f31.tup _ _ t_path_30
    have t_s_31 := f31.tup _ _ t_s_30
    have t_u_31 := f31.tup _ _ t_u_30
    have l_x_31 := f31.lst l_x_30
    have l_y_31 := f31.lst l_y_30
    have l_z_31 := f31.lst l_z_30
    have l_v_31 := f31.lst e30
    have hA31 := hA30.fr0 f31
    have F31 := F30.trans f31
    walk_at "sx"
    walk_at "sx"
    refine r_hmeth hA31 (by decide +kernel) ?_
    walk_at "sx"
    refine r_ixl (i := 0) (F31.lst elB) rfl ?_
    walk_at "sx"
    obtain ⟨M12, h12, E15⟩ := evs_cons E14
    refine ⟨A, _, _, _, rfl, rfl, rfl, hA31, O11, lr R11, fun w e => (ask_no h12 e).elim, fun o H32 eo hA32 f32 => ?_⟩
    obtain ⟨rfl, hA32⟩ := ask_yes h12 eo hA32
    have t_pa_32 := f32.tup _ _ t_pa_31
    have t_pb_32 := f32.tup _ _ t_pb_31
    have t_path_32 := f32.tup _ _ t_path_31
    have F32 := HlA.apart nA F31 f32
    have O12 := ev_ok O11 h12
    have R12 : M12.Room 45 := ev_room O11 R11 h12
    refine ⟨false, rfl, ?_⟩
    walk_at "sx"
    walk_at "sx"
    refine r_hmeth hA32 (by decide +kernel) ?_
    walk_at "sx"
    obtain ⟨M13, h13, E16⟩ := evs_cons E15
    refine ⟨A, _, _, rfl, rfl, hA32, O12, R12.few, fun z => absurd (carry_lt h13) z, fun _ H33 hA33 f33 => ?_⟩
    have hA33 := carry_yes h13 hA33
    have t_pa_33 := f33.tup _ _ t_pa_32
    have t_pb_33 := f33.tup _ _ t_pb_32
    have t_path_33 := f33.tup _ _ t_path_32
    have F33 := HlA.apart nA F32 f33
    have O13 := ev_ok O12 h13
    have R13 : M13.Room 44 := ev_room O12 R12 h13
    walk_at "sx"
    walk_at "sx"
    refine r_hmeth hA33 (by decide +kernel) ?_
    walk_at "sx"
    obtain ⟨M14, h14, E17⟩ := evs_cons E16
    refine ⟨A, _, _, rfl, rfl, hA33, O13, R13.few, fun z => absurd (carry_lt h14) z, fun _ H34 hA34 f34 => ?_⟩
    have hA34 := carry_yes h14 hA34
    have t_pa_34 := f34.tup _ _ t_pa_33
    have t_pb_34 := f34.tup _ _ t_pb_33
    have t_path_34 := f34.tup _ _ t_path_33
    have F34 := HlA.apart nA F33 f34
    have O14 := ev_ok O13 h14
    have R14 : M14.Room 43 := ev_room O13 R13 h14
    walk_at "sx"
    walk_at "sx"
    refine r_hmeth hA34 (by decide +kernel) ?_
    walk_at "sx"
    refine ⟨A, _, rfl, hA34, fun p35 H35 hp35 ls35 f35 => ?_⟩
    have t_pa_35 := f35.tup _ _ t_pa_34
    have t_pb_35 := f35.tup _ _ t_pb_34
    have t_path_35 := f35.tup _ _ t_path_34
    have hA35 := hA34.fr0 f35
    have F35 := F34.trans f35
    obtain ⟨N18, n18, E18⟩ := evs_cons E17
    obtain ⟨er, u18⟩ := ev_if n18
    subst u18
    walk_at "sx"
    refine r_newT (by show 3 ≤ 2000; decide) (fun p36 H36 hp36 e36 f36 => ?_)
    have t_pa_36 := f36.tup _ _ t_pa_35
    have t_pb_36 := f36.tup _ _ t_pb_35
    have t_path_36 := f36.tup _ _ t_path_35
    have hA36 := hA35.fr0 f36
    have F36 := F35.trans f36
    walk_at "sx"
    refine r_newT (by show 1 ≤ 2000; decide) (fun p37 H37 hp37 e37 f37 => ?_)
    have t_pa_37 := f37.tup _ _ t_pa_36
    have t_pb_37 := f37.tup _ _ t_pb_36
    have t_path_37 := f37.tup _ _ t_path_36
    have t_p_37 := f37.tup _ _ e36
    have hA37 := hA36.fr0 f37
    have F37 := F36.trans f37
    walk_at "sx"
    refine r_ixl (i := 0) (F37.lst elB) rfl ?_
    walk_at "sx"
    refine r_newT (by show 3 ≤ 2000; decide) (fun p38 H38 hp38 e38 f38 => ?_)
    have t_pa_38 := f38.tup _ _ t_pa_37
    have t_pb_38 := f38.tup _ _ t_pb_37
    have t_path_38 := f38.tup _ _ t_path_37
    have t_p_38 := f38.tup _ _ t_p_37
    have t_q_38 := f38.tup _ _ e37
    have hA38 := hA37.fr0 f38
    have F38 := F37.trans f38
    walk_at "sx"
    refine r_newL (by show 1 ≤ 2000; decide) (fun p39 H39 hp39 e39 f39 => ?_)
    have t_pa_39 := f39.tup _ _ t_pa_38
    have t_pb_39 := f39.tup _ _ t_pb_38
    have t_path_39 := f39.tup _ _ t_path_38
    have t_p_39 := f39.tup _ _ t_p_38
    have t_q_39 := f39.tup _ _ t_q_38
    have t_s_39 := f39.tup _ _ e38
    have hA39 := hA38.fr0 f39
    have F39 := F38.trans f39
    walk_at "sx"
    have hd := dd_road O14 (lr R14) (ls35.fr ((((f36.trans f37).trans f38).trans f39) : Fr No H35 H39) (fun z => z))
    rw [er] at hd
    refine ⟨_, hd, .lst e39 (by show 1 ≤ 2000; decide) (.cons (.tup t_s_39 (by show 3 ≤ 2000; decide) (.cons (.str _) (.cons (.tup t_q_39 (by show 1 ≤ 2000; decide) (.cons (.tup t_p_39 (by show 3 ≤ 2000; decide) (.cons (.int _) (.cons (.int _) (.cons (.int _) .nil)))) .nil)) (.cons (.int _) .nil)))) .nil), road_depth _, fun H40 f40 => ?_⟩
    have t_pa_40 := f40.tup _ _ t_pa_39
    have t_pb_40 := f40.tup _ _ t_pb_39
    have t_path_40 := f40.tup _ _ t_path_39
    have t_p_40 := f40.tup _ _ t_p_39
    have t_q_40 := f40.tup _ _ t_q_39
    have t_s_40 := f40.tup _ _ t_s_39
    have l_y_40 := f40.lst e39
    have hA40 := hA39.fr0 f40
    have F40 := F39.trans f40
    walk_at "sx"
    obtain ⟨N19, n19, E19⟩ := evs_cons E18
    obtain ⟨ew, u19⟩ := ev_if n19
    subst u19
    walk_at "sx"
    refine r_hmeth hA40 (by decide +kernel) ?_
    walk_at "sx"
    refine ⟨A, _, rfl, hA40, fun C H41 hC f41 hn => ?_⟩
    have t_pa_41 := f41.tup _ _ t_pa_40
    have t_pb_41 := f41.tup _ _ t_pb_40
    have t_path_41 := f41.tup _ _ t_path_40
    have l_y_41 := f41.lst l_y_40
    have hA41 := hA40.fr0 f41
    have F41 := F40.trans f41
    walk_at "sx"
    refine r_tmeth hC (by decide +kernel) ?_
    walk_at "sx"
    refine ⟨C, _, _, rfl, rfl, hC, fun _ => ?_, fun z => absurd (Tb.isA_of (Tb.wa_lt ew)) z⟩
    rw [Int.toNat_natCast, ew, oV_some]
    walk_at "sx"
    refine r_ixl (i := 0) (F41.lst elB) rfl ?_
    walk_at "sx"
    refine r_ne rfl ?_
    walk_at "sx"
    refine r_decN (fun z => absurd rfl z) (fun _ => ?_)
    walk_at "sx"
    walk_at "sx"
    refine r_hmeth hA41 (by decide +kernel) ?_
    walk_at "sx"
    refine ⟨A, _, rfl, hA41, fun p42 H42 hp42 ls42 f42 => ?_⟩
    have t_pa_42 := f42.tup _ _ t_pa_41
    have t_pb_42 := f42.tup _ _ t_pb_41
    have t_path_42 := f42.tup _ _ t_path_41
    have l_y_42 := f42.lst l_y_41
    have hA42 := hA41.fr0 f42
    have F42 := F41.trans f42
    obtain ⟨N20, n20, E20⟩ := evs_cons E19
    obtain ⟨et, u20⟩ := ev_if n20
    subst u20
    walk_at "sx"
    walk_at "sx"
    refine r_hmeth hA42 (by decide +kernel) ?_
    walk_at "sx"
    refine ⟨A, _, rfl, hA42, fun p43 H43 hp43 ls43 f43 => ?_⟩
    have t_pa_43 := f43.tup _ _ t_pa_42
    have t_pb_43 := f43.tup _ _ t_pb_42
    have t_path_43 := f43.tup _ _ t_path_42
    have l_y_43 := f43.lst l_y_42
    have hA43 := hA42.fr0 f43
    have F43 := F42.trans f43
    obtain ⟨N21, n21, E21⟩ := evs_cons E20
    obtain ⟨eb, u21⟩ := ev_if n21
    subst u21
    walk_at "sx"
    refine r_newL (by show 2 ≤ 2000; decide) (fun p44 H44 hp44 e44 f44 => ?_)
    have t_pa_44 := f44.tup _ _ t_pa_43
    have t_pb_44 := f44.tup _ _ t_pb_43
    have t_path_44 := f44.tup _ _ t_path_43
    have l_y_44 := f44.lst l_y_43
    have hA44 := hA43.fr0 f44
    have F44 := F43.trans f44
    walk_at "sx"
    refine r_newT (by show 2 ≤ 2000; decide) (fun p45 H45 hp45 e45 f45 => ?_)
    have t_pa_45 := f45.tup _ _ t_pa_44
    have t_pb_45 := f45.tup _ _ t_pb_44
    have t_path_45 := f45.tup _ _ t_path_44
    have l_y_45 := f45.lst l_y_44
    have l_x_45 := f45.lst e44
    have hA45 := hA44.fr0 f45
    have F45 := F44.trans f45
    walk_at "sx"
    refine r_newL (by show 1 ≤ 2000; decide) (fun p46 H46 hp46 e46 f46 => ?_)
    have t_pa_46 := f46.tup _ _ t_pa_45
    have t_pb_46 := f46.tup _ _ t_pb_45
    have t_path_46 := f46.tup _ _ t_path_45
    have t_s_46 := f46.tup _ _ e45
    have l_y_46 := f46.lst l_y_45
    have l_x_46 := f46.lst l_x_45
    have hA46 := hA45.fr0 f46
    have F46 := F45.trans f46
    walk_at "sx"
    refine r_newT (by show 2 ≤ 2000; decide) (fun p47 H47 hp47 e47 f47 => ?_)
    have t_pa_47 := f47.tup _ _ t_pa_46
    have t_pb_47 := f47.tup _ _ t_pb_46
    have t_path_47 := f47.tup _ _ t_path_46
    have t_s_47 := f47.tup _ _ t_s_46
    have l_y_47 := f47.lst e46
    have l_x_47 := f47.lst l_x_46
    have hA47 := hA46.fr0 f47
    have F47 := F46.trans f47
    walk_at "sx"
    refine r_newL (by show 1 ≤ 2000; decide) (fun p48 H48 hp48 e48 f48 => ?_)
    have t_pa_48 := f48.tup _ _ t_pa_47
    have t_pb_48 := f48.tup _ _ t_pb_47
    have t_path_48 := f48.tup _ _ t_path_47
    have t_s_48 := f48.tup _ _ t_s_47
    have t_u_48 := f48.tup _ _ e47
    have l_y_48 := f48.lst l_y_47
    have l_x_48 := f48.lst l_x_47
    have hA48 := hA47.fr0 f48
    have F48 := F47.trans f48
    walk_at "sx"
    refine r_newL (by show 2 ≤ 2000; decide) (fun p49 H49 hp49 e49 f49 => ?_)
    have t_pa_49 := f49.tup _ _ t_pa_48
    have t_pb_49 := f49.tup _ _ t_pb_48
    have t_path_49 := f49.tup _ _ t_path_48
    have t_s_49 := f49.tup _ _ t_s_48
    have t_u_49 := f49.tup _ _ t_u_48
    have l_y_49 := f49.lst l_y_48
    have l_x_49 := f49.lst l_x_48
    have l_z_49 := f49.lst e48
    have hA49 := hA48.fr0 f49
    have F49 := F48.trans f49
    walk_at "sx"
    have hd := dd_tells O14 (by have := R14.tl; omega) (ls42.fr (((((((f43.trans f44).trans f45).trans f46).trans f47).trans f48).trans f49) : Fr No H42 H49) (fun z => z))
    rw [et] at hd
    have hd2 := dd_broks (by have := R14.br; omega) (ls43.fr ((((((f44.trans f45).trans f46).trans f47).trans f48).trans f49) : Fr No H43 H49) (fun z => z))
    rw [eb] at hd2
    refine ⟨_, .lst l_x_49 (by show 2 ≤ 2000; decide) (.cons hd (.cons hd2 .nil)), .lst e49 (by show 2 ≤ 2000; decide) (.cons (.lst l_y_49 (by show 1 ≤ 2000; decide) (.cons (.tup t_s_49 (by show 2 ≤ 2000; decide) (.cons (.tup t_path_49 (by show 2 ≤ 2000; decide) (.cons (.tup t_pa_49 (by show 3 ≤ 2000; decide) (.cons (.int _) (.cons (.int _) (.cons (.int _) .nil)))) (.cons (.tup t_pb_49 (by show 3 ≤ 2000; decide) (.cons (.int _) (.cons (.int _) (.cons (.int _) .nil)))) .nil))) (.cons (.int _) .nil))) .nil)) (.cons (.lst l_z_49 (by show 1 ≤ 2000; decide) (.cons (.tup t_u_49 (by show 2 ≤ 2000; decide) (.cons (.int _) (.cons (.int _) .nil))) .nil)) .nil)), two_depth (toldA _) (brokA _), fun H50 f50 => ?_⟩
    exact hq H50 (hS0.fr0 (F49.trans f50)) (gB.trans (F49.trans f50).up)
theorem sc_Lheld_anew : FnScope ["_law_state", "_law_agents", "_law_locks", "_law_one", "_law_other", "_law_hall"] ["_law_state"] (defScope s_Lheld_anew) := ⟨rfl, rfl, rfl, by decide +kernel, rfl, by decide +kernel, by decide +kernel⟩
theorem ok_Lheld_anew (TX : Txt K mg) : OkF P w K mg base 10 (He.ga K "_law_held_anew") ["_law_state"] (sp_Lanew K) := by
  obtain ⟨⟨fd_Lsame, G_Lsame, b_Lsame⟩, k_Lsame⟩ := (ok_Lsame TX : OkF P w K mg base _ _ _ _)
  obtain ⟨⟨fd_h_told, G_h_told, b_h_told⟩, k_h_told⟩ := (ok_h_told TX : OkF P w K mg base _ _ _ _)
  obtain ⟨⟨fd_h_road, G_h_road, b_h_road⟩, k_h_road⟩ := (ok_h_road TX : OkF P w K mg base _ _ _ _)
  obtain ⟨⟨fd_h_carry, G_h_carry, b_h_carry⟩, k_h_carry⟩ := (ok_h_carry TX : OkF P w K mg base _ _ _ _)
  obtain ⟨⟨fd_h_ask, G_h_ask, b_h_ask⟩, k_h_ask⟩ := (ok_h_ask TX : OkF P w K mg base _ _ _ _)
  obtain ⟨⟨fd_h_give, G_h_give, b_h_give⟩, k_h_give⟩ := (ok_h_give TX : OkF P w K mg base _ _ _ _)
  obtain ⟨⟨fd_h_init, G_h_init, b_h_init⟩, k_h_init⟩ := (ok_h_init TX : OkF P w K mg base _ _ _ _)
  obtain ⟨⟨fd_Ldrawn, G_Ldrawn, b_Ldrawn⟩, k_Ldrawn⟩ := (ok_Ldrawn TX : OkF P w K mg base _ _ _ _)
  obtain ⟨⟨fd_Lorder, G_Lorder, b_Lorder⟩, k_Lorder⟩ := (ok_Lorder TX : OkF P w K mg base _ _ _ _)
  refine okF TX.f_Lheld_anew sc_Lheld_anew (fun _ _ _ _ _ _ us hl => match us, hl with | [_], _ => rfl) (fun vs H Q E h => ?_) (fun cdv A outer s H vs Q E hr h => ?_)
  · obtain ⟨_, rfl, _⟩ := h
    rfl
  · obtain ⟨x, rfl, h⟩ := h
    refine ⟨_, (pss_cons (ps_par (i := 1) (j := 2) (by rfl) sc_Lheld_anew.nd rfl rfl (by decide) rfl rfl (pa_cons (pe_call G_Lorder (hr.mono (by decide)) (by rfl) TX.g_Lorder k_Lorder b_Lorder .nil pE (pa_cons (pv 0) pa_nil)) (pa_cons (pe_call G_Lorder (hr.mono (by decide)) (by rfl) TX.g_Lorder k_Lorder b_Lorder .nil pE (pa_cons (pv 0) pa_nil)) pa_nil)) (by rfl)) (pss_cons (ps_asg (pe_callB (k_sortedI (K := K) rfl) (by rfl) TX.z_sorted (by decide +kernel) (pa_cons (pe_slice (k_slL (K := K) rfl) (pv 1) po_none (po_some pe_int)) pa_nil)) (pg_lst (by rfl) (pgs_cons (pg_name (i := 3) sc_Lheld_anew.nd rfl (Or.inl rfl)) (pgs_cons (pg_name (i := 4) sc_Lheld_anew.nd rfl (Or.inl rfl)) pgs_nil)))) (pss_cons (ps_set (i := 5) sc_Lheld_anew.nd rfl (Or.inl rfl) (pe_make TX.k_Hall G_h_init (hr.mono (by decide)) (by rfl) TX.g_Hall b_h_init .nil pE (pa_cons pe_int (pa_cons pe_int (pa_cons (pe_op op_add pe_int (pe_call G_Ldrawn (hr.mono (by decide)) (by rfl) TX.g_Ldrawn k_Ldrawn b_Ldrawn .nil pE (pa_cons (pv 0) (pa_cons pe_int pa_nil)))) pa_nil))))) (pss_cons (ps_if (pt_cmpR (k_neD (K := K) rfl hr.units) (pe_lst (pa_cons (pe_meth (pv 5) TX.c_Hall TX.m_h_ask G_h_ask (hr.mono (by decide)) b_h_ask .nil pE (pa_cons (pv 3) (pa_cons (pe_ix (k_ixl (K := K) rfl) (pv 2) pe_int (fun _ _ => rfl)) pa_nil))) (pa_cons (pe_meth (pv 5) TX.c_Hall TX.m_h_ask G_h_ask (hr.mono (by decide)) b_h_ask .nil pE (pa_cons (pe_ix (k_ixl (K := K) rfl) (pv 1) pe_int (fun _ _ => rfl)) (pa_cons (pe_ix (k_ixl (K := K) rfl) (pv 2) pe_int (fun _ _ => rfl)) pa_nil))) (pa_cons (pe_meth (pv 5) TX.c_Hall TX.m_h_ask G_h_ask (hr.mono (by decide)) b_h_ask .nil pE (pa_cons (pv 4) (pa_cons (pe_ix (k_ixl (K := K) rfl) (pv 2) pe_int (fun _ _ => rfl)) pa_nil))) pa_nil)))) (pe_lst (pa_cons pe_bl (pa_cons pe_bl (pa_cons pe_bl pa_nil)))) (nomark _)) (pss_one (ps_ret pe_bl)) pss_nil) (pss_cons (ps_expr (pe_meth (pv 5) TX.c_Hall TX.m_h_carry G_h_carry (hr.mono (by decide)) b_h_carry .nil pE (pa_cons pe_int pa_nil))) (pss_cons (ps_if (pt_not (pt_val (pe_call G_Lsame (hr.mono (by decide)) (by rfl) TX.g_Lsame k_Lsame b_Lsame .nil pE (pa_cons (pe_meth0 (pv 5) TX.c_Hall TX.m_h_road G_h_road (hr.mono (by decide)) b_h_road .nil pE) (pa_cons (pe_lst (pa_cons (pe_tup (pa_cons pe_str (pa_cons (pe_tup (pa_cons (pe_tup (pa_cons (pv 4) (pa_cons pe_int (pa_cons pe_int pa_nil)))) pa_nil)) (pa_cons (pv 3) (pa_cons (pe_ix (k_ixl (K := K) rfl) (pv 2) pe_int (fun _ _ => rfl)) (pa_cons pe_int pa_nil)))))) pa_nil)) pa_nil))))) (pss_one (ps_ret pe_bl)) pss_nil) (pss_cons (ps_if (pt_cmpR (k_neD (K := K) rfl hr.units) (pe_lst (pa_cons (pe_meth (pv 5) TX.c_Hall TX.m_h_give G_h_give (hr.mono (by decide)) b_h_give .nil pE (pa_cons (pv 3) (pa_cons (pe_ix (k_ixl (K := K) rfl) (pv 2) pe_int (fun _ _ => rfl)) pa_nil))) (pa_cons (pe_meth (pv 5) TX.c_Hall TX.m_h_give G_h_give (hr.mono (by decide)) b_h_give .nil pE (pa_cons (pv 4) (pa_cons (pe_ix (k_ixl (K := K) rfl) (pv 2) pe_int (fun _ _ => rfl)) pa_nil))) pa_nil))) (pe_lst (pa_cons (pv 4) (pa_cons pe_non pa_nil))) (nomark _)) (pss_one (ps_ret pe_bl)) pss_nil) (pss_cons (ps_if (PW.pt (pw_or (pt_cmpR (op_isnot_bl) (pe_meth (pv 5) TX.c_Hall TX.m_h_ask G_h_ask (hr.mono (by decide)) b_h_ask .nil pE (pa_cons (pv 3) (pa_cons (pe_ix (k_ixl (K := K) rfl) (pv 2) pe_int (fun _ _ => rfl)) pa_nil))) pe_bl (nomark _)) (pw_or1 (pt_cmpR (op_isnot_bl) (pe_meth (pv 5) TX.c_Hall TX.m_h_ask G_h_ask (hr.mono (by decide)) b_h_ask .nil pE (pa_cons (pv 3) (pa_cons (pe_ix (k_ixl (K := K) rfl) (pv 2) pe_int (fun _ _ => rfl)) pa_nil))) pe_bl (nomark _))))) (pss_one (ps_ret pe_bl)) pss_nil) (pss_cons (ps_expr (pe_meth (pv 5) TX.c_Hall TX.m_h_carry G_h_carry (hr.mono (by decide)) b_h_carry .nil pE (pa_cons pe_int pa_nil))) (pss_one (ps_ret (pe_call G_Lsame (hr.mono (by decide)) (by rfl) TX.g_Lsame k_Lsame b_Lsame .nil pE (pa_cons (pe_lst (pa_cons (pe_meth0 (pv 5) TX.c_Hall TX.m_h_road G_h_road (hr.mono (by decide)) b_h_road .nil pE) (pa_cons (pe_meth0 (pv 5) TX.c_Hall TX.m_h_told G_h_told (hr.mono (by decide)) b_h_told .nil pE) pa_nil))) (pa_cons (pe_lst (pa_cons (pe_lst (pa_cons (pe_tup (pa_cons pe_str (pa_cons (pe_tup (pa_cons (pe_tup (pa_cons (pv 3) (pa_cons pe_int (pa_cons pe_int pa_nil)))) pa_nil)) (pa_cons (pe_ix (k_ixl (K := K) rfl) (pv 2) pe_int (fun _ _ => rfl)) pa_nil)))) pa_nil)) (pa_cons (pe_lst pa_nil) pa_nil))) pa_nil)))))))))))))), ?_⟩
    refine r_st (σ' := [some x, none, none, none, none, none]) rfl ?_
    try dsimp only [cxOf]
    obtain ⟨st, sc, ns, rfl, hS, hF, hq⟩ := h
    walk_at "sx"
    refine ⟨st, sc, ns, rfl, hS, hF, fun pa a0 a1 a2 a3 G1 oa ha1 ea hS1 g1 => ?_⟩
    walk_at "sx"
    refine ⟨st, sc, ns, rfl, hS1, hF, fun pl l0 l1 l2 l3 G2 ol hl1 el hS2 g2 => ?_⟩
    walk_at "sx"
    refine ⟨_, _, rfl, ?_⟩
    have na : pa ≠ st := fun z => hS.some (z ▸ ha1)
    have nl : pl ≠ st := fun z => hS1.some (z ▸ hl1)
    have ea2 := g2.old _ _ ea na
    walk_at "sx"
    refine r_slTo15 (k := 2) rfl ea2 (by show 2 ≤ 4; decide) (fun ps G3 hps eps g3 => ?_)
    walk_at "sx"
    refine r_sort2 (a := a0) (b := a1) eps (fun pt G4 hpt ept g4 => ?_)
    walk_at "sx"
    refine ⟨pt, _, rfl, SqL.of ept, rfl, ?_⟩
    refine ⟨_, _, rfl, ?_⟩
    refine ⟨_, _, rfl, ?_⟩
    refine ⟨rfl, ?_⟩
    walk_at "sx"
    have hS4 := (hS2.fr0 g3).fr0 g4
    refine ⟨st, sc, ns, 4, rfl, rfl, hS4, by decide, by decide, hF, fun r H0 hr hS0 g5 => ?_⟩
    have eaB := g5.old _ _ ((g3.trans g4).lst ea2) na
    have elB := g5.old _ _ ((g3.trans g4).lst el) nl
    have gB : Fr (Only1 st) H H0 := ((g1.trans g2).trans (g3.trans g4).up).trans g5
    obtain ⟨q1, q2, q3⟩ := ord_sort oa
    obtain ⟨c1, c2, c3, c4, c5, c6⟩ := ord_nodup oa
    obtain ⟨b1, b2, b3, b4, b5, b6⟩ := ord_nodup ol
    obtain ⟨d1, d2, d3, d4, _⟩ := oa
    obtain ⟨v1, v2, v3, v4, _⟩ := ol
    walk_at "sx"
    refine r_makeOn (fun x dx H1 hx e1 f1 => ?_)
    walk_at "sx"
    refine ⟨x, dx, _, _, _, rfl, rfl, rfl, rfl, e1, fun z => absurd (⟨⟨⟨by decide, by decide⟩, by decide, by decide⟩, by omega, by omega⟩ : HlOk 4 4 (1 + (r : Int))) z, fun _ A H2 eA hA f2 hnew => ⟨rfl, ?_⟩⟩
    subst eA
    have ek : (1 + (r : Int)).toNat = r + 1 := by omega
    have hA2 : HlAt K H2 A (Hl.fresh 4 4 (r + 1)) := by rw [← ek]; exact hA
    have F2 : Fr No H0 H2 := f1.mutO f2 hx
    have nA : ∀ b, A.has b → H0 b = none := fun b hb => by
      by_cases z : b = A.p
      · rw [z]; exact hx
      · exact f1.fresh (hnew b hb z)
    have O0 : (Hl.fresh 4 4 (r + 1)).Ok := Hl.Ok.new hA.tb.sz (by omega) (by omega)
    have R0 := fresh_room (k := r + 1)
    have lr : ∀ {N : Hl} {n : Nat}, N.Room n → N.rd.length ≤ 2000 := fun r => by have := r.rd; omega
    obtain ⟨Mz, E0⟩ := held_ok (o := min a0 a1) (x := max a0 a1) (t := a2) (a := l0) (b := l1) (k := r + 1) q1 (by omega) d3 (by omega) (by omega) v1 v2 b1 (by omega) (by omega)
    generalize hM0 : Hl.fresh 4 4 (r + 1) = M0 at *
    clear hA ek hnew f1 f2 e1
    unfold heldE at E0
    walk_at "sx"
    refine r_hmeth hA2 (by decide +kernel) ?_
    walk_at "sx"
    refine r_ixl (i := 0) (F2.lst elB) rfl ?_
    walk_at "sx"
    obtain ⟨M1, h1, E1⟩ := evs_cons E0
    refine ⟨A, _, _, _, rfl, rfl, rfl, hA2, O0, lr R0, fun w e => (ask_no h1 e).elim, fun o H3 eo hA3 f3 => ?_⟩
    obtain ⟨rfl, hA3⟩ := ask_yes h1 eo hA3
    have F3 := HlA.apart nA F2 f3
    have O1 := ev_ok O0 h1
    have R1 : M1.Room 59 := ev_room O0 R0 h1
    walk_at "sx"
    walk_at "sx"
    refine r_hmeth hA3 (by decide +kernel) ?_
    walk_at "sx"
    refine r_ixl (i := 2) (F3.lst eaB) rfl ?_
    walk_at "sx"
    refine r_ixl (i := 1) (F3.lst elB) rfl ?_
    walk_at "sx"
    obtain ⟨M2, h2, E2⟩ := evs_cons E1
    refine ⟨A, _, _, _, rfl, rfl, rfl, hA3, O1, lr R1, fun w e => (ask_no h2 e).elim, fun o H4 eo hA4 f4 => ?_⟩
    obtain ⟨rfl, hA4⟩ := ask_yes h2 eo hA4
    have F4 := HlA.apart nA F3 f4
    have O2 := ev_ok O1 h2
    have R2 : M2.Room 58 := ev_room O1 R1 h2
    walk_at "sx"
    walk_at "sx"
    refine r_hmeth hA4 (by decide +kernel) ?_
    walk_at "sx"
    refine r_ixl (i := 0) (F4.lst elB) rfl ?_
    walk_at "sx"
    obtain ⟨M3, h3, E3⟩ := evs_cons E2
    refine ⟨A, _, _, _, rfl, rfl, rfl, hA4, O2, lr R2, fun w e => (ask_no h3 e).elim, fun o H5 eo hA5 f5 => ?_⟩
    obtain ⟨rfl, hA5⟩ := ask_yes h3 eo hA5
    have F5 := HlA.apart nA F4 f5
    have O3 := ev_ok O2 h3
    have R3 : M3.Room 57 := ev_room O2 R2 h3
    walk_at "sx"
    refine r_newL (by show 3 ≤ 2000; decide) (fun p6 H6 hp6 e6 f6 => ?_)
    have hA6 := hA5.fr0 f6
    have F6 := F5.trans f6
    walk_at "sx"
    refine r_newL (by show 3 ≤ 2000; decide) (fun p7 H7 hp7 e7 f7 => ?_)
    have l_x_7 := f7.lst e6
    have hA7 := hA6.fr0 f7
    have F7 := F6.trans f7
    refine r_neSame15 (bools_at (xs := [true, true, false]) (f7.lst e6)) (bools_at e7) (bools_cmp _) ?_
    walk_at "sx"
    walk_at "sx"
    refine r_hmeth hA7 (by decide +kernel) ?_
    walk_at "sx"
    obtain ⟨M4, h4, E4⟩ := evs_cons E3
    refine ⟨A, _, _, rfl, rfl, hA7, O3, R3.few, fun z => absurd (carry_lt h4) z, fun _ H8 hA8 f8 => ?_⟩
    have hA8 := carry_yes h4 hA8
    have F8 := HlA.apart nA F7 f8
    have O4 := ev_ok O3 h4
    have R4 : M4.Room 56 := ev_room O3 R3 h4
    walk_at "sx"
    walk_at "sx"
    refine r_hmeth hA8 (by decide +kernel) ?_
    walk_at "sx"
    refine ⟨A, _, rfl, hA8, fun p9 H9 hp9 ls9 f9 => ?_⟩
    have hA9 := hA8.fr0 f9
    have F9 := F8.trans f9
    obtain ⟨N5, n5, E5⟩ := evs_cons E4
    obtain ⟨er, u5⟩ := ev_if n5
    subst u5
    walk_at "sx"
    refine r_newT (by show 3 ≤ 2000; decide) (fun p10 H10 hp10 e10 f10 => ?_)
    have hA10 := hA9.fr0 f10
    have F10 := F9.trans f10
    walk_at "sx"
    refine r_newT (by show 1 ≤ 2000; decide) (fun p11 H11 hp11 e11 f11 => ?_)
    have t_p_11 := f11.tup _ _ e10
    have hA11 := hA10.fr0 f11
    have F11 := F10.trans f11
    walk_at "sx"
    refine r_ixl (i := 0) (F11.lst elB) rfl ?_
    walk_at "sx"
    refine r_newT (by show 5 ≤ 2000; decide) (fun p12 H12 hp12 e12 f12 => ?_)
    have t_p_12 := f12.tup _ _ t_p_11
    have t_q_12 := f12.tup _ _ e11
    have hA12 := hA11.fr0 f12
    have F12 := F11.trans f12
    walk_at "sx"
    refine r_newL (by show 1 ≤ 2000; decide) (fun p13 H13 hp13 e13 f13 => ?_)
    have t_p_13 := f13.tup _ _ t_p_12
    have t_q_13 := f13.tup _ _ t_q_12
    have t_s_13 := f13.tup _ _ e12
    have hA13 := hA12.fr0 f13
    have F13 := F12.trans f13
    walk_at "sx"
    have hd := dd_road O4 (lr R4) (ls9.fr ((((f10.trans f11).trans f12).trans f13) : Fr No H9 H13) (fun z => z))
    rw [er] at hd
    refine ⟨_, hd, .lst e13 (by show 1 ≤ 2000; decide) (.cons (.tup t_s_13 (by show 5 ≤ 2000; decide) (.cons (.str _) (.cons (.tup t_q_13 (by show 1 ≤ 2000; decide) (.cons (.tup t_p_13 (by show 3 ≤ 2000; decide) (.cons (.int _) (.cons (.int _) (.cons (.int _) .nil)))) .nil)) (.cons (.int _) (.cons (.int _) (.cons (.int _) .nil)))))) .nil), road_depth _, fun H14 f14 => ?_⟩
    have t_p_14 := f14.tup _ _ t_p_13
    have t_q_14 := f14.tup _ _ t_q_13
    have t_s_14 := f14.tup _ _ t_s_13
    have l_l_14 := f14.lst e13
    have hA14 := hA13.fr0 f14
    have F14 := F13.trans f14
    walk_at "sx"
    walk_at "sx"
    refine r_hmeth hA14 (by decide +kernel) ?_
    walk_at "sx"
    refine r_ixl (i := 0) (F14.lst elB) rfl ?_
    walk_at "sx"
    obtain ⟨M5, h5, E6⟩ := evs_cons E5
    refine ⟨A, _, _, _, rfl, rfl, rfl, hA14, O4, fun w e => (give_no h5 e).elim, fun o H15 eo hA15 f15 => ?_⟩
    obtain ⟨rfl, hA15⟩ := give_yes h5 eo hA15
    have t_p_15 := f15.tup _ _ t_p_14
    have t_q_15 := f15.tup _ _ t_q_14
    have t_s_15 := f15.tup _ _ t_s_14
    have F15 := HlA.apart nA F14 f15
    have O5 := ev_ok O4 h5
    have R5 : M5.Room 55 := ev_room O4 R4 h5
    walk_at "sx"
    walk_at "sx"
    refine r_hmeth hA15 (by decide +kernel) ?_
    walk_at "sx"
    refine r_ixl (i := 0) (F15.lst elB) rfl ?_
    walk_at "sx"
    obtain ⟨M6, h6, E7⟩ := evs_cons E6
    refine ⟨A, _, _, _, rfl, rfl, rfl, hA15, O5, fun w e => (give_no h6 e).elim, fun o H16 eo hA16 f16 => ?_⟩
    obtain ⟨rfl, hA16⟩ := give_yes h6 eo hA16
    have t_p_16 := f16.tup _ _ t_p_15
    have t_q_16 := f16.tup _ _ t_q_15
    have t_s_16 := f16.tup _ _ t_s_15
    have F16 := HlA.apart nA F15 f16
    have O6 := ev_ok O5 h6
    have R6 : M6.Room 54 := ev_room O5 R5 h6
    walk_at "sx"
    refine r_newL (by show 2 ≤ 2000; decide) (fun p17 H17 hp17 e17 f17 => ?_)
    have t_p_17 := f17.tup _ _ t_p_16
    have t_q_17 := f17.tup _ _ t_q_16
    have t_s_17 := f17.tup _ _ t_s_16
    have hA17 := hA16.fr0 f17
    have F17 := F16.trans f17
    walk_at "sx"
    refine r_newL (by show 2 ≤ 2000; decide) (fun p18 H18 hp18 e18 f18 => ?_)
    have t_p_18 := f18.tup _ _ t_p_17
    have t_q_18 := f18.tup _ _ t_q_17
    have t_s_18 := f18.tup _ _ t_s_17
    have l_x_18 := f18.lst e17
    have hA18 := hA17.fr0 f18
    have F18 := F17.trans f18
    refine r_neSame15 (ds := [.int ((max a0 a1 : Nat) : Int), .none]) ⟨_, f18.lst e17, .cons (.int _) (.cons .non .nil)⟩ ⟨_, e18, .cons (.int _) (.cons .non .nil)⟩ (.cons (int_cmp15 _) (.cons non_cmp15 .nil)) ?_
    walk_at "sx"
    walk_at "sx"
    refine r_hmeth hA18 (by decide +kernel) ?_
    walk_at "sx"
    refine r_ixl (i := 0) (F18.lst elB) rfl ?_
    walk_at "sx"
    obtain ⟨M7, h7, E8⟩ := evs_cons E7
    refine ⟨A, _, _, _, rfl, rfl, rfl, hA18, O6, lr R6, fun w e => (ask_no h7 e).elim, fun o H19 eo hA19 f19 => ?_⟩
    obtain ⟨rfl, hA19⟩ := ask_yes h7 eo hA19
    have t_p_19 := f19.tup _ _ t_p_18
    have t_q_19 := f19.tup _ _ t_q_18
    have t_s_19 := f19.tup _ _ t_s_18
    have F19 := HlA.apart nA F18 f19
    have O7 := ev_ok O6 h7
    have R7 : M7.Room 53 := ev_room O6 R6 h7
    walk_at "sx"
    refine ⟨_, _, rfl, rfl, ?_⟩
    walk_at "sx"
    refine r_decN (fun z => absurd rfl z) (fun _ => ?_)
    walk_at "sx"
    walk_at "sx"
    refine r_hmeth hA19 (by decide +kernel) ?_
    walk_at "sx"
    refine r_ixl (i := 1) (F19.lst elB) rfl ?_
    walk_at "sx"
    obtain ⟨M8, h8, E9⟩ := evs_cons E8
    refine ⟨A, _, _, _, rfl, rfl, rfl, hA19, O7, lr R7, fun w e => (ask_no h8 e).elim, fun o H20 eo hA20 f20 => ?_⟩
    obtain ⟨rfl, hA20⟩ := ask_yes h8 eo hA20
    have t_p_20 := f20.tup _ _ t_p_19
    have t_q_20 := f20.tup _ _ t_q_19
    have t_s_20 := f20.tup _ _ t_s_19
    have F20 := HlA.apart nA F19 f20
    have O8 := ev_ok O7 h8
    have R8 : M8.Room 52 := ev_room O7 R7 h8
    walk_at "sx"
    refine ⟨_, _, rfl, rfl, ?_⟩
    walk_at "sx"
    refine r_decN (fun z => absurd rfl z) (fun _ => ?_)
    walk_at "sx"
    walk_at "sx"
    refine r_hmeth hA20 (by decide +kernel) ?_
    walk_at "sx"
    obtain ⟨M9, h9, E10⟩ := evs_cons E9
    refine ⟨A, _, _, rfl, rfl, hA20, O8, R8.few, fun z => absurd (carry_lt h9) z, fun _ H21 hA21 f21 => ?_⟩
    have hA21 := carry_yes h9 hA21
    have t_p_21 := f21.tup _ _ t_p_20
    have t_q_21 := f21.tup _ _ t_q_20
    have t_s_21 := f21.tup _ _ t_s_20
    have F21 := HlA.apart nA F20 f21
    have O9 := ev_ok O8 h9
    have R9 : M9.Room 51 := ev_room O8 R8 h9
    walk_at "sx"
    walk_at "sx"
    refine r_hmeth hA21 (by decide +kernel) ?_
    walk_at "sx"
    refine ⟨A, _, rfl, hA21, fun p22 H22 hp22 ls22 f22 => ?_⟩
    have t_p_22 := f22.tup _ _ t_p_21
    have t_q_22 := f22.tup _ _ t_q_21
    have t_s_22 := f22.tup _ _ t_s_21
    have hA22 := hA21.fr0 f22
    have F22 := F21.trans f22
    obtain ⟨N11, n11, E11⟩ := evs_cons E10
    obtain ⟨er, u11⟩ := ev_if n11
    subst u11
    walk_at "sx"
    walk_at "sx"
    refine r_hmeth hA22 (by decide +kernel) ?_
    walk_at "sx"
    refine ⟨A, _, rfl, hA22, fun p23 H23 hp23 ls23 f23 => ?_⟩
    have t_p_23 := f23.tup _ _ t_p_22
    have t_q_23 := f23.tup _ _ t_q_22
    have t_s_23 := f23.tup _ _ t_s_22
    have hA23 := hA22.fr0 f23
    have F23 := F22.trans f23
    obtain ⟨N12, n12, E12⟩ := evs_cons E11
    obtain ⟨et, u12⟩ := ev_if n12
    subst u12
    walk_at "sx"
    refine r_newL (by show 2 ≤ 2000; decide) (fun p24 H24 hp24 e24 f24 => ?_)
    have t_p_24 := f24.tup _ _ t_p_23
    have t_q_24 := f24.tup _ _ t_q_23
    have t_s_24 := f24.tup _ _ t_s_23
    have hA24 := hA23.fr0 f24
    have F24 := F23.trans f24
    walk_at "sx"
    refine r_newT (by show 3 ≤ 2000; decide) (fun p25 H25 hp25 e25 f25 => ?_)
    have t_p_25 := f25.tup _ _ t_p_24
    have t_q_25 := f25.tup _ _ t_q_24
    have t_s_25 := f25.tup _ _ t_s_24
    have l_x_25 := f25.lst e24
    have hA25 := hA24.fr0 f25
    have F25 := F24.trans f25
    walk_at "sx"
    refine r_newT (by show 1 ≤ 2000; decide) (fun p26 H26 hp26 e26 f26 => ?_)
    have t_p_26 := f26.tup _ _ e25
    have t_q_26 := f26.tup _ _ t_q_25
    have t_s_26 := f26.tup _ _ t_s_25
    have l_x_26 := f26.lst l_x_25
    have hA26 := hA25.fr0 f26
    have F26 := F25.trans f26
    walk_at "sx"
    refine r_ixl (i := 1) (F26.lst elB) rfl ?_
    walk_at "sx"
    refine r_newT (by show 3 ≤ 2000; decide) (fun p27 H27 hp27 e27 f27 => ?_)
    have t_p_27 := f27.tup _ _ t_p_26
    have t_q_27 := f27.tup _ _ e26
    have t_s_27 := f27.tup _ _ t_s_26
    have l_x_27 := f27.lst l_x_26
    have hA27 := hA26.fr0 f27
    have F27 := F26.trans f27
    walk_at "sx"
    refine r_newL (by show 1 ≤ 2000; decide) (fun p28 H28 hp28 e28 f28 => ?_)
    have t_p_28 := f28.tup _ _ t_p_27
    have t_q_28 := f28.tup _ _ t_q_27
    have t_s_28 := f28.tup _ _ e27
    have l_x_28 := f28.lst l_x_27
    have hA28 := hA27.fr0 f28
    have F28 := F27.trans f28
    walk_at "sx"
    refine r_newL (by show 0 ≤ 2000; decide) (fun p29 H29 hp29 e29 f29 => ?_)
    have t_p_29 := f29.tup _ _ t_p_28
    have t_q_29 := f29.tup _ _ t_q_28
    have t_s_29 := f29.tup _ _ t_s_28
    have l_x_29 := f29.lst l_x_28
    have l_y_29 := f29.lst e28
    have hA29 := hA28.fr0 f29
    have F29 := F28.trans f29
    walk_at "sx"
    refine r_newL (by show 2 ≤ 2000; decide) (fun p30 H30 hp30 e30 f30 => ?_)
    have t_p_30 := f30.tup _ _ t_p_29
    have t_q_30 := f30.tup _ _ t_q_29
    have t_s_30 := f30.tup _ _ t_s_29
    have l_x_30 := f30.lst l_x_29
    have l_y_30 := f30.lst l_y_29
    have l_z_30 := f30.lst e29
    have hA30 := hA29.fr0 f30
    have F30 := F29.trans f30
    walk_at "sx"
    have hd := dd_road O9 (lr R9) (ls22.fr ((((((((f23.trans f24).trans f25).trans f26).trans f27).trans f28).trans f29).trans f30) : Fr No H22 H30) (fun z => z))
    rw [er] at hd
    have hd2 := dd_tells O9 (by have := R9.tl; omega) (ls23.fr (((((((f24.trans f25).trans f26).trans f27).trans f28).trans f29).trans f30) : Fr No H23 H30) (fun z => z))
    rw [et] at hd2
    refine ⟨_, .lst l_x_30 (by show 2 ≤ 2000; decide) (.cons hd (.cons hd2 .nil)), .lst e30 (by show 2 ≤ 2000; decide) (.cons (.lst l_y_30 (by show 1 ≤ 2000; decide) (.cons (.tup t_s_30 (by show 3 ≤ 2000; decide) (.cons (.str _) (.cons (.tup t_q_30 (by show 1 ≤ 2000; decide) (.cons (.tup t_p_30 (by show 3 ≤ 2000; decide) (.cons (.int _) (.cons (.int _) (.cons (.int _) .nil)))) .nil)) (.cons (.int _) .nil)))) .nil)) (.cons (.lst l_z_30 (by show 0 ≤ 2000; decide) .nil) .nil)), two_depth (roadA _) (toldA _), fun H31 f31 => ?_⟩
    exact hq H31 (hS0.fr0 (F30.trans f31)) (gB.trans (F30.trans f31).up)
theorem sc_Lstart : FnScope ["_law_script", "_law_mixed", "_law_cell"] ["_law_script"] (defScope s_Lstart) := ⟨rfl, rfl, rfl, by decide +kernel, rfl, by decide +kernel, by decide +kernel⟩
theorem ok_Lstart (TX : Txt K mg) : OkF P w K mg base 1 (He.ga K "_law_start") ["_law_script"] (sp_Lstart K) := by
  refine okF TX.f_Lstart sc_Lstart (fun _ _ _ _ _ _ us hl => match us, hl with | [_], _ => rfl) (fun vs H Q E h => ?_) (fun cdv A outer s H vs Q E hr h => ?_)
  · obtain ⟨_, rfl, _⟩ := h
    rfl
  · obtain ⟨x, rfl, h⟩ := h
    refine ⟨_, (pss_cons (ps_set (i := 1) sc_Lstart.nd rfl (Or.inl rfl) pe_int) (pss_cons (ps_for pOwn rfl (k_listI (K := K) rfl (pv 0)) (pg_name (i := 2) sc_Lstart.nd rfl (Or.inl rfl)) (pss_one (ps_set (i := 1) sc_Lstart.nd rfl (Or.inl rfl) (pe_op op_mod (pe_op op_add (pe_op op_add (pe_op op_mul (pv 1) pe_int) (pv 2)) pe_int) pe_int)))) (pss_one (ps_ret (pe_lst (pa_cons (pv 0) (pa_cons pe_int (pa_cons (pv 1) (pa_cons pe_int pa_nil))))))))), ?_⟩
    refine r_st (σ' := [some x, none, none]) rfl ?_
    try dsimp only [cxOf]
    obtain ⟨sc, ns, rfl, hs, hl, h⟩ := h
    walk_at "sx"
    refine r_forL (fun _ q => by walk_at "sx"; exact q) hs (fun i σ' H' => ∃ (m : Int) (c : Option V), σ' = [some (.ref sc), some (.int m), c] ∧ H' = H) ⟨1, none, rfl, rfl⟩ (fun i σ' H' _ ⟨m, c, _, e⟩ => by rw [e]; exact hs) (fun i x σ' H' hi p => ?_) (fun σ' H' p => ?_)
    · obtain ⟨m, c, rfl, rfl⟩ := p
      obtain ⟨n, hn, rfl⟩ : ∃ n, ns[i]? = some n ∧ x = .int n := by
        rw [List.getElem?_map] at hi
        cases q : ns[i]? with
        | none => rw [q] at hi; cases hi
        | some n => rw [q] at hi; exact ⟨n, rfl, (Option.some.inj hi).symm⟩
      walk_at "sx"
      refine r_I (Or.inr ⟨by decide, by decide⟩) ?_
      walk_at "sx"
      refine r_I (by decide) ?_
      walk_at "sx"
      exact ⟨_, _, rfl, rfl⟩
    · obtain ⟨m, c, rfl, rfl⟩ := p
      walk_at "sx"
      refine r_newL (by show 4 ≤ 2000; decide) (fun p H1 hp e f => ?_)
      exact h p H1 hp ⟨⟨0, m, 0, e, by decide, by decide⟩, sqL_fr hs f (fun z => z), hl⟩ f
theorem sc_law : FnScope ["_law_script", "_law_state", "_law_hall", "_law_agents", "_law_locks", "_law_first", "_law_due", "_law_one", "_law_other", "_law_many", "_law_turn", "_law_table", "_law_lock"] ["_law_script"] (defScope s_law) := ⟨rfl, rfl, rfl, by decide +kernel, rfl, by decide +kernel, by decide +kernel⟩
theorem ok_law (TX : Txt K mg) {fd : FuncData} (F : FunD K "law" "law" (defArgs s_law) (defBody s_law) (defScope s_law) [] [] (He.ga K "law") fd) : FnOk P w K mg base (L2.CX P w) 11 (He.ga K "law") fd ["_law_script"] (sp_law (Ts K) K) := by
  obtain ⟨⟨fd_Lsame, G_Lsame, b_Lsame⟩, k_Lsame⟩ := (ok_Lsame TX : OkF P w K mg base _ _ _ _)
  obtain ⟨⟨fd_h_broken, G_h_broken, b_h_broken⟩, k_h_broken⟩ := (ok_h_broken TX : OkF P w K mg base _ _ _ _)
  obtain ⟨⟨fd_rings, G_rings, b_rings⟩, k_rings⟩ := (ok_rings TX : OkF P w K mg base _ _ _ _)
  obtain ⟨⟨fd_h_table, G_h_table, b_h_table⟩, k_h_table⟩ := (ok_h_table TX : OkF P w K mg base _ _ _ _)
  obtain ⟨⟨fd_h_told, G_h_told, b_h_told⟩, k_h_told⟩ := (ok_h_told TX : OkF P w K mg base _ _ _ _)
  obtain ⟨⟨fd_Lcarried, G_Lcarried, b_Lcarried⟩, k_Lcarried⟩ := (ok_Lcarried TX : OkF P w K mg base _ _ _ _)
  obtain ⟨⟨fd_h_again, G_h_again, b_h_again⟩, k_h_again⟩ := (ok_h_again TX : OkF P w K mg base _ _ _ _)
  obtain ⟨⟨fd_t_hold_number, G_t_hold_number, b_t_hold_number⟩, k_t_hold_number⟩ := (ok_t_hold_number TX : OkF P w K mg base _ _ _ _)
  obtain ⟨⟨fd_h_give, G_h_give, b_h_give⟩, k_h_give⟩ := (ok_h_give TX : OkF P w K mg base _ _ _ _)
  obtain ⟨⟨fd_Lring, G_Lring, b_Lring⟩, k_Lring⟩ := (ok_Lring TX : OkF P w K mg base _ _ _ _)
  obtain ⟨⟨fd_Ldrawn, G_Ldrawn, b_Ldrawn⟩, k_Ldrawn⟩ := (ok_Ldrawn TX : OkF P w K mg base _ _ _ _)
  obtain ⟨⟨fd_Lto_still, G_Lto_still, b_Lto_still⟩, k_Lto_still⟩ := (ok_Lto_still TX : OkF P w K mg base _ _ _ _)
  obtain ⟨⟨fd_Lorder, G_Lorder, b_Lorder⟩, k_Lorder⟩ := (ok_Lorder TX : OkF P w K mg base _ _ _ _)
  obtain ⟨⟨fd_h_init, G_h_init, b_h_init⟩, k_h_init⟩ := (ok_h_init TX : OkF P w K mg base _ _ _ _)
  obtain ⟨⟨fd_Lwaits_anew, G_Lwaits_anew, b_Lwaits_anew⟩, k_Lwaits_anew⟩ := (ok_Lwaits_anew TX : OkF P w K mg base _ _ _ _)
  obtain ⟨⟨fd_Lheld_anew, G_Lheld_anew, b_Lheld_anew⟩, k_Lheld_anew⟩ := (ok_Lheld_anew TX : OkF P w K mg base _ _ _ _)
  obtain ⟨⟨fd_Lstart, G_Lstart, b_Lstart⟩, k_Lstart⟩ := (ok_Lstart TX : OkF P w K mg base _ _ _ _)
  refine F.ok sc_law (fun vs H Q E h => ?_) (fun cdv A outer s H vs Q E hr h => ?_)
  · obtain ⟨_, rfl, _⟩ := h
    rfl
  · obtain ⟨x, rfl, h⟩ := h
    refine ⟨_, (pss_cons (ps_set (i := 1) sc_law.nd rfl (Or.inl rfl) (pe_call G_Lstart (hr.mono (by decide)) (by rfl) TX.g_Lstart k_Lstart b_Lstart .nil pE (pa_cons (pv 0) pa_nil))) (pss_cons (ps_if (PW.pt (pw_or (pt_not (pt_val (pe_call G_Lheld_anew (hr.mono (by decide)) (by rfl) TX.g_Lheld_anew k_Lheld_anew b_Lheld_anew .nil pE (pa_cons (pv 1) pa_nil)))) (pw_or1 (pt_not (pt_val (pe_call G_Lwaits_anew (hr.mono (by decide)) (by rfl) TX.g_Lwaits_anew k_Lwaits_anew b_Lwaits_anew .nil pE (pa_cons (pv 1) pa_nil))))))) (pss_one (ps_ret pe_bl)) pss_nil) (pss_cons (ps_set (i := 2) sc_law.nd rfl (Or.inl rfl) (pe_make TX.k_Hall G_h_init (hr.mono (by decide)) (by rfl) TX.g_Hall b_h_init .nil pE (pa_cons pe_int (pa_cons pe_int (pa_cons (pe_op op_add pe_int (pe_call G_Ldrawn (hr.mono (by decide)) (by rfl) TX.g_Ldrawn k_Ldrawn b_Ldrawn .nil pE (pa_cons (pv 1) (pa_cons pe_int pa_nil)))) pa_nil))))) (pss_cons (ps_set (i := 3) sc_law.nd rfl (Or.inl rfl) (pe_call G_Lorder (hr.mono (by decide)) (by rfl) TX.g_Lorder k_Lorder b_Lorder .nil pE (pa_cons (pv 1) pa_nil))) (pss_cons (ps_set (i := 4) sc_law.nd rfl (Or.inl rfl) (pe_call G_Lorder (hr.mono (by decide)) (by rfl) TX.g_Lorder k_Lorder b_Lorder .nil pE (pa_cons (pv 1) pa_nil))) (pss_cons (ps_if (pt_cmpR (k_neD (K := K) rfl hr.units) (pe_call G_Lring (hr.mono (by decide)) (by rfl) TX.g_Lring k_Lring b_Lring .nil pE (pa_cons (pv 2) (pa_cons (pe_slice (k_slL (K := K) rfl) (pv 3) po_none (po_some pe_int)) (pa_cons (pe_slice (k_slL (K := K) rfl) (pv 4) po_none (po_some pe_int)) pa_nil)))) (pe_lst (pa_cons pe_bl (pa_cons pe_bl (pa_cons pe_bl (pa_cons pe_bl pa_nil))))) (nomark _)) (pss_one (ps_ret pe_bl)) pss_nil) (pss_cons (ps_expr (pe_call G_Lto_still (hr.mono (by decide)) (by rfl) TX.g_Lto_still k_Lto_still b_Lto_still .nil pE (pa_cons (pv 2) pa_nil))) (pss_cons (ps_set (i := 5) sc_law.nd rfl (Or.inl rfl) (pe_tup (pa_cons (pe_callB (k_max (K := K) rfl rfl) (by rfl) TX.z_max (by decide +kernel) (pa_cons (pe_slice (k_slL (K := K) rfl) (pv 3) po_none (po_some pe_int)) pa_nil)) (pa_cons (pe_callB (k_minI (K := K) rfl rfl) (by rfl) TX.z_min (by decide +kernel) (pa_cons (pe_slice (k_slL (K := K) rfl) (pv 3) po_none (po_some pe_int)) pa_nil)) pa_nil)))) (pss_cons (ps_set (i := 6) sc_law.nd rfl (Or.inl rfl) (pe_lst (pa_cons (pe_tup (pa_cons (pe_tup (pa_cons (pe_tup (pa_cons (pe_ix (k_ixt (K := K) rfl) (pv 5) pe_int (fun _ _ => rfl)) (pa_cons pe_int (pa_cons pe_int pa_nil)))) (pa_cons (pe_tup (pa_cons (pe_ix (k_ixt (K := K) rfl) (pv 5) pe_int (fun _ _ => rfl)) (pa_cons pe_int (pa_cons pe_int pa_nil)))) pa_nil))) (pa_cons (pe_ix (k_ixt (K := K) rfl) (pv 5) pe_int (fun _ _ => rfl)) pa_nil))) pa_nil))) (pss_cons (ps_asg (pe_callB (k_sortedI (K := K) rfl) (by rfl) TX.z_sorted (by decide +kernel) (pa_cons (pe_slice (k_slL (K := K) rfl) (pv 3) (po_some pe_int) po_none) pa_nil)) (pg_lst (by rfl) (pgs_cons (pg_name (i := 7) sc_law.nd rfl (Or.inr rfl)) (pgs_cons (pg_name (i := 8) sc_law.nd rfl (Or.inl rfl)) pgs_nil)))) (pss_cons (ps_set (i := 9) sc_law.nd rfl (Or.inl rfl) (pe_ix (k_ixl (K := K) rfl) (pe_lst (pa_cons (pe_op op_add pe_int (pe_call G_Ldrawn (hr.mono (by decide)) (by rfl) TX.g_Ldrawn k_Ldrawn b_Ldrawn .nil pE (pa_cons (pv 1) (pa_cons pe_int pa_nil)))) (pa_cons (pe_op op_add pe_int (pe_call G_Ldrawn (hr.mono (by decide)) (by rfl) TX.g_Ldrawn k_Ldrawn b_Ldrawn .nil pE (pa_cons (pv 1) (pa_cons pe_int pa_nil)))) pa_nil))) (pe_callTy call_int1 (by rfl) TX.z_int (by decide +kernel) (pa_cons (pe_cmpR (op_eq) (pe_call G_Ldrawn (hr.mono (by decide)) (by rfl) TX.g_Ldrawn k_Ldrawn b_Ldrawn .nil pE (pa_cons (pv 1) (pa_cons pe_int pa_nil))) pe_int (nomark _)) pa_nil)) (fun _ _ => rfl))) (pss_cons (ps_for pOwn rfl (pi_range1 (by rfl) TX.z_range (pa_cons (pv 9) pa_nil)) (pg_name (i := 10) sc_law.nd rfl (Or.inl rfl)) (pss_cons (ps_if (pt_cmpR (k_neD (K := K) rfl hr.units) (pe_call G_Lring (hr.mono (by decide)) (by rfl) TX.g_Lring k_Lring b_Lring .nil pE (pa_cons (pv 2) (pa_cons (pe_slice (k_slL (K := K) rfl) (pv 3) (po_some pe_int) po_none) (pa_cons (pe_slice (k_slL (K := K) rfl) (pv 4) (po_some pe_int) po_none) pa_nil)))) (pe_lst (pa_cons pe_bl (pa_cons pe_bl (pa_cons pe_bl (pa_cons pe_bl pa_nil))))) (nomark _)) (pss_one (ps_ret pe_bl)) pss_nil) (pss_cons (ps_expr (pe_call G_Lcarried (hr.mono (by decide)) (by rfl) TX.g_Lcarried k_Lcarried b_Lcarried .nil pE (pa_cons (pv 2) pa_nil))) (pss_cons (ps_expr (pe_bm PySem.F.plainAttrs_list PySem.F.slot_list_append PySem.F.type_list_append mt_append (pv 6) (pa_cons (pe_tup (pa_cons (pe_tup (pa_cons (pe_tup (pa_cons (pv 8) (pa_cons (pe_op op_add (pv 10) pe_int) (pa_cons pe_int pa_nil)))) (pa_cons (pe_tup (pa_cons (pv 7) (pa_cons (pe_op op_add (pv 10) pe_int) (pa_cons pe_int pa_nil)))) pa_nil))) (pa_cons (pv 7) pa_nil))) pa_nil))) (pss_cons (ps_if (PW.pt (pw_or (pt_not (pt_val (pe_call G_Lsame (hr.mono (by decide)) (by rfl) TX.g_Lsame k_Lsame b_Lsame .nil pE (pa_cons (pe_meth0 (pv 2) TX.c_Hall TX.m_h_told G_h_told (hr.mono (by decide)) b_h_told .nil pE) (pa_cons (pv 6) pa_nil))))) (pw_or1 (pt_cmpR (k_neD (K := K) rfl hr.units) (pe_ix (k_ixl (K := K) rfl) (pe_meth0 (pv 2) TX.c_Hall TX.m_h_broken G_h_broken (hr.mono (by decide)) b_h_broken .nil pE) (pe_un un_neg pe_int) (fun _ _ => rfl)) (pe_tup (pa_cons (pv 7) (pa_cons (pe_op op_add (pv 10) pe_int) pa_nil))) (nomark _))))) (pss_one (ps_ret pe_bl)) pss_nil) (pss_one (ps_if (PW.pt (pw_or (pt_cmpR (op_notN) (pe_meth (pv 2) TX.c_Hall TX.m_h_give G_h_give (hr.mono (by decide)) b_h_give .nil pE (pa_cons (pv 8) (pa_cons (pe_ix (k_ixl (K := K) rfl) (pv 4) pe_int (fun _ _ => rfl)) pa_nil))) pe_non (nomark _)) (pw_or1 (pt_cmpR (op_notN) (pe_meth (pv 2) TX.c_Hall TX.m_h_give G_h_give (hr.mono (by decide)) b_h_give .nil pE (pa_cons (pv 8) (pa_cons (pe_ix (k_ixl (K := K) rfl) (pv 4) pe_int (fun _ _ => rfl)) pa_nil))) pe_non (nomark _))))) (pss_one (ps_ret pe_bl)) pss_nil))))))) (pss_cons (ps_set (i := 11) sc_law.nd rfl (Or.inr rfl) (pe_meth0 (pv 2) TX.c_Hall TX.m_h_table G_h_table (hr.mono (by decide)) b_h_table .nil pE)) (pss_cons (ps_if (PW.pt (pw_or (pt_cmpR (k_neD (K := K) rfl hr.units) (pe_lc (own := [("_law_lock", 12)]) (g := gName 12) rfl sc_law.nd (k_listI (K := K) rfl (pv 4)) (blkOk_by (N := ["_law_script", "_law_state", "_law_hall", "_law_agents", "_law_locks", "_law_first", "_law_due", "_law_one", "_law_other", "_law_many", "_law_turn", "_law_table", "_law_lock"]) (sc := defScope s_law) (by decide +kernel)) (fun _ _ _ _ _ => pg_name (i := 12) sc_law.nd rfl (Or.inl rfl)) (fun _ _ _ _ _ => by exact pts_nil) (fun _ _ _ _ _ => by exact (pe_meth (pv 11) TX.c_Table TX.m_t_hold_number G_t_hold_number (hr.mono (by decide)) b_t_hold_number .nil passL (pa_cons (pv 12) pa_nil)))) (pe_lst (pa_cons pe_int (pa_cons pe_int (pa_cons (pe_op op_mul pe_int (pv 9)) (pa_cons (pv 9) pa_nil))))) (nomark _)) (pw_or1 (pt_cmpR (k_neD (K := K) rfl hr.units) (pe_call G_rings (hr.mono (by decide)) (by rfl) TX.g_rings k_rings b_rings .nil pE (pa_cons (pv 11) pa_nil)) (pe_lst (pa_cons (pv 5) pa_nil)) (nomark _))))) (pss_one (ps_ret pe_bl)) pss_nil) (pss_cons (ps_expr (pe_meth0 (pv 2) TX.c_Hall TX.m_h_again G_h_again (hr.mono (by decide)) b_h_again .nil pE)) (pss_cons (ps_expr (pe_call G_Lcarried (hr.mono (by decide)) (by rfl) TX.g_Lcarried k_Lcarried b_Lcarried .nil pE (pa_cons (pv 2) pa_nil))) (pss_cons (ps_if (PW.pt (pw_or (pt_not (pt_val (pe_call G_Lsame (hr.mono (by decide)) (by rfl) TX.g_Lsame k_Lsame b_Lsame .nil pE (pa_cons (pe_meth0 (pv 2) TX.c_Hall TX.m_h_told G_h_told (hr.mono (by decide)) b_h_told .nil pE) (pa_cons (pv 6) pa_nil))))) (pw_or1 (pt_cmpR (k_neD (K := K) rfl hr.units) (pe_call G_rings (hr.mono (by decide)) (by rfl) TX.g_rings k_rings b_rings .nil pE (pa_cons (pe_meth0 (pv 2) TX.c_Hall TX.m_h_table G_h_table (hr.mono (by decide)) b_h_table .nil pE) pa_nil)) (pe_lst pa_nil) (nomark _))))) (pss_one (ps_ret pe_bl)) pss_nil) (pss_one (ps_ret (pe_call G_Lsame (hr.mono (by decide)) (by rfl) TX.g_Lsame k_Lsame b_Lsame .nil pE (pa_cons (pe_meth0 (pv 2) TX.c_Hall TX.m_h_broken G_h_broken (hr.mono (by decide)) b_h_broken .nil pE) (pa_cons (pe_op op_cat (pe_lc (own := [("_law_turn", 10)]) (g := gName 10) rfl sc_law.nd (pi_range1 (by rfl) TX.z_range (pa_cons (pv 9) pa_nil)) (blkOk_by (N := ["_law_script", "_law_state", "_law_hall", "_law_agents", "_law_locks", "_law_first", "_law_due", "_law_one", "_law_other", "_law_many", "_law_turn", "_law_table", "_law_lock"]) (sc := defScope s_law) (by decide +kernel)) (fun _ _ _ _ _ => pg_name (i := 10) sc_law.nd rfl (Or.inl rfl)) (fun _ _ _ _ _ => by exact pts_nil) (fun _ _ _ _ _ => by exact (pe_tup (pa_cons (pv 7) (pa_cons (pe_op op_add (pv 10) pe_int) pa_nil))))) (pe_lst (pa_cons (pe_tup (pa_cons (pe_ix (k_ixt (K := K) rfl) (pv 5) pe_int (fun _ _ => rfl)) (pa_cons pe_int pa_nil))) pa_nil))) pa_nil)))))))))))))))))))))), ?_⟩
    refine r_st (σ' := [some x, none, none, none, none, none, none, none, none, none, none, none, none]) rfl ?_
    try dsimp only [cxOf]
    obtain ⟨sc, ns, rfl, hs, hl, hTs, hq⟩ := h
    walk_at "sx"
    refine ⟨sc, ns, rfl, hs, hl, fun st H1 hst hS1 f1 => ?_⟩
    have hF : ScF K sc ns (Only1 st) := scF_of hs (fun b hb => by rw [show b = st from hb]; exact hst)
    walk_at "sx"
    refine ⟨st, sc, ns, rfl, hS1, hF, fun H2 hS2 f2 => ?_⟩
    walk_at "sx"
    refine ⟨st, sc, ns, rfl, hS2, hF, fun H3 hS3 f3 => ?_⟩
    walk_at "sx"
    clear f1 f2 f3 hS1 hS2 hTs
    refine ⟨st, sc, ns, 4, rfl, rfl, hS3, by decide, by decide, hF, fun r H4 hr hS4 f4 => ?_⟩
    walk_at "sx"
    refine r_makeOn (fun x dx H5 hx e5 f5 => ?_)
    walk_at "sx"
    refine ⟨x, dx, _, _, _, rfl, rfl, rfl, rfl, e5, fun z => absurd (⟨⟨⟨by decide, by decide⟩, by decide, by decide⟩, by omega, by omega⟩ : HlOk 4 4 (1 + (r : Int))) z, fun _ A H6 eA hA f6 hnew => ⟨rfl, ?_⟩⟩
    subst eA
    have ek : (1 + (r : Int)).toNat = r + 1 := by omega
    have hA6 : HlAt K H6 A (Hl.fresh 4 4 (r + 1)) := by rw [← ek]; exact hA
    have F6 : Fr No H4 H6 := f5.mutO f6 hx
    have nA : ∀ b, A.has b → H4 b = none := fun b hb => by
      by_cases z : b = A.p
      · rw [z]; exact hx
      · exact f5.fresh (hnew b hb z)
    have O0 : (Hl.fresh 4 4 (r + 1)).Ok := Hl.Ok.new hA.tb.sz (by omega) (by omega)
    have R0 := fresh_room (k := r + 1)
    have hS6 := hS4.fr0 F6
    have nst : ¬ A.has st := fun z => hS4.some (nA st z)
    clear hA ek hnew f5 f6 e5
    walk_at "sx"
    -- the orders
    refine ⟨st, sc, ns, rfl, hS6, hF, fun pa a0 a1 a2 a3 H7 oa ha1 ea hS7 f7 => ?_⟩
    have na : pa ≠ st := fun z => hS6.some (z ▸ ha1)
    have npa : ¬ A.has pa := fun z => by
      obtain ⟨o, e, _⟩ := hA6.old z
      rw [ha1] at e; cases e
    have hA7 := hA6.fr f7 (fun b hb z => nst (z ▸ hb))
    walk_at "sx"
    refine ⟨st, sc, ns, rfl, hS7, hF, fun pl l0 l1 l2 l3 H8 ol hl1 el hS8 f8 => ?_⟩
    have nl : pl ≠ st := fun z => hS7.some (z ▸ hl1)
    have npl : ¬ A.has pl := fun z => by
      obtain ⟨o, e, _⟩ := hA7.old z
      rw [hl1] at e; cases e
    have hA8 := hA7.fr f8 (fun b hb z => nst (z ▸ hb))
    have ea8 := f8.old _ _ ea na
    clear hA6 hA7 hS6 hS7 f7 ea
    -- the plain days
    obtain ⟨q1, q2, oS⟩ := ord_sort oa
    obtain ⟨Mb, E0, B⟩ := base_ok (k := r + 1) q1 q2 oS ol (by omega) (by omega)
    obtain ⟨Mr, E1, E2⟩ := evs_app (es := turnA (min a0 a1) (max a0 a1) l0 l1) (r := carriesQ 8 ++ (.loud :: List.replicate 1 (.lose 0)) ++ [.road []]) E0
    have Or := evs_ok O0 E1
    have Rr : Mr.Room 56 := evs_room (n := 56) (es := turnA (min a0 a1) (max a0 a1) l0 l1) O0 R0 E1
    have Ob := evs_ok Or E2
    generalize Hl.fresh 4 4 (r + 1) = M0 at *
    walk_at "sx"
    -- the first ring
    refine r_slTo15 (k := 2) rfl ea8 (by show 2 ≤ 4; decide) (fun p9 H9 hp9 e9 f9 => ?_)
    walk_at "sx"
    refine r_slTo15 (k := 2) rfl (f9.lst el) (by show 2 ≤ 4; decide) (fun p10 H10 hp10 e10 f10 => ?_)
    walk_at "sx"
    have hA10 := (hA8.fr0 f9).fr0 f10
    have old8 : ∀ {p}, H8 p = none → ¬ A.has p := fun hp z => by
      obtain ⟨o, e, _⟩ := hA8.old z
      rw [hp] at e; cases e
    refine ⟨A, M0, Mr, p9, p10, a0, a1, l0, l1, rfl, rfl, rfl, hA10, O0, R0.less (by decide), f10.lst e9, e10, old8 hp9, old8 (f9.fresh hp10), E1, fun p11 H11 hp11 e11 hA11 f11 => ?_⟩
    walk_at "sx"
    refine r_newL (by show 4 ≤ 2000; decide) (fun p12 H12 hp12 e12 f12 => ?_)
    refine r_neSame15 (bools_at (xs := [true, true, false, false]) (f12.lst e11)) (bools_at e12) (bools_cmp _) ?_
    walk_at "sx"
    refine ⟨A, Mr, Mb, 8, 1, rfl, hA11.fr0 f12, Or, Rr.less (by decide), E2, fun H13 hA13 f13 => ?_⟩
    have G13 : Fr A.foot H8 H13 := (((f9.trans f10).up.trans f11).trans f12.up).trans f13
    have ea13 := G13.old _ _ ea8 (fun z => npa (HlA.has_foot z))
    have el13 := G13.old _ _ el (fun z => npl (HlA.has_foot z))
    have hS13 := hS8.fr G13 (fun z => nst (HlA.has_foot z)) (scF_of hS4.sq (fun b hb => nA b (HlA.has_foot hb)))
    clear f9 f10 f11 f12 f13 e9 e10 e11 e12 hA10 hA11 hp9 hp10 hp11 hp12 E0 E1 E2 Rr Or hA8 ea8
    walk_at "sx"
    -- first
    refine r_slTo15 (k := 2) rfl ea13 (by show 2 ≤ 4; decide) (fun p14 H14 hp14 e14 f14 => ?_)
    walk_at "sx"
    refine r_max2 (a := a0) (b := a1) e14 ?_
    walk_at "sx"
    refine r_slTo15 (k := 2) rfl (f14.lst ea13) (by show 2 ≤ 4; decide) (fun p15 H15 hp15 e15 f15 => ?_)
    walk_at "sx"
    refine r_min2 (a := a0) (b := a1) e15 ?_
    walk_at "sx"
    refine r_newT (by show 2 ≤ 2000; decide) (fun fi H16 hp16 efi f16 => ?_)
    walk_at "sx"
    -- due
    refine r_ixt (i := 0) efi rfl ?_
    walk_at "sx"
    refine r_newT (by show 3 ≤ 2000; decide) (fun p17 H17 hp17 e17 f17 => ?_)
    walk_at "sx"
    refine r_ixt (i := 1) (f17.tup _ _ efi) rfl ?_
    walk_at "sx"
    refine r_newT (by show 3 ≤ 2000; decide) (fun p18 H18 hp18 e18 f18 => ?_)
    walk_at "sx"
    refine r_newT (by show 2 ≤ 2000; decide) (fun p19 H19 hp19 e19 f19 => ?_)
    have efi19 := f19.tup _ _ (f18.tup _ _ (f17.tup _ _ efi))
    walk_at "sx"
    refine r_ixt (i := 1) efi19 rfl ?_
    walk_at "sx"
    refine r_newT (by show 2 ≤ 2000; decide) (fun p20 H20 hp20 e20 f20 => ?_)
    walk_at "sx"
    refine r_newL (by show 1 ≤ 2000; decide) (fun du H21 hdu edu f21 => ?_)
    have F21 : Fr No H13 H21 := (((((((f14.trans f15).trans f16).trans f17).trans f18).trans f19).trans f20).trans f21)
    have ls21 : LsAt H21 du ([fstR (min a0 a1) (max a0 a1)].map tellD) := by
      have t17 := td_pt15 (x := ⟨max a0 a1, 1, 1⟩) (f21.tup _ _ (f20.tup _ _ (f19.tup _ _ (f18.tup _ _ e17))))
      have t18 := td_pt15 (x := ⟨min a0 a1, 1, 1⟩) (f21.tup _ _ (f20.tup _ _ (f19.tup _ _ e18)))
      exact ⟨_, edu, .cons (td_tell15 t17 t18 (f21.tup _ _ (f20.tup _ _ e19)) (f21.tup _ _ e20)) .nil⟩
    have efi21 := f21.tup _ _ (f20.tup _ _ efi19)
    have F20 : Fr No H13 H20 := ((((((f14.trans f15).trans f16).trans f17).trans f18).trans f19).trans f20)
    have hA20 := hA13.fr0 F20
    have ndu : ¬ A.has du := fun z => by
      obtain ⟨o, e, _⟩ := hA20.old z
      rw [hdu] at e; cases e
    have dpa : pa ≠ du := fun z => by
      have := F20.lst ea13
      rw [z, hdu] at this; cases this
    have dpl : pl ≠ du := fun z => by
      have := F20.lst el13
      rw [z, hdu] at this; cases this
    have dst : st ≠ du := fun z => (hS13.fr0 F20).some (z ▸ hdu)
    have hA21 := hA20.fr0 f21
    have hS21 := hS13.fr0 F21
    have ea21 := F21.lst ea13
    have el21 := F21.lst el13
    clear f14 f15 f16 f17 f18 f19 f20 f21 e14 e15 efi e17 e18 e19 e20 edu efi19 hp14 hp15 hp16 hp17 hp18 hp19 hp20 F20 F21 hA20 hA13 hS13 ea13 el13 G13
    walk_at "sx"
    refine r_slFrom15 (k := 2) rfl ea21 (by show 2 ≤ 4; decide) (fun p22 H22 hp22 e22 f22 => ?_)
    walk_at "sx"
    refine r_sort2 (a := a2) (b := a3) e22 (fun p23 H23 hp23 e23 f23 => ?_)
    walk_at "sx"
    refine ⟨p23, _, rfl, SqL.of e23, rfl, ?_⟩
    refine ⟨_, _, rfl, ?_⟩
    refine ⟨_, _, rfl, ?_⟩
    refine ⟨rfl, ?_⟩
    walk_at "sx"
    have F23 := f22.trans f23
    have hS23 := hS21.fr0 F23
    refine ⟨st, sc, ns, 6, rfl, rfl, hS23, by decide, by decide, hF, fun r1 H24 hr1 hS24 f24 => ?_⟩
    walk_at "sx"
    refine ⟨st, sc, ns, 51, rfl, rfl, hS24, by decide, by decide, hF, fun r2 H25 hr2 hS25 f25 => ?_⟩
    walk_at "sx"
    refine r_newL (by show 2 ≤ 2000; decide) (fun p26 H26 hp26 e26 f26 => ?_)
    walk_at "sx"
    have hS26 := hS25.fr0 f26
    refine ⟨st, sc, ns, 4, rfl, rfl, hS26, by decide, by decide, hF, fun r3 HB hr3 hSB f27 => ?_⟩
    have e27 := f27.old _ _ e26 (fun z => hS25.some (z ▸ hp26))
    have FB : Fr (Only1 st) H21 HB := ((F23.up.trans (f24.trans f25)).trans f26.up).trans f27
    have hAB := hA21.fr FB (fun b hb z => nst (z ▸ hb))
    have eaB := FB.old _ _ ea21 na
    have elB := FB.old _ _ el21 nl
    have lsB := ls21.fr FB (fun z => dst z.symm)
    have efB := FB.tup _ _ efi21
    walk_at "sx"
    refine r_eq rfl ?_
    walk_at "sx"
    refine .inr ⟨_, rfl, ?_⟩
    have hn : ∃ n i : Nat, n ≤ 150 ∧ (if decide (V.int (r3 : Int) = V.int 3) = true then (1 : Int) else 0) = (i : Int) ∧ ([V.int (1 + (r1 : Int)), V.int (100 + (r2 : Int))] : List V)[i]? = some (.int (n : Int)) := by
      by_cases z : V.int (r3 : Int) = V.int 3
      · rw [decide_eq_true z]
        exact ⟨100 + r2, 1, by omega, rfl, rfl⟩
      · rw [decide_eq_false z]
        exact ⟨1 + r1, 0, by omega, rfl, rfl⟩
    obtain ⟨n, ii, hn, ei, en⟩ := hn
    rw [ei]
    refine r_ixl e27 en ?_
    clear ei en e27 FB hSB f27 f26 f25 f24 f22 f23 F23 hS23 hS24 hS25 hS26 e22 e23 e26 hp22 hp23 hp26 hA21 hS21 ea21 el21 ls21 efi21 hr1 hr2 hr3
    walk_at "sx"
    refine r_forRx ?_
    walk_at "sx"
    have Ok_ := fun t => day_ok (t := t) oS ol B Ob
    have Tu_ := fun t => day_turn (t := t) oS ol B Ob
    have nS : ∀ {p}, ¬ A.has p → p ≠ du → ¬ (fun b => A.foot b ∨ b = du) p := fun h1 h2 z => z.elim (fun z => h1 (HlA.has_foot z)) h2
    refine r_rngOn (n := n) (by omega) (fun i σ' H' => ∃ x10 : Option V, σ' = [some (.ref sc), some (.ref st), some (.ref A.p), some (.ref pa), some (.ref pl), some (.ref fi), some (.ref du), some (nV (min a2 a3)), some (nV (max a2 a3)), some (.int (n : Int)), x10, none, none] ∧
      HlAt K H' A (dayM (min a2 a3) (max a2 a3) l2 l3 i Mb) ∧ LsAt H' du ((fstR (min a0 a1) (max a0 a1) :: olds (min a2 a3) (max a2 a3) i).map tellD) ∧ Fr (fun b => A.foot b ∨ b = du) HB H') ⟨_, rfl, by rw [day_zero B]; exact hAB, lsB, Fr.refl⟩ (fun i σ' H' hi p => ?_) (fun σ' H' p => ?_)
    · obtain ⟨x10, rfl, hA, ls, F⟩ := p
      have O := Ok_ i
      have E0 := Tu_ i
      have R := day_room (t := i) B (by omega)
      generalize dayM (min a2 a3) (max a2 a3) l2 l3 i Mb = M at *
      obtain ⟨M1, E1, E2⟩ := evs_app (es := turnA (min a2 a3) (max a2 a3) l2 l3) (r := turnC 9 ++ (.told (fstR (min a0 a1) (max a0 a1) :: olds (min a2 a3) (max a2 a3) (i + 1)) :: .broke (oldb (min a2 a3) (i + 1)) :: turnG (max a2 a3) l2 l3)) E0
      obtain ⟨M2, E2, E3⟩ := evs_app (es := turnC 9) E2
      have O1 := evs_ok O E1
      have R1 : M1.Room 96 := evs_room (n := 96) (es := turnA (min a2 a3) (max a2 a3) l2 l3) O R E1
      have O2 := evs_ok O1 E2
      have R2 : M2.Room 86 := evs_room (n := 86) (es := turnC 9) O1 R1 E2
      obtain ⟨N3, n3, E4⟩ := evs_cons E3
      obtain ⟨er, u3⟩ := ev_if n3
      subst u3
      obtain ⟨N4, n4, E5⟩ := evs_cons E4
      obtain ⟨eb, u4⟩ := ev_if n4
      subst u4
      clear n3 n4 E3 E4 E0
      obtain ⟨M5, h5, E6⟩ := evs_cons (show N4.evs (.give (max a2 a3) l2 none :: .give (max a2 a3) l3 none :: []) = some _ from E5)
      obtain ⟨M6, h6, E7⟩ := evs_cons E6
      have e7 : M6 = dayM (min a2 a3) (max a2 a3) l2 l3 (i + 1) Mb := Option.some.inj E7
      clear E5 E6 E7
      have ea := F.old _ _ eaB (nS npa dpa)
      have el := F.old _ _ elB (nS npl dpl)
      walk_at "sx"
      refine r_slFrom15 (k := 2) rfl ea (by show 2 ≤ 4; decide) (fun p1 H1 hp1 e1 f1 => ?_)
      walk_at "sx"
      refine r_slFrom15 (k := 2) rfl (f1.lst el) (by show 2 ≤ 4; decide) (fun p2 H2 hp2 e2 f2 => ?_)
      walk_at "sx"
      have oldA : ∀ {p}, H' p = none → ¬ A.has p := fun hp z => by
        obtain ⟨o, e, _⟩ := hA.old z
        rw [hp] at e; cases e
      refine ⟨A, M, M1, p1, p2, a2, a3, l2, l3, rfl, rfl, rfl, (hA.fr0 f1).fr0 f2, O, R.less (by decide), f2.lst e1, e2, oldA hp1, oldA (f1.fresh hp2), E1, fun p3 H3 hp3 e3 hA3 f3 => ?_⟩
      walk_at "sx"
      refine r_newL (by show 4 ≤ 2000; decide) (fun p4 H4 hp4 e4 f4 => ?_)
      refine r_neSame15 (bools_at (xs := [true, true, false, false]) (f4.lst e3)) (bools_at e4) (bools_cmp _) ?_
      walk_at "sx"
      refine ⟨A, M1, N4, 9, rfl, hA3.fr0 f4, O1, R1.less (by decide), E2, fun H5 hA5 f5 => ?_⟩
      have F5 : Fr (fun b => A.foot b ∨ b = du) HB H5 := F.trans (((((f1.trans f2).up.trans f3).trans f4.up).trans f5).mono (fun b hb => .inl hb))
      have nfd : ¬ A.foot du := fun z => ndu (HlA.has_foot z)
      have ls5 := ((((ls.fr f1 (fun z => z)).fr f2 (fun z => z)).fr f3 nfd).fr f4 (fun z => z)).fr f5 nfd
      clear f1 f2 f3 f4 f5 e1 e2 e3 e4 hA3 hp1 hp2 hp3 hp4 ls F
      walk_at "sx"
      refine r_tyL ls5.choose_spec.1 ?_
      walk_at "sx"
      refine r_newT (by show 3 ≤ 2000; decide) (fun p6 H6 hp6 e6 f6 => ?_)
      walk_at "sx"
      refine r_newT (by show 3 ≤ 2000; decide) (fun p7 H7 hp7 e7 f7 => ?_)
      walk_at "sx"
      refine r_newT (by show 2 ≤ 2000; decide) (fun p8 H8 hp8 e8 f8 => ?_)
      walk_at "sx"
      refine r_newT (by show 2 ≤ 2000; decide) (fun p9 H9 hp9 e9 f9 => ?_)
      walk_at "sx"
      have f69 : Fr No H5 H9 := ((f6.trans f7).trans f8).trans f9
      have tdT : Td H9 (.ref p9) (tellD (oldR (min a2 a3) (max a2 a3) i)) := td_tell15 (td_pt15 (x := ⟨max a2 a3, i + 1, 1⟩) (f9.tup _ _ (f8.tup _ _ (f7.tup _ _ e6)))) (td_pt15 (x := ⟨min a2 a3, i + 1, 1⟩) (f9.tup _ _ (f8.tup _ _ e7))) (f9.tup _ _ e8) e9
      refine r_appLs15 (ls5.fr f69 (fun z => z)) tdT (by rw [List.length_map, List.length_cons, olds_len]; omega) (fun H10 ls10 f10 => ?_)
      have hA10 := (hA5.fr0 f69).fr f10 (fun b hb z => ndu (z ▸ hb))
      have F10 : Fr (fun b => A.foot b ∨ b = du) HB H10 := (F5.trans f69.up).trans (f10.mono (fun b hb => .inr hb))
      have e10 : (fstR (min a0 a1) (max a0 a1) :: olds (min a2 a3) (max a2 a3) i).map tellD ++ [tellD (oldR (min a2 a3) (max a2 a3) i)] = N4.tl.map tellD := by
        rw [er, olds_succ, List.map_cons, List.map_cons, List.map_append]
        rfl
      rw [e10] at ls10
      clear f6 f7 f8 f9 f69 e6 e7 e8 e9 tdT hA5 ls5 F5
      walk_at "sx"
      refine r_hmeth hA10 (by decide +kernel) ?_
      walk_at "sx"
      refine ⟨A, N4, rfl, hA10, fun p11 H11 hp11 ls11 f11 => ?_⟩
      walk_at "sx"
      have hl2 : N4.tl.length ≤ 2000 := by have := R2.tl; omega
      refine ⟨_, dd_tells O2 hl2 ls11, dd_tells O2 hl2 (ls10.fr f11 (fun z => z)), told_depth _, fun H12 f12 => ?_⟩
      walk_at "sx"
      refine r_hmeth ((hA10.fr0 f11).fr0 f12) (by decide +kernel) ?_
      walk_at "sx"
      refine ⟨A, N4, rfl, (hA10.fr0 f11).fr0 f12, fun p13 H13 hp13 ls13 f13 => ?_⟩
      walk_at "sx"
      refine r_un ?_
      walk_at "sx"
      refine r_rU ?_
      rw [eb, oldb_succ, List.map_append] at ls13
      refine r_ixLast15 (d := brokD (min a2 a3, i + 1)) ls13 (fun v tv => ?_)
      walk_at "sx"
      refine r_newT (by show 2 ≤ 2000; decide) (fun p14 H14 hp14 e14 f14 => ?_)
      refine r_neSameT15 (tv.fr f14) (.tup e14 (.cons (.int _) (.cons (.int _) .nil))) (brok_cmp15 _) ?_
      have f1014 : Fr No H10 H14 := ((f11.trans f12).trans f13).trans f14
      have hA14 := hA10.fr0 f1014
      have ls14 := ls10.fr f1014 (fun z => z)
      have F14 : Fr (fun b => A.foot b ∨ b = du) HB H14 := F10.trans f1014.up
      clear f11 f12 f13 f14 e14 ls11 ls13 tv f1014 hA10 ls10 F10
      walk_at "sx"
      refine r_hmeth hA14 (by decide +kernel) ?_
      walk_at "sx"
      refine r_ixl (i := 2) (F14.old _ _ elB (nS npl dpl)) rfl ?_
      walk_at "sx"
      refine ⟨A, N4, _, _, rfl, rfl, rfl, hA14, O2, fun w e => (give_no h5 e).elim, fun o H15 eo hA15 f15 => ?_⟩
      obtain ⟨rfl, hA15⟩ := give_yes h5 eo hA15
      have O5 := ev_ok O2 h5
      have F15 : Fr (fun b => A.foot b ∨ b = du) HB H15 := F14.trans (f15.mono (fun b hb => .inl hb))
      refine ⟨rfl, ?_⟩
      walk_at "sx"
      refine r_decN (fun z => absurd rfl z) (fun _ => ?_)
      walk_at "sx"
      refine r_hmeth hA15 (by decide +kernel) ?_
      walk_at "sx"
      refine r_ixl (i := 3) (F15.old _ _ elB (nS npl dpl)) rfl ?_
      walk_at "sx"
      refine ⟨A, M5, _, _, rfl, rfl, rfl, hA15, O5, fun w e => (give_no h6 e).elim, fun o H16 eo hA16 f16 => ?_⟩
      obtain ⟨rfl, hA16⟩ := give_yes h6 eo hA16
      refine ⟨rfl, ?_⟩
      walk_at "sx"
      refine r_decN (fun z => absurd rfl z) (fun _ => ?_)
      walk_at "sx"
      refine ⟨_, rfl, by rw [← e7]; exact hA16, ?_, F15.trans (f16.mono (fun b hb => .inl hb))⟩
      have ls16 := (ls14.fr f15 nfd).fr f16 nfd
      rw [er] at ls16
      exact ls16
    · obtain ⟨x10, rfl, hA, ls, F⟩ := p
      have O := Ok_ n
      obtain ⟨Mz, E0, ez⟩ := day_last (t := n) oS B Ob
      have R := day_room (t := n) B hn
      have ti := day_ti (t := n) ol B Ob
      have ri := day_rings (t := n) B
      have em : (dayM (min a2 a3) (max a2 a3) l2 l3 n Mb).t.m = 4 := B.m
      obtain ⟨v1, v2, v3, v4, _⟩ := ol
      clear Ok_ Tu_ B Ob hAB lsB
      generalize dayM (min a2 a3) (max a2 a3) l2 l3 n Mb = M at *
      obtain ⟨M1, h1, E1⟩ := evs_cons (show M.evs (.again :: (turnC 9 ++ [.told _, .broke _])) = some Mz from E0)
      have e1 : M1 = M.again := (Option.some.inj h1).symm
      obtain ⟨M2, E1, E2⟩ := evs_app (es := turnC 9) E1
      have O1 := ev_ok O h1
      have R1 : M1.Room 99 := ev_room (n := 99) O R h1
      have O2 := evs_ok O1 E1
      have R2 : M2.Room 89 := evs_room (n := 89) (es := turnC 9) O1 R1 E1
      obtain ⟨N3, n3, E4⟩ := evs_cons E2
      obtain ⟨er, u3⟩ := ev_if n3
      obtain ⟨N4, n4, E5⟩ := evs_cons E4
      obtain ⟨eb, u4⟩ := ev_if n4
      have ez2 : M2.t.ringsT = [] := by
        have : Mz = M2 := by rw [← Option.some.inj (show some N4 = some Mz from E5), u4, u3]
        rw [← this]
        exact ez
      rw [u3] at eb
      clear E0 E2 E4 E5 n3 n4 u3 u4 ez
      have nfd : ¬ A.foot du := fun z => ndu (HlA.has_foot z)
      have el := F.old _ _ elB (nS npl dpl)
      have ef := F.tup _ _ efB
      walk_at "sx"
      refine r_hmeth hA (by decide +kernel) ?_
      walk_at "sx"
      refine ⟨A, M, rfl, hA, fun C G1 hC f1 hn1 => ?_⟩
      have el1 := f1.lst el
      walk_at "sx"
      refine r_lcL (a := pl) (xs := [nV l0, nV l1, nV l2, nV l3]) (fun _ => true) (fun i => .int ((M.t.ti ([l0, l1, l2, l3].getD i 0) : Nat) : Int)) (by show 4 ≤ 2000; decide) (fun Q q => by walk_at "sx"; exact q) el1 (fun _ => rfl) (fun i x H' hx f => tells_yes) (fun i x H' hx _ f Q q => ?_) (fun p2 G2 hp2 hl2 f2 => ?_)
      · obtain ⟨l, hl4, rfl, eg⟩ : ∃ l : Nat, l < 4 ∧ x = nV l ∧ [l0, l1, l2, l3].getD i 0 = l := by
          match i, hx with
          | 0, hx => cases hx; exact ⟨l0, v1, rfl, rfl⟩
          | 1, hx => cases hx; exact ⟨l1, v2, rfl, rfl⟩
          | 2, hx => cases hx; exact ⟨l2, v3, rfl, rfl⟩
          | 3, hx => cases hx; exact ⟨l3, v4, rfl, rfl⟩
          | k + 4, hx => cases hx
        rw [eg] at q
        walk_at "sx"
        refine r_tmeth (hC.fr0 f) (by decide +kernel) ?_
        walk_at "sx"
        refine ⟨C, M.t, (l : Int), rfl, rfl, hC.fr0 f, fun _ => ?_, fun z => absurd (show M.t.isL (l : Int) from ⟨by omega, by rw [em]; omega⟩) z⟩
        rw [Int.toNat_natCast]
        exact q _ H' Fr.refl (.int _)
      have hl2' : LsAt G2 p2 [.int 1, .int 1, .int (2 * (n : Int)), .int (n : Int)] := by
        have e : turns (fun _ => true) (fun i => PyData.int ((M.t.ti ([l0, l1, l2, l3].getD i 0) : Nat) : Int)) [nV l0, nV l1, nV l2, nV l3].length = [.int 1, .int 1, .int (2 * (n : Int)), .int (n : Int)] := by
          show [PyData.int ((M.t.ti l0 : Nat) : Int), PyData.int ((M.t.ti l1 : Nat) : Int), PyData.int ((M.t.ti l2 : Nat) : Int), PyData.int ((M.t.ti l3 : Nat) : Int)] = _
          rw [ti.1, ti.2.1, ti.2.2.1, ti.2.2.2]
          rfl
        rw [← e]
        exact hl2
      walk_at "sx"
      refine r_I (by first | omega | (constructor <;> omega) | decide) ?_
      walk_at "sx"
      refine r_newL (by show 4 ≤ 2000; decide) (fun p3 G3 hp3 e3 f3 => ?_)
      refine r_neSame15 (hl2'.fr f3 (fun z => z)) ⟨_, e3, .cons (.int _) (.cons (.int _) (.cons (.int _) (.cons (.int _) .nil)))⟩ (.cons (int_cmp15 _) (.cons (int_cmp15 _) (.cons (int_cmp15 _) (.cons (int_cmp15 _) .nil)))) ?_
      have f13 := (f1.trans f2).trans f3
      have hC3 := (hC.fr0 f2).fr0 f3
      walk_at "sx"
      refine ⟨C, M.t, rfl, hC3, O.t, fun p4 G4 hp4 ls4 f4 => ?_⟩
      rw [ri] at ls4
      walk_at "sx"
      refine r_newL (by show 1 ≤ 2000; decide) (fun p5 G5 hp5 e5 f5 => ?_)
      have f15 := (f13.trans f4).trans f5
      refine r_neSame15 (ds := [[max a0 a1, min a0 a1]].map ringD) (ls4.fr f5 (fun z => z)) ⟨_, e5, .cons (.tup (f15.tup _ _ ef) (.cons (.int _) (.cons (.int _) .nil))) .nil⟩ (rings_cmp15 _) ?_
      have hA5 := hA.fr0 f15
      have ls5 := ls.fr f15 (fun z => z)
      have ef5 := f15.tup _ _ ef
      clear f1 f2 f3 f4 f5 f13 f15 e3 e5 ls4 hl2 hl2' hC hC3 hn1 el1
      walk_at "sx"
      refine r_hmeth hA5 (by decide +kernel) ?_
      walk_at "sx"
      refine ⟨A, M, rfl, hA5, O, by have := R.rd; omega, fun G6 hA6 f6 => ?_⟩
      rw [← e1] at hA6
      walk_at "sx"
      refine ⟨A, M1, M2, 9, rfl, hA6, O1, R1.less (by decide), E1, fun G7 hA7 f7 => ?_⟩
      have ls7 := (ls5.fr f6 nfd).fr f7 nfd
      have ef7 := f7.tup _ _ (f6.tup _ _ ef5)
      rw [← er] at ls7
      walk_at "sx"
      refine r_hmeth hA7 (by decide +kernel) ?_
      walk_at "sx"
      refine ⟨A, M2, rfl, hA7, fun p8 G8 hp8 ls8 f8 => ?_⟩
      walk_at "sx"
      have hl2 : M2.tl.length ≤ 2000 := by have := R2.tl; omega
      refine ⟨_, dd_tells O2 hl2 ls8, dd_tells O2 hl2 (ls7.fr f8 (fun z => z)), told_depth _, fun G9 f9 => ?_⟩
      have hA9 := (hA7.fr0 f8).fr0 f9
      have ef9 := f9.tup _ _ (f8.tup _ _ ef7)
      walk_at "sx"
      refine r_hmeth hA9 (by decide +kernel) ?_
      walk_at "sx"
      refine ⟨A, M2, rfl, hA9, fun C' G10 hC' f10 hn10 => ?_⟩
      walk_at "sx"
      refine ⟨C', M2.t, rfl, hC', O2.t, fun p11 G11 hp11 ls11 f11 => ?_⟩
      rw [ez2] at ls11
      walk_at "sx"
      refine r_newL (Nat.zero_le _) (fun p12 G12 hp12 e12 f12 => ?_)
      refine r_neNil (ls11.fr f12 (fun z => z)).dp .nil e12 ?_
      walk_at "sx"
      refine r_decN (fun z => absurd rfl z) (fun _ => ?_)
      have f912 := (f10.trans f11).trans f12
      have hA12 := hA9.fr0 f912
      have ef12 := f912.tup _ _ ef9
      walk_at "sx"
      refine r_hmeth hA12 (by decide +kernel) ?_
      walk_at "sx"
      refine ⟨A, M2, rfl, hA12, fun p13 G13 hp13 ls13 f13 => ?_⟩
      walk_at "sx"
      refine r_lcR (n := n) (fun _ => true) (fun i => brokD (min a2 a3, i + 1)) (by omega) (fun Q q => by walk_at "sx"; exact q) (fun _ => rfl) (fun i H' hi f => tells_yes) (fun i H' hi _ f Q q => ?_) (fun p14 G14 hp14 ls14 f14 => ?_)
      · walk_at "sx"
        refine r_newT (by show 2 ≤ 2000; decide) (fun t H6 ht et f6 => ?_)
        exact q _ H6 f6 (.tup et (.cons (.int _) (.cons (.int _) .nil)))
      have e14 : turns (fun _ => true) (fun i => brokD (min a2 a3, i + 1)) n = (oldb (min a2 a3) n).map brokD := by
        rw [turns_all]
        unfold oldb
        rw [List.map_map]
        rfl
      rw [e14] at ls14
      walk_at "sx"
      refine r_ixt (i := 1) (f14.tup _ _ (f13.tup _ _ ef12)) rfl ?_
      walk_at "sx"
      refine r_newT (by show 2 ≤ 2000; decide) (fun p15 G15 hp15 e15 f15 => ?_)
      walk_at "sx"
      refine r_newL (by show 1 ≤ 2000; decide) (fun p16 G16 hp16 e16 f16 => ?_)
      have ls16 := (ls14.fr f15 (fun z => z)).fr f16 (fun z => z)
      obtain ⟨vs, ev, tv⟩ := ls16
      have hvl : vs.length = n := by rw [tv.len, List.length_map, oldb_len]
      refine r_cat ev e16 (by rw [hvl]; show n + 1 ≤ 2000; omega) (fun p17 G17 hp17 e17 f17 => ?_)
      walk_at "sx"
      have ls17 : LsAt G17 p17 (M2.br.map brokD) := by
        rw [eb, List.map_append]
        exact ⟨_, e17, (tv.app (.cons (.tup (f16.tup _ _ e15) (.cons (.int _) (.cons (.int _) .nil))) .nil)).fr f17⟩
      have hbl : M2.br.length ≤ 2000 := by have := R2.br; omega
      refine ⟨_, dd_broks hbl (((ls13.fr f14 (fun z => z)).fr f15 (fun z => z)).fr (f16.trans f17) (fun z => z)), dd_broks hbl ls17, brok_depth15 _, fun G18 f18 => ?_⟩
      exact hq _
end
theorem at_law {w : World} {mg : Str → Option Value} {h : Heap} {fx : Addr} (G : h.Ns mainGlobals mg) (hmg : mg "law" = some (.ref fx)) (Y : ∃ K : PySem.W.Frag, K.In h ∧ He.SaysX fa fn [] tf ex w h K) :
    ∃ K : PySem.W.Frag, K.In h ∧ LamX.LawAtS PySem.Challenge.rw_asklock_k15_whole_long_days w K (L2.CX (PySem.Challenge.rw_asklock_k15_whole_long_days).prog w) 11 63 "_law_script" mg fx h := by
  obtain ⟨K, X, c⟩ := Y
  have TX : Txt K mg := txt_of X G c.t.d c.more
  have e := hmg.symm.trans TX.g_law
  cases e
  obtain ⟨fd, F⟩ := TX.f_law
  have bb := FunD.bindsA (ps := ["_law_script"]) F fun _ _ _ _ _ _ us hl => match us, hl with | [_], _ => rfl
  refine ⟨K, X, fd, tf.map (fun d => He.cT K d), sp_law (Ts K) K, fun p hp => ?_, fun p hp => ?_, fun p hp => ?_, fun s u => bb s [u] rfl, ?_, ?_⟩
  · obtain ⟨d, hd, rfl⟩ := List.mem_map.mp hp
    exact c.empty d hd
  · obtain ⟨d, hd, rfl⟩ := List.mem_map.mp hp
    exact c.out d hd
  · obtain ⟨d, hd, rfl⟩ := List.mem_map.mp hp
    exact PySem.W.codeHd_of_K X (c.hd d hd)
  · intro H a ns hl _ hT hS
    refine ⟨.ref a, rfl, a, ns, rfl, hS, hl, fun p hp => ?_, fun H' => rfl⟩
    obtain ⟨d, hd, e⟩ := List.mem_map.mp hp
    have hz := hT _ (List.mem_map.mpr ⟨d, hd, rfl⟩)
    rw [← e]
    exact LamX.TabS.nil hz
  · intro base Kb Gb TB
    exact ok_law (P := (PySem.Challenge.rw_asklock_k15_whole_long_days).prog) (w := w) (base := base) TX F
end AL
open PySem PySem.W PySem.Calls PyProof.Rows
theorem PySem.Challenge.cw_asklock_k15_whole_long_days_holds : PySem.Challenge.rw_asklock_k15_whole_long_days.Holds := by
  w_on; o_law
  refine HandSHeadRun.head_any (r := OpenLaw.row PySem.Challenge.rw_asklock_k15_whole_long_days) (q := view (OpenLaw.row PySem.Challenge.rw_asklock_k15_whole_long_days).prog [36]) (H := AL.hk) (ob := AL.ob) (M := 12000) (loose := AL.loose) (d := HandSHeadRun.topDef (OpenLaw.row PySem.Challenge.rw_asklock_k15_whole_long_days).prog 36) (kwd := []) AL.ob_eq
    (by kernel_rfl) (fun s => by kernel_rfl) AL.run (by kernel_rfl) (by kernel_rfl) (by kernel_rfl) (by rfl) (by first | assumption | decide +kernel) (by decide +kernel) ⟨rfl, rfl, rfl, rfl, rfl, by decide +kernel⟩ ?hw ?hc
  case hw => w_witness2
  case hc =>
    refine LamX.walk_ofTsE (l := PySem.Challenge.rw_asklock_k15_whole_long_days) (n := 63) (k := 11) (x := "_law_script") (CX := fun w => L2.CX (PySem.Challenge.rw_asklock_k15_whole_long_days).prog w) rfl (by decide) (by kernel_rfl) ⟨rfl, by decide, by decide⟩ ?F (fun w H s e s' z => ?_)
    case F =>
      intro w mg fx h Y G hmg0
      have hmg : mg ("law" : PySem.Str) = some (.ref fx) := by
        have e : (HandSHeadRun.topDef (OpenLaw.row PySem.Challenge.rw_asklock_k15_whole_long_days).prog 36).name = ("law" : PySem.Str) := by kernel_rfl
        rw [← e]
        exact hmg0
      exact AL.at_law G hmg Y
    · obtain ⟨_, _, _, _, _, _, _, _, _, _, _, _, z⟩ := z
      exact z
